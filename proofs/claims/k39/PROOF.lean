import PyProof.Rows.All
import HandS.ForMost
import HandS.Wide
import HandS.FStr
import PyProof.StrBlock2
import PyProof.Rows.SetFrom
import PyProof.ListNew
import KE.KDictZip
import HandS.Rev
import HandS.TupAny
import HandS.TupMul
import HandS.Deep
import HandS.Strs
import HandS.Style
import HandS.Conv
import HandS.More
import HandS.SetFor
import PyProof.ReprRoads
import HandS.SortInts
import HandS.SortRule
import HandS.TupSets
import HandS.SetTxt0
import PyProof.CollectStr
import PyProof.Rows.SortShellK
import PyProof.Rows.SortStr
import HandS.IsInst
import KE.DataEq
import KE.DataCmp
import HandS.Dict
import HandS.RaiseMore
import HandS.Walk
import HandS.Zip
import HandS.Exc
import HandS.TryOnly
import HandS.ExcOwn
import HandS.ExcIs
import PyProof.ExcBaseAll.ValueError
import KE.GoesEnum
import KE.GoesZip
import HandS.ExcValue
import PyProof.DictUpdate
import KE.KDictOf
import KE.IntBitsLaws
import PyProof.Rows.StrCountLaw
import PyProof.Rows.StrJoinRep
import PySem.Challenge.RW_pagewalks_k39_shares_by_kinds
set_option Elab.async false
set_option linter.all false
set_option maxRecDepth 100000
set_option maxHeartbeats 2000000
set_option maxHeartbeats 3200000
set_option maxHeartbeats 4000000
/-! Ip, part A: a small interpreter over plain data: its values, its heap, its outcomes. -/
namespace Ip
open PySem

/-- a value: tuples by their items, a list by its place in the heap; frz: a list that nobody changes (the script); dct: a dict of int keys that nobody changes; obj: an instance of an own class by its place -/
inductive D where
  | non | bl (b : Bool) | int (i : Int) | str (x : Str) | ty (n : String) | tup (ds : List D) | frz (ds : List D) | ref (n : Nat) | dct (ks : List Int) (ds : List D) | obj (n : Nat)
  deriving Inhabited

/-- what stands in the heap -/
inductive O where
  | lst (ds : List D) | ins (c : Str) (fs : List (Str × D))
  deriving Inhabited

abbrev Hh := List O

/-- an outcome -/
inductive Out (α : Type) where
  | ok (a : α) (h : Hh) | exn (c : Str) (h : Hh) | stuck

def Out.bind {α β : Type} (o : Out α) (f : α → Hh → Out β) : Out β :=
  match o with
  | .ok a h => f a h
  | .exn c h => .exn c h
  | .stuck => .stuck
@[simp] theorem Out.bind_ok {α β : Type} (a : α) (h : Hh) (f : α → Hh → Out β) : (Out.ok a h).bind f = f a h := rfl
@[simp] theorem Out.bind_exn {α β : Type} (c : Str) (h : Hh) (f : α → Hh → Out β) : (Out.exn c h).bind f = .exn c h := rfl
@[simp] theorem Out.bind_stuck {α β : Type} (f : α → Hh → Out β) : (Out.stuck : Out α).bind f = .stuck := rfl

/-- an exception is not carried -/
def Out.calm {α : Type} (o : Out α) : Out α :=
  match o with
  | .ok a h => .ok a h
  | _ => .stuck
@[simp] theorem Out.calm_ok {α : Type} (a : α) (h : Hh) : (Out.ok a h).calm = .ok a h := rfl

abbrev Env := List (Option D)

/-- ok where c holds, else stuck -/
noncomputable def need {α : Type} (c : Prop) (o : Out α) : Out α := open Classical in if c then o else .stuck
theorem need_pos {α : Type} {c : Prop} {o : Out α} (h : c) : need c o = o := by unfold need; rw [if_pos h]
theorem need_neg {α : Type} {c : Prop} {o : Out α} (h : ¬ c) : need c o = .stuck := by unfold need; rw [if_neg h]

/-- a new list -/
noncomputable def mkL (ds : List D) (h : Hh) : Out D := need (ds.length ≤ sizeLine) (.ok (.ref h.length) (h ++ [.lst ds]))

/-- the items of a list or tuple -/
def seqOf (h : Hh) : D → Option (List D)
  | .tup ds => some ds
  | .frz ds => some ds
  | .ref n => match h[n]? with
    | some (.lst ds) => some ds
    | _ => none
  | _ => none

/-- the items of a list -/
def seqL (h : Hh) : D → Option (List D)
  | .frz ds => some ds
  | .ref n => match h[n]? with
    | some (.lst ds) => some ds
    | _ => none
  | _ => none

/-- plain data of a value, for == -/
def toP : Nat → Hh → D → Option PyData
  | _, _, .non => some .none
  | _, _, .bl b => some (.bool b)
  | _, _, .int i => some (.int i)
  | _, _, .str x => some (.str x)
  | _, _, .ty _ => none
  | _, _, .dct _ _ => none
  | _, _, .obj _ => none
  | n + 1, h, .tup ds => (ds.mapM (toP n h)).map .tuple
  | n + 1, h, .frz ds => (ds.mapM (toP n h)).map .list
  | n + 1, h, .ref r => match h[r]? with
    | some (.lst ds) => (ds.mapM (toP n h)).map .list
    | _ => none
  | 0, _, _ => none

def eqD (h : Hh) (x y : D) : Option Bool :=
  match toP 66 h x, toP 66 h y with
  | some d, some e => if SeqAt.shaped d && SeqAt.shaped e then some (PyData.eqv d e) else none
  | _, _ => none

/-- .. texts too, whatever they hold -/
def eqX (h : Hh) (x y : D) : Option Bool :=
  match x, y with
  | .str a, .str b => some (decide (a = b))
  | x, y => eqD h x y
/-- x in y, y a list or tuple of data -/
def inD (h : Hh) (x y : D) : Option Bool :=
  match toP 66 h x, toP 66 h y with
  | some d, some (.list ds) => if SeqAt.shaped d && PyData.canLayAll0 ds && decide (d.depth ≤ 60) then some (ds.any fun z => PyData.eqv z d) else none
  | some d, some (.tuple ds) => if SeqAt.shaped d && PyData.canLayAll0 ds && decide (d.depth ≤ 60) then some (ds.any fun z => PyData.eqv z d) else none
  | _, _ => none

/-- a text's signs, each a text -/
def signs (z : Str) : List D := z.cps.toList.map fun c => .str ⟨#[c]⟩
/-- texts alone -/
def strsOf : List D → Option (List Str)
  | [] => some []
  | .str x :: ds => (strsOf ds).map (x :: ·)
  | _ => none
/-- truths alone -/
def boolsOf : List D → Option (List Bool)
  | [] => some []
  | .bl b :: ds => (boolsOf ds).map (b :: ·)
  | _ => none
/-- a sign -/
def signOf (x : Str) : Option Nat := match x.cps.toList with
  | [c] => some c
  | _ => none
/-! ### operators -/
inductive Bop where | add | sub | mul | fdiv | mod | pow
  deriving DecidableEq
noncomputable def opAdd (x y : D) (h : Hh) : Out D :=
  match x, y with
  | .int i, .int j => .ok (.int (i + j)) h
  | .tup a, .tup b => need (a.length + b.length ≤ sizeLine) (.ok (.tup (a ++ b)) h)
  | .str a, .str b => need (a.length + b.length ≤ sizeLine) (.ok (.str (a ++ b)) h)
  | .ref a, .ref b => match h[a]?, h[b]? with
    | some (.lst xs), some (.lst ys) => need (xs.length + ys.length ≤ sizeLine) (mkL (xs ++ ys) h)
    | _, _ => .stuck
  | .bl a, .bl b => .ok (.int ((if a = true then 1 else 0) + (if b = true then 1 else 0))) h
  | _, _ => .stuck
def opSub (x y : D) (h : Hh) : Out D :=
  match x, y with
  | .int i, .int j => .ok (.int (i - j)) h
  | _, _ => .stuck
noncomputable def opMul (x y : D) (h : Hh) : Out D :=
  match x, y with
  | .int i, .int j => need (IntMulOk i j) (.ok (.int (i * j)) h)
  | .ref a, .int k => match h[a]? with
    | some (.lst xs) => need (-(2 ^ 63) ≤ k ∧ k < 2 ^ 63 ∧ xs.length * k.toNat ≤ sizeLine) (mkL (List.replicate k.toNat xs).flatten h)
    | _ => .stuck
  | .tup a, .int k => need (1 ≤ k ∧ k ≤ 1000 ∧ a.length ≤ 1000) (.ok (.tup (List.replicate k.toNat a).flatten) h)
  | .str x, .int k => need (MulOk x k) (.ok (.str (Txt.mul x k)) h)
  | _, _ => .stuck
noncomputable def opFdiv (x y : D) (h : Hh) : Out D :=
  match x, y with
  | .int i, .int j => need (j ≠ 0) (.ok (.int (i.fdiv j)) h)
  | _, _ => .stuck
noncomputable def opMod (x y : D) (h : Hh) : Out D :=
  match x, y with
  | .int i, .int j => need (j ≠ 0) (.ok (.int (i.fmod j)) h)
  | _, _ => .stuck
noncomputable def opPow (x y : D) (h : Hh) : Out D :=
  match x, y with
  | .int i, .int j => need (0 ≤ j ∧ j ≤ 1000000 ∧ i.natAbs < 2 ^ 64) (.ok (.int (i ^ j.toNat)) h)
  | _, _ => .stuck
noncomputable def binop : Bop → D → D → Hh → Out D
  | .add => opAdd
  | .sub => opSub
  | .mul => opMul
  | .fdiv => opFdiv
  | .mod => opMod
  | .pow => opPow

/-- ints alone -/
def intsOf : List D → Option (List Int)
  | [] => some []
  | .int i :: ds => (intsOf ds).map (i :: ·)
  | _ => none
/-- x < y of two lists of ints -/
def ltL : List Int → List Int → Bool
  | [], [] => false
  | [], _ :: _ => true
  | _ :: _, [] => false
  | x :: xs, y :: ys => if x = y then ltL xs ys else decide (x < y)
inductive Cop where | eq | ne | lt | le | gt | ge | is | isnot | «in» | notin
  deriving DecidableEq
def cmpI (f : Int → Int → Bool) (x y : D) (h : Hh) : Out D :=
  match x, y with
  | .int i, .int j => .ok (.bl (f i j)) h
  | _, _ => .stuck
def cmpLt (x y : D) (h : Hh) : Out D :=
  match x, y with
  | .int i, .int j => .ok (.bl (decide (i < j))) h
  | .ref a, .ref b => match h[a]?, h[b]? with
    | some (.lst xs), some (.lst ys) => match intsOf xs, intsOf ys with
      | some ms, some ns => if ms.length ≤ ns.length then .ok (.bl (ltL ms ns)) h else .stuck
      | _, _ => .stuck
    | _, _ => .stuck
  | .tup xs, .tup ys => match intsOf xs, intsOf ys with
    | some ms, some ns => .ok (.bl (ltL ms ns)) h
    | _, _ => .stuck
  | _, _ => .stuck
/-- x > y: ints, or two tuples of ints alike in length -/
def cmpGt (x y : D) (h : Hh) : Out D :=
  match x, y with
  | .int i, .int j => .ok (.bl (decide (j < i))) h
  | .tup xs, .tup ys => match intsOf xs, intsOf ys with
    | some ms, some ns => if ms.length = ns.length then .ok (.bl (ltL ns ms)) h else .stuck
    | _, _ => .stuck
  | _, _ => .stuck
def ofB (h : Hh) : Option Bool → Out D
  | some b => .ok (.bl b) h
  | none => .stuck
def cmpop : Cop → D → D → Hh → Out D
  | .eq => fun x y h => ofB h (eqX h x y)
  | .ne => fun x y h => ofB h ((eqX h x y).map not)
  | .lt => cmpLt
  | .le => cmpI fun i j => decide (i ≤ j)
  | .gt => cmpGt
  | .ge => cmpI fun i j => decide (j ≤ i)
  | .is => fun x y h => match y with
    | .non => .ok (.bl (match x with | .non => true | _ => false)) h
    | .bl b => match x with
      | .bl a => .ok (.bl (decide (a = b))) h
      | _ => .stuck
    | _ => .stuck
  | .isnot => fun x y h => match y with
    | .non => .ok (.bl (match x with | .non => false | _ => true)) h
    | .bl b => match x with
      | .bl a => .ok (.bl (!decide (a = b))) h
      | _ => .stuck
    | _ => .stuck
  | .in => fun x y h => match y with
    | .dct ks _ => match x with
      | .int i => .ok (.bl (decide (i ∈ ks))) h
      | _ => .stuck
    | .str z => match x with
      | .str a => match signOf a with
        | some c => .ok (.bl (decide (c ∈ z.cps.toList))) h
        | none => .stuck
      | _ => .stuck
    | y => ofB h (inD h x y)
  | .notin => fun x y h => match y with
    | .dct ks _ => match x with
      | .int i => .ok (.bl (!decide (i ∈ ks))) h
      | _ => .stuck
    | .str z => match x with
      | .str a => match signOf a with
        | some c => .ok (.bl (!decide (c ∈ z.cps.toList))) h
        | none => .stuck
      | _ => .stuck
    | y => ofB h ((inD h x y).map not)

/-! ### the trees -/
inductive Bi where | abs | len | int | isinst | sum | list | tuple | max | min | range | enumerate | zip | sorted | repr | str | all
  deriving DecidableEq
/-- a value's built-in type -/
def tyOf : D → Option String
  | .non => some "NoneType"
  | .bl _ => some "bool"
  | .int _ => some "int"
  | .str _ => some "str"
  | .ty _ => none
  | .tup _ => some "tuple"
  | .frz _ => some "list"
  | .ref _ => some "list"
  | .dct _ _ => some "dict"
  | .obj _ => none
def isInst (d : D) (t : String) : Option Bool :=
  match tyOf d with
  | some a => if t ∈ ["int", "bool", "str", "tuple", "list", "dict"] then some (a == t || (a == "bool" && t == "int")) else none
  | none => none
/-- a pair of ints -/
def pairOf : D → Option (Int × Int)
  | .tup [.int a, .int b] => some (a, b)
  | _ => none
def pairsOf : List D → Option (List (Int × Int))
  | [] => some []
  | d :: ds => match pairOf d, pairsOf ds with
    | some p, some ps => some (p :: ps)
    | _, _ => none
def leP (p q : Int × Int) : Bool := decide (p.1 < q.1) || (decide (p.1 = q.1) && decide (p.2 ≤ q.2))
def leI (a b : Int) : Bool := decide (a ≤ b)
inductive Mt where | append | extend | popAt | count | insert | remove | index | join | split
  deriving DecidableEq
inductive Mt0 where | pop | reverse | clear
  deriving DecidableEq
inductive Ex where
  | non | bl (b : Bool) | int (i : Int) | str (x : Str) | con (d : D)
  | var (i : Nat)
  | tup (es : List Ex) | lst (es : List Ex) | dct (es : List Ex)
  | bin (op : Bop) (a b : Ex)
  | neg (a : Ex)
  | cmp (op : Cop) (a b : Ex)
  | chain (o1 o2 : Cop) (a b c : Ex)
  | and (a b : Ex) | or (a b : Ex) | not (a : Ex)
  | ite (c a b : Ex)
  | call (f : Str) (es : List Ex)
  | bi (b : Bi) (es : List Ex)
  | mt (m : Mt) (o : Ex) (es : List Ex)
  | ix (a b : Ex)
  | sl (a lo hi : Ex)
  | lc (it tg e : Ex) (own : List Nat)
  | lcIf (it tg c e : Ex) (own : List Nat)
  | lenum (a : Ex)
  | lrev (a : Ex)
  | lrange (es : List Ex)
  | lset (a : Ex)
  | sset (a : Ex)
  | fmt (a : Ex)
  | fstr (es : List Ex)
  | slS (a lo hi st : Ex)
  | mt0 (m : Mt0) (o : Ex)
  | fld (a : Ex) (f : Str)
  | meth (f c m : Str) (o : Ex) (es : List Ex)
  | make (f c : Str) (es : List Ex)
  deriving Inhabited

abbrev CallT := Str → List D → Hh → Out D

def fAbs (ds : List D) (h : Hh) : Out D :=
  match ds with
  | [.int i] => .ok (.int (if i < 0 then -i else i)) h
  | _ => .stuck
noncomputable def fLen (ds : List D) (h : Hh) : Out D :=
  match ds with
  | [.str x] => need (x.length ≤ sizeLine) (.ok (.int x.length) h)
  | [d] => match seqOf h d with
    | some xs => .ok (.int xs.length) h
    | none => .stuck
  | _ => .stuck
def fInt (ds : List D) (h : Hh) : Out D :=
  match ds with
  | [.int i] => .ok (.int i) h
  | [.bl b] => .ok (.int (if b then 1 else 0)) h
  | [.str x] => if x.length ≤ 640 then (match intText? x with
    | some n => .ok (.int n) h
    | none => .stuck) else .stuck
  | _ => .stuck
/-- str of an int or a text -/
def fStr (ds : List D) (h : Hh) : Out D :=
  match ds with
  | [.int i] => if i.natAbs.log2 < 1920 then .ok (.str (Str.ofString (toString i))) h else .stuck
  | [.str x] => .ok (.str x) h
  | _ => .stuck
/-- all of a list of truths -/
def fAll (ds : List D) (h : Hh) : Out D :=
  match ds with
  | [d] => match seqL h d with
    | some xs => match boolsOf xs with
      | some bs => .ok (.bl (bs.all id)) h
      | none => .stuck
    | none => .stuck
  | _ => .stuck
def fIsi (ds : List D) (h : Hh) : Out D :=
  match ds with
  | [d, .ty t] => ofB h (isInst d t)
  | _ => .stuck
def fSum (ds : List D) (h : Hh) : Out D :=
  match ds with
  | [d] => match seqL h d with
    | some xs => match intsOf xs with
      | some ns => .ok (.int ns.sum) h
      | none => .stuck
    | none => .stuck
  | _ => .stuck
noncomputable def fList (ds : List D) (h : Hh) : Out D :=
  match ds with
  | [d] => match seqOf h d with
    | some xs => mkL xs h
    | none => .stuck
  | _ => .stuck
def fTuple (ds : List D) (h : Hh) : Out D :=
  match ds with
  | [d] => match seqOf h d with
    | some xs => .ok (.tup xs) h
    | none => .stuck
  | _ => .stuck
def fMax (ds : List D) (h : Hh) : Out D :=
  match ds with
  | [.int i, .int j] => .ok (.int (if j > i then j else i)) h
  | [d] => match seqL h d with
    | some xs => match intsOf xs with
      | some ns => match ns.max? with
        | some m => .ok (.int m) h
        | none => .stuck
      | none => .stuck
    | none => .stuck
  | _ => .stuck
def fMin (ds : List D) (h : Hh) : Out D :=
  match ds with
  | [.int i, .int j] => .ok (.int (if j < i then j else i)) h
  | _ => .stuck
noncomputable def fSorted (ds : List D) (h : Hh) : Out D :=
  match ds with
  | [d] => match seqL h d with
    | some xs => match intsOf xs with
      | some ns => mkL ((ns.mergeSort leI).map D.int) h
      | none => match pairsOf xs with
        | some ps => mkL ((ps.mergeSort leP).map fun p => .tup [.int p.1, .int p.2]) h
        | none => .stuck
    | none => match d with
      | .tup xs => match pairsOf xs with
        | some ps => mkL ((ps.mergeSort leP).map fun p => .tup [.int p.1, .int p.2]) h
        | none => .stuck
      | _ => .stuck
  | _ => .stuck
/-- repr of plain data -/
noncomputable def fRepr (ds : List D) (h : Hh) : Out D :=
  match ds with
  | [d] => match toP 66 h d with
    | some p => if SeqAt.shaped p && p.showable && decide (p.shown.length ≤ sizeLine) then .ok (.str p.shown) h else .stuck
    | none => .stuck
  | _ => .stuck
noncomputable def evB : Bi → List D → Hh → Out D
  | .abs => fAbs
  | .len => fLen
  | .int => fInt
  | .isinst => fIsi
  | .sum => fSum
  | .list => fList
  | .tuple => fTuple
  | .max => fMax
  | .min => fMin
  | .range => fun _ _ => .stuck
  | .enumerate => fun _ _ => .stuck
  | .zip => fun _ _ => .stuck
  | .sorted => fSorted
  | .repr => fRepr
  | .str => fStr
  | .all => fAll

def lkD : List Int → List D → Int → Option D
  | k :: ks, d :: ds, i => if k = i then some d else lkD ks ds i
  | _, _, _ => none
noncomputable def getIx (x i : D) (h : Hh) : Out D :=
  match i with
  | .int k => match x with
    | .dct ks ds => match lkD ks ds k with
      | some d => .ok d h
      | none => .stuck
    | .str z => if z.length ≤ sizeLine then (match L2.atI z.cps.toList k with
      | some c => .ok (.str ⟨#[c]⟩) h
      | none => .stuck) else .stuck
    | x => match seqOf h x with
      | some ds => match L2.atI ds k with
        | some d => .ok d h
        | none => .stuck
      | none => .stuck
  | _ => .stuck
/-- keys and values in turn -/
def pairsK : List D → Option (List Int × List D)
  | [] => some ([], [])
  | .int i :: d :: ds => (pairsK ds).map fun p => (i :: p.1, d :: p.2)
  | _ => none
/-- a dict as it is written -/
noncomputable def mkDct (ds : List D) (h : Hh) : Out D :=
  match pairsK ds with
  | some (ks, vs) => need (ks.Nodup ∧ ks.length ≤ 15) (.ok (.dct ks vs) h)
  | none => .stuck
/-- dict(zip(x, y)), and a dict of other keys behind it -/
noncomputable def dzuD (x y z : D) (h : Hh) : Out D :=
  match x, y, z with
  | .ref n, .ref m, .dct ks2 vs2 => match h[n]?, h[m]? with
    | some (.lst xs), some (.lst ys) => match intsOf xs with
      | some ks => need (ks.length = ys.length ∧ (ks ++ ks2).Nodup ∧ (ks ++ ks2).length ≤ sizeLine) (.ok (.dct (ks ++ ks2) (ys ++ vs2)) h)
      | none => .stuck
    | _, _ => .stuck
  | _, _, _ => .stuck

noncomputable def dzuL (ds : List D) (z : D) (h : Hh) : Out D :=
  match ds with
  | [x, y] => dzuD x y z h
  | _ => .stuck

/-- of a list alone -/
noncomputable def getIxL (x i : D) (h : Hh) : Out D :=
  match x with
  | .ref n => getIx (.ref n) i h
  | _ => .stuck

def asB (d : D) (h : Hh) : Out Bool :=
  match d with
  | .bl b => .ok b h
  | _ => .stuck

/-- a part of a slice -/
def partOf (d : D) (h : Hh) : Out (Option Int) :=
  match d with
  | .non => .ok none h
  | .int i => .ok (some i) h
  | _ => .stuck
def cutD (ds : List D) (lo hi : Option Int) : List D := (ds.drop (HT.sIx ds.length 0 lo)).take (HT.sIx ds.length ds.length hi - HT.sIx ds.length 0 lo)
noncomputable def slD (x : D) (lo hi : Option Int) (h : Hh) : Out D :=
  match x with
  | .tup ds => .ok (.tup (cutD ds lo hi)) h
  | .frz ds => mkL (cutD ds lo hi) h
  | .ref n => match h[n]? with
    | some (.lst ds) => mkL (cutD ds lo hi) h
    | _ => .stuck
  | .str z => if z.length ≤ sizeLine then .ok (.str (L2.cutS z lo hi)) h else .stuck
  | _ => .stuck

/-- methods -/
noncomputable def mAppend (x : D) (ds : List D) (h : Hh) : Out D :=
  match x, ds with
  | .ref n, [d] => match h[n]? with
    | some (.lst xs) => need (xs.length < sizeLine) (.ok .non (h.set n (.lst (xs ++ [d]))))
    | _ => .stuck
  | _, _ => .stuck
noncomputable def mExtend (x : D) (ds : List D) (h : Hh) : Out D :=
  match x, ds with
  | .ref n, [.ref k] => match h[n]?, h[k]? with
    | some (.lst xs), some (.lst ys) => need (xs.length + ys.length ≤ sizeLine) (.ok .non (h.set n (.lst (xs ++ ys))))
    | _, _ => .stuck
  | _, _ => .stuck
noncomputable def mPopAt (x : D) (ds : List D) (h : Hh) : Out D :=
  match x, ds with
  | .ref n, [.int i] => match h[n]? with
    | some (.lst xs) => need (-(2 ^ 63) ≤ i ∧ i < 2 ^ 63) (match seqIndex? i xs.length with
      | some k => match xs[k]? with
        | some y => .ok y (h.set n (.lst (xs.eraseIdx k)))
        | none => .stuck
      | none => .stuck)
    | _ => .stuck
  | _, _ => .stuck
/-- how often, among ints -/
def mCount (x : D) (ds : List D) (h : Hh) : Out D :=
  match x, ds with
  | .ref n, [.int k] => match h[n]? with
    | some (.lst xs) => match intsOf xs with
      | some ns => .ok (.int (ns.count k : Nat)) h
      | none => .stuck
    | _ => .stuck
  | .str a, [.str b] => .ok (.int (Txt.count a b)) h
  | _, _ => .stuck
def mJoin (x : D) (ds : List D) (h : Hh) : Out D :=
  match x, ds with
  | .str a, [d] => match seqOf h d with
    | some xs => match strsOf xs with
      | some ys => if (ys.map (·.length)).sum + ys.length * a.length ≤ 16777216 then .ok (.str (Txt.join a ys)) h else .stuck
      | none => .stuck
    | none => .stuck
  | _, _ => .stuck
noncomputable def mSplit (x : D) (ds : List D) (h : Hh) : Out D :=
  match x, ds with
  | .str a, [.str b] => need ((b.length == 0) = false ∧ a.length + 2 ≤ sizeLine) (mkL ((Txt.split a b).map D.str) h)
  | _, _ => .stuck
noncomputable def mInsert (x : D) (ds : List D) (h : Hh) : Out D :=
  match x, ds with
  | .ref n, [.int i, d] => match h[n]? with
    | some (.lst xs) => need (xs.length < sizeLine ∧ 0 ≤ i ∧ i < 2 ^ 63) (.ok .non (h.set n (.lst (xs.take i.toNat ++ [d] ++ xs.drop i.toNat))))
    | _ => .stuck
  | _, _ => .stuck
/-- of ints, the first of its kind -/
noncomputable def mRemove (x : D) (ds : List D) (h : Hh) : Out D :=
  match x, ds with
  | .ref n, [.int k] => match h[n]? with
    | some (.lst xs) => match intsOf xs with
      | some ns => need (k ∈ ns) (.ok .non (h.set n (.lst (xs.eraseIdx (ns.idxOf k)))))
      | none => .stuck
    | _ => .stuck
  | _, _ => .stuck
/-- the first place of an equal one -/
def mIndex (x : D) (ds : List D) (h : Hh) : Out D :=
  match ds with
  | [y] => match toP 66 h x, toP 66 h y with
    | some (.list ps), some d => if SeqAt.shaped (.list ps) && SeqAt.shaped d && decide (ps.findIdx (fun z => PyData.eqv z d) < ps.length) then .ok (.int ((ps.findIdx fun z => PyData.eqv z d : Nat) : Int)) h else .stuck
    | some (.tuple ps), some d => if SeqAt.shaped (.tuple ps) && SeqAt.shaped d && decide (ps.findIdx (fun z => PyData.eqv z d) < ps.length) then .ok (.int ((ps.findIdx fun z => PyData.eqv z d : Nat) : Int)) h else .stuck
    | _, _ => .stuck
  | _ => .stuck
/-- methods without arguments -/
noncomputable def evM0 : Mt0 → D → Hh → Out D
  | .pop => fun x h => match x with
    | .ref n => match h[n]? with
      | some (.lst xs) => match xs[xs.length - 1]? with
        | some y => .ok y (h.set n (.lst xs.dropLast))
        | none => .stuck
      | _ => .stuck
    | _ => .stuck
  | .reverse => fun x h => match x with
    | .ref n => match h[n]? with
      | some (.lst xs) => .ok .non (h.set n (.lst xs.reverse))
      | _ => .stuck
    | _ => .stuck
  | .clear => fun x h => match x with
    | .ref n => match h[n]? with
      | some (.lst _) => .ok .non (h.set n (.lst []))
      | _ => .stuck
    | _ => .stuck
noncomputable def evM : Mt → D → List D → Hh → Out D
  | .append => mAppend
  | .extend => mExtend
  | .popAt => mPopAt
  | .count => mCount
  | .insert => mInsert
  | .remove => mRemove
  | .index => mIndex
  | .join => mJoin
  | .split => mSplit

/-- the method's receiver is of its type -/
def mtOk : Mt → D → Prop
  | .join, d => ∃ x, d = .str x
  | .split, d => ∃ x, d = .str x
  | .count, d => (∃ n, d = .ref n) ∨ ∃ x, d = .str x
  | .index, d => (∃ n, d = .ref n) ∨ ∃ ds, d = .tup ds
  | _, d => ∃ n, d = .ref n

/-- a target of names: the slots that it stores -/
def asgN : Ex → D → Env → Option Env
  | .var i, d, env => some (env.set i (some d))
  | .tup [], .tup [], env => some env
  | .tup [.var i], .tup [d], env => some (env.set i (some d))
  | .tup [.var i, .var j], .tup [d, e], env => some ((env.set i (some d)).set j (some e))
  | .tup [.var i, .var j, .var k], .tup [d, e, f], env => some (((env.set i (some d)).set j (some e)).set k (some f))
  | _, _, _ => none

def chkOk (chk : List (Nat × List D)) (h : Hh) : Prop := ∀ p, p ∈ chk → h[p.1]? = some (.lst p.2)
/-- what a loop walks: its items, and the lists that must stay as they are meanwhile -/
abbrev Its := List D × List (Nat × List D)
def itSeq (d : D) (h : Hh) : Out Its :=
  match d with
  | .tup ds => .ok (ds, []) h
  | .frz ds => .ok (ds, []) h
  | .ref n => match h[n]? with
    | some (.lst ds) => .ok (ds, [(n, ds)]) h
    | _ => .stuck
  | .dct ks _ => .ok (ks.map D.int, []) h
  | .str z => .ok (signs z, []) h
  | _ => .stuck
/-- .. within enumerate, zip -/
def itSeqZ (d : D) (h : Hh) : Out Its :=
  match d with
  | .tup ds => .ok (ds, []) h
  | .frz ds => .ok (ds, []) h
  | .ref n => match h[n]? with
    | some (.lst ds) => .ok (ds, [(n, ds)]) h
    | _ => .stuck
  | _ => .stuck
/-- the ints lo, lo + 1, .. -/
def rangeD (lo : Int) (n : Nat) : List D := (List.range n).map fun i => .int (lo + (i : Nat))
noncomputable def itRange (ds : List D) (h : Hh) : Out Its :=
  match ds with
  | [.int j] => need (-(2 ^ 62) ≤ j ∧ j < 2 ^ 62) (.ok (rangeD 0 j.toNat, []) h)
  | [.int i, .int j] => need (-(2 ^ 62) ≤ i ∧ i < 2 ^ 62 ∧ -(2 ^ 62) ≤ j ∧ j < 2 ^ 62) (.ok (rangeD i (j - i).toNat, []) h)
  | _ => .stuck
/-- pairs of a place and an item -/
def enumD : Nat → List D → List D
  | _, [] => []
  | n, d :: ds => .tup [.int (n : Int), d] :: enumD (n + 1) ds
/-- list(enumerate(a list)) -/
noncomputable def fLenum (d : D) (h : Hh) : Out D :=
  match seqL h d with
  | some ds => mkL (enumD 0 ds) h
  | none => .stuck
/-- list(reversed(a list)) -/
noncomputable def fLrev (d : D) (h : Hh) : Out D :=
  match seqL h d with
  | some ds => mkL ds.reverse h
  | none => .stuck
/-- list(range(..)) -/
noncomputable def fLrange (ds : List D) (h : Hh) : Out D := (itRange ds h).bind fun x h1 => mkL x.1 h1
/-- len(set(x)), x a list of tuples of ints that are all the same -/
noncomputable def fLset (x : D) (h : Hh) : Out D := match (seqL h x).bind intsOf with
  | some ns => need (ns.length < 63) (.ok (.int ((ns.foldl PyProof.Rows.step_dedup []).length : Nat)) h)
  | none => need (∃ (ns : List Int) (k : Nat), seqL h x = some (List.replicate (k + 1) (.tup (ns.map .int))) ∧ k < 63) (.ok (.int 1) h)
/-- a text's signs, each once, rising -/
def letters (z : Str) : List Nat := (List.range (z.cps.toList.foldr max 0 + 1)).filter fun c => decide (c ∈ z.cps.toList)
/-- sorted(set(x)), x a text -/
noncomputable def fSset (x : D) (h : Hh) : Out D := match x with
  | .str z => need (z.length < 63) (mkL ((letters z).map fun c => .str ⟨#[c]⟩) h)
  | _ => .stuck
/-- {x} in a text -/
def fFmt (x : D) (h : Hh) : Out D := match x with
  | .str y => if y.length ≤ sizeLine then .ok (.str y) h else .stuck
  | .int i => if i.natAbs.log2 < 1920 then .ok (.str (Str.ofString (toString i))) h else .stuck
  | _ => .stuck
/-- a part put behind a text -/
def glueD (acc : Str) (x : D) (f : Str → Out D) : Out D := match x with
  | .str y => if (acc ++ y).length ≤ sizeLine then f (acc ++ y) else .stuck
  | _ => .stuck
/-- the items of a list's slice with a step -/
def pickD {α : Type} (xs : List α) (lo hi st : Option Int) : List α := (sliceRange (sliceBounds lo hi st xs.length).1 (sliceBounds lo hi st xs.length).2.1 (sliceBounds lo hi st xs.length).2.2).filterMap (xs[·]?)
noncomputable def slSD (x : D) (lo hi st : Option Int) (h : Hh) : Out D :=
  match seqL h x with
  | some ds => need (st ≠ some 0) (mkL (pickD ds lo hi st) h)
  | none => .stuck
def itEnum (ds : List D) (h : Hh) : Out Its :=
  match ds with
  | [d] => (itSeqZ d h).bind fun x h1 => .ok (enumD 0 x.1, x.2) h1
  | _ => .stuck
def zipD : List D → List D → List D
  | d :: ds, e :: es => .tup [d, e] :: zipD ds es
  | _, _ => []
def itZip (ds : List D) (h : Hh) : Out Its :=
  match ds with
  | [d, e] => (itSeqZ d h).bind fun x h1 => (itSeqZ e h1).bind fun y h2 => .ok (zipD x.1 y.1, x.2 ++ y.2) h2
  | _ => .stuck
/-- a call that is walked -/
noncomputable def itB : Bi → List D → Hh → Out Its
  | .range, ds, h => itRange ds h
  | .enumerate, ds, h => itEnum ds h
  | .zip, ds, h => itZip ds h
  | b, ds, h => (evB b ds h).bind itSeq

noncomputable def lcL (f : D → Hh → Out (Option D)) (chk : List (Nat × List D)) : List D → Hh → Out (List D)
  | [], h => need (chkOk chk h) (.ok [] h)
  | x :: xs, h => need (chkOk chk h) ((f x h).calm.bind fun o h1 => (lcL f chk xs h1).bind fun ys h2 => .ok (o.toList ++ ys) h2)
def wipeE (env : Env) : List Nat → Env
  | [] => env
  | v :: vs => (wipeE env vs).set v none

/-! ### instances of own classes -/
/-- an attribute -/
def getF (x : D) (f : Str) (h : Hh) : Out D :=
  match x with
  | .obj n => match h[n]? with
    | some (.ins _ fs) => match fs.lookup f with
      | some d => .ok d h
      | none => .stuck
    | _ => .stuck
  | _ => .stuck
def putD (f : Str) (d : D) : List (Str × D) → List (Str × D)
  | [] => [(f, d)]
  | (g, e) :: r => if g = f then (f, d) :: r else (g, e) :: putD f d r
noncomputable def setF (x : D) (f : Str) (d : D) (h : Hh) : Out Unit :=
  match x with
  | .obj n => match h[n]? with
    | some (.ins c fs) => need (fs.length < 1000) (.ok () (h.set n (.ins c (putD f d fs))))
    | _ => .stuck
  | _ => .stuck
/-- an instance of c that has no attribute m -/
def isIns (h : Hh) (x : D) (c m : Str) : Prop := ∃ n fs, x = .obj n ∧ h[n]? = some (.ins c fs) ∧ fs.lookup m = none
/-- what __init__ tells -/
def madeD (n : Nat) (v : D) (h : Hh) : Out D :=
  match v with
  | .non => .ok (.obj n) h
  | _ => .stuck
mutual
noncomputable def ev (C : CallT) : Ex → Env → Hh → Out D
  | .non, _, h => .ok .non h
  | .bl b, _, h => .ok (.bl b) h
  | .int i, _, h => .ok (.int i) h
  | .str x, _, h => .ok (.str x) h
  | .con d, _, h => .ok d h
  | .var i, env, h => match env[i]? with
    | some (some d) => .ok d h
    | _ => .stuck
  | .tup es, env, h => (evs C es env h).bind fun ds h1 => need (ds.length ≤ sizeLine) (.ok (.tup ds) h1)
  | .lst es, env, h => (evs C es env h).bind fun ds h1 => mkL ds h1
  | .dct es, env, h => (evs C es env h).bind fun ds h1 => mkDct ds h1
  | .bin op a b, env, h => (ev C a env h).bind fun x h1 => (ev C b env h1).bind fun y h2 => binop op x y h2
  | .neg a, env, h => (ev C a env h).bind fun x h1 => match x with
    | .int i => .ok (.int (-i)) h1
    | _ => .stuck
  | .cmp op a b, env, h => (ev C a env h).bind fun x h1 => (ev C b env h1).bind fun y h2 => cmpop op x y h2
  | .chain o1 o2 a b c, env, h => (ev C a env h).bind fun x h1 => (ev C b env h1).bind fun y h2 => (cmpop o1 x y h2).bind fun t h3 => (asB t h3).bind fun k h4 =>
      if k = true then (ev C c env h4).bind fun z h5 => cmpop o2 y z h5 else .ok (.bl false) h4
  | .and a b, env, h => (ev C a env h).bind fun x h1 => (asB x h1).bind fun c h2 => if c = true then ev C b env h2 else .ok (.bl false) h2
  | .or a b, env, h => (ev C a env h).bind fun x h1 => (asB x h1).bind fun c h2 => if c = true then .ok (.bl true) h2 else ev C b env h2
  | .not a, env, h => (ev C a env h).bind fun x h1 => (asB x h1).bind fun c h2 => .ok (.bl (!c)) h2
  | .ite c a b, env, h => (ev C c env h).bind fun x h1 => (asB x h1).bind fun k h2 => if k = true then ev C a env h2 else ev C b env h2
  | .call f es, env, h => (evs C es env h).bind fun ds h1 => C f ds h1
  | .bi b es, env, h => (evs C es env h).bind fun ds h1 => evB b ds h1
  | .mt m o es, env, h => (ev C o env h).bind fun x h1 => need (mtOk m x) ((evs C es env h1).bind fun ds h2 => evM m x ds h2)
  | .ix a b, env, h => (ev C a env h).bind fun x h1 => (ev C b env h1).bind fun y h2 => getIx x y h2
  | .sl a lo hi, env, h => (ev C a env h).bind fun x h1 => (ev C lo env h1).bind fun l h2 => (partOf l h2).bind fun l' h3 => (ev C hi env h3).bind fun u h4 => (partOf u h4).bind fun u' h5 => slD x l' u' h5
  | .lc it tg e own, env, h =>
    (match it with
      | .bi b es => (evs C es env h).bind fun ds h1 => itB b ds h1
      | it => (ev C it env h).bind itSeq).bind fun x h1 =>
    (lcL (fun d h => match asgN tg d (wipeE env own) with
      | some env1 => (ev C e env1 h).bind fun y h2 => .ok (some y) h2
      | none => .stuck) x.2 x.1 h1).bind fun ys h2 => mkL ys h2
  | .lcIf it tg c e own, env, h =>
    (match it with
      | .bi b es => (evs C es env h).bind fun ds h1 => itB b ds h1
      | it => (ev C it env h).bind itSeq).bind fun x h1 =>
    (lcL (fun d h => match asgN tg d (wipeE env own) with
      | some env1 => (ev C c env1 h).bind fun t h1 => (asB t h1).bind fun k h2 => if k = true then (ev C e env1 h2).bind fun y h3 => .ok (some y) h3 else .ok none h2
      | none => .stuck) x.2 x.1 h1).bind fun ys h2 => mkL ys h2
  | .lenum a, env, h => (ev C a env h).bind fLenum
  | .lrev a, env, h => (ev C a env h).bind fLrev
  | .lrange es, env, h => (evs C es env h).bind fLrange
  | .lset a, env, h => (ev C a env h).bind fLset
  | .sset a, env, h => (ev C a env h).bind fSset
  | .fmt a, env, h => (ev C a env h).bind fFmt
  | .fstr es, env, h => evJ C es Str.empty env h
  | .slS a lo hi st, env, h => (ev C a env h).bind fun x h1 => (ev C lo env h1).bind fun l h2 => (partOf l h2).bind fun l' h3 => (ev C hi env h3).bind fun u h4 => (partOf u h4).bind fun u' h5 => (ev C st env h5).bind fun z h6 => (partOf z h6).bind fun z' h7 => slSD x l' u' z' h7
  | .mt0 m o, env, h => (ev C o env h).bind fun x h1 => evM0 m x h1
  | .fld a f, env, h => (ev C a env h).bind fun x h1 => getF x f h1
  | .meth f c m o es, env, h => (ev C o env h).bind fun x h1 => need (isIns h1 x c m) ((evs C es env h1).bind fun ds h2 => C f (x :: ds) h2)
  | .make f c es, env, h => (evs C es env h).bind fun ds h1 => (C f (.obj h1.length :: ds) (h1 ++ [.ins c []])).bind fun v h2 => madeD h1.length v h2
noncomputable def evs (C : CallT) : List Ex → Env → Hh → Out (List D)
  | [], _, h => .ok [] h
  | e :: es, env, h => (ev C e env h).bind fun x h1 => (evs C es env h1).bind fun xs h2 => .ok (x :: xs) h2
noncomputable def evJ (C : CallT) : List Ex → Str → Env → Hh → Out D
  | [], acc, _, h => .ok (.str acc) h
  | e :: es, acc, env, h => (ev C e env h).bind fun x h1 => glueD acc x fun a => evJ C es a env h1
end
noncomputable def evIt (C : CallT) (it : Ex) (env : Env) (h : Hh) : Out Its :=
  match it with
  | .bi b es => (evs C es env h).bind fun ds h1 => itB b ds h1
  | it => (ev C it env h).bind itSeq
noncomputable def evT (C : CallT) (c : Ex) (env : Env) (h : Hh) : Out Bool := (ev C c env h).bind asB

/-! ### statements -/
inductive Fl where
  | nx (env : Env) | bk (env : Env) | ct (env : Env) | rt (d : D)
inductive Stt where
  | asg (tg e : Ex)
  | aug (i : Nat) (e : Ex)
  | augS (o i : Ex) (e : Ex)
  | ex (e : Ex)
  | ret (e : Ex) | retN
  | ite (c : Ex) (a b : List Stt)
  | whl (c : Ex) (b : List Stt)
  | fr (tg it : Ex) (b : List Stt)
  | dzu (i : Nat) (a b : Ex) (j : Nat)
  | sfld (o : Ex) (f : Str) (e : Ex)
  | tr (b : List Stt)
  | never
  | raise (c : Str)
  | tryX (b : List Stt) (c : Str) (i : Nat) (d : Str) (n : Nat)
  | tryK (b : List Stt) (cs : List (Str × List Bool)) (i : Nat) (n : Nat)
  | pass | brk | cnt
  deriving Inhabited

/-- int + int, in place -/
def addI (x y : D) (h : Hh) : Out D :=
  match x, y with
  | .int i, .int j => .ok (.int (i + j)) h
  | _, _ => .stuck
/-- a store to a list's place -/
def setIx (o i v : D) (h : Hh) : Out Unit :=
  match o, i with
  | .ref n, .int k => match h[n]? with
    | some (.lst xs) => match L2.ixN xs.length k with
      | some j => .ok () (h.set n (.lst (xs.set j v)))
      | none => .stuck
    | _ => .stuck
  | _, _ => .stuck
noncomputable def evA (C : CallT) (tg : Ex) (d : D) (env : Env) (h : Hh) : Out Env :=
  match tg with
  | .ix o i => (ev C o env h).bind fun x h1 => (ev C i env h1).bind fun k h2 => (setIx x k d h2).bind fun _ h3 => .ok env h3
  | tg => match asgN tg d env with
    | some env1 => .ok env1 h
    | none => .stuck
noncomputable def whN (c : Env → Hh → Out Bool) (b : Env → Hh → Out Fl) : Nat → Env → Hh → Out Fl
  | 0, _, _ => .stuck
  | n + 1, env, h => (c env h).bind fun t h1 => if t = true then (b env h1).bind fun fl h2 => match fl with
      | .nx e => whN c b n e h2
      | .ct e => whN c b n e h2
      | .bk e => .ok (.nx e) h2
      | .rt d => .ok (.rt d) h2
    else .ok (.nx env) h1
noncomputable def whO (c : Env → Hh → Out Bool) (b : Env → Hh → Out Fl) (env : Env) (h : Hh) : Out Fl :=
  open Classical in if H : ∃ n, whN c b n env h ≠ .stuck then whN c b (choose H) env h else .stuck
noncomputable def frL (f : D → Env → Hh → Out Env) (b : Env → Hh → Out Fl) (chk : List (Nat × List D)) : List D → Env → Hh → Out Fl
  | [], env, h => need (chkOk chk h) (.ok (.nx env) h)
  | x :: xs, env, h => need (chkOk chk h) ((f x env h).bind fun e1 h1 => (b e1 h1).bind fun fl h2 => match fl with
      | .nx e => frL f b chk xs e h2
      | .ct e => frL f b chk xs e h2
      | .bk e => .ok (.nx e) h2
      | .rt d => .ok (.rt d) h2)
/-- what c's clause makes of an outcome; behind it just its own name is known -/
def caught {α : Type} (c : Str) (f : Hh → Out α) (o : Out α) : Out α :=
  match o with
  | .exn c' h => if c' = c then f h else .stuck
  | o => o
@[simp] theorem caught_ok {α : Type} (c : Str) (f : Hh → Out α) (a : α) (h : Hh) : caught c f (.ok a h) = .ok a h := rfl
@[simp] theorem caught_stuck {α : Type} (c : Str) (f : Hh → Out α) : caught c f .stuck = .stuck := rfl
theorem caught_is {α : Type} (c : Str) (f : Hh → Out α) (h : Hh) : caught c f (.exn c h) = f h := by simp [caught]
theorem caught_no {α : Type} {c c' : Str} (f : Hh → Out α) (h : Hh) (e : ¬ c' = c) : caught c f (.exn c' h) = .stuck := by simp [caught, e]
/-- what a clause that asks an exception makes of an outcome: cs tells the answers of each class -/
noncomputable def caughtK {α : Type} (cs : List (Str × List Bool)) (f : List Bool → Hh → Out α) (o : Out α) : Out α :=
  match o with
  | .exn c h => match cs.lookup c with
    | some bs => f bs h
    | none => .stuck
  | o => o
@[simp] theorem caughtK_ok {α : Type} (cs : List (Str × List Bool)) (f : List Bool → Hh → Out α) (a : α) (h : Hh) : caughtK cs f (.ok a h) = .ok a h := rfl
@[simp] theorem caughtK_stuck {α : Type} (cs : List (Str × List Bool)) (f : List Bool → Hh → Out α) : caughtK cs f .stuck = .stuck := rfl
theorem caughtK_is {α : Type} {cs : List (Str × List Bool)} {c : Str} {bs : List Bool} (f : List Bool → Hh → Out α) (h : Hh) (e : cs.lookup c = some bs) : caughtK cs f (.exn c h) = f bs h := by simp [caughtK, e]
/-- the answers, in a new list -/
noncomputable def keptK (i n : Nat) (bs : List Bool) (h : Hh) : Out Fl := (mkL (bs.map D.bl) h).bind fun d h2 => .ok (.nx ((List.replicate n none).set i (some d))) h2
mutual
noncomputable def evS (C : CallT) : Stt → Env → Hh → Out Fl
  | .asg tg e, env, h => (ev C e env h).bind fun d h1 => (evA C tg d env h1).bind fun e1 h2 => .ok (.nx e1) h2
  | .aug i e, env, h => match env[i]? with
    | some (some x) => (ev C e env h).bind fun y h1 => (addI x y h1).bind fun z h2 => .ok (.nx (env.set i (some z))) h2
    | _ => .stuck
  | .augS o i e, env, h => (ev C o env h).bind fun x h1 => (ev C i env h1).bind fun k h2 => (getIxL x k h2).bind fun y h3 => (ev C e env h3).bind fun z h4 => (addI y z h4).bind fun v h5 =>
      (setIx x k v h5).bind fun _ h6 => .ok (.nx env) h6
  | .ex e, env, h => (ev C e env h).bind fun _ h1 => .ok (.nx env) h1
  | .ret e, env, h => (ev C e env h).bind fun d h1 => .ok (.rt d) h1
  | .retN, _, h => .ok (.rt .non) h
  | .ite c a b, env, h => (evT C c env h).bind fun k h1 => if k = true then evSs C a env h1 else evSs C b env h1
  | .whl c b, env, h => whO (evT C c) (evSs C b) env h
  | .fr tg it b, env, h => (evIt C it env h).bind fun x h1 => frL (evA C tg) (evSs C b) x.2 x.1 env h1
  | .dzu i a b j, env, h => (evs C [a, b] env h).bind fun ds h2 => match env[j]?, env[i]? with
    | some (some z), some _ => (dzuL ds z h2).bind fun d h3 => .ok (.nx (env.set i (some d))) h3
    | _, _ => .stuck
  | .sfld o f e, env, h => (ev C e env h).bind fun y h1 => (ev C o env h1).bind fun x h2 => (setF x f y h2).bind fun _ h3 => .ok (.nx env) h3
  | .tr b, env, h => (evSs C b env h).calm
  | .never, _, _ => .stuck
  | .raise c, _, h => .exn c h
  | .tryX b c i d n, env, h => caught c (fun h1 => .ok (.nx ((List.replicate n none).set i (some (.str d)))) h1) (evSs C b env h)
  | .tryK b cs i n, env, h => caughtK cs (keptK i n) (evSs C b env h)
  | .pass, env, h => .ok (.nx env) h
  | .brk, env, h => .ok (.bk env) h
  | .cnt, env, h => .ok (.ct env) h
noncomputable def evSs (C : CallT) : List Stt → Env → Hh → Out Fl
  | [], env, h => .ok (.nx env) h
  | s :: ss, env, h => (evS C s env h).bind fun fl h1 => match fl with
    | .nx e => evSs C ss e h1
    | o => .ok o h1
end

/-! ### defs -/
structure Fn where
  ar : Nat
  slots : Nat
  body : List Stt
abbrev Tb := Str → Option Fn
noncomputable def runF (C : CallT) (fn : Fn) (ds : List D) (h : Hh) : Out D :=
  need (ds.length = fn.ar) ((evSs C fn.body (ds.map some ++ List.replicate (fn.slots - ds.length) none) h).bind fun fl h1 => match fl with
    | .rt d => .ok d h1
    | .nx _ => .ok .non h1
    | _ => .stuck)
noncomputable def callF (T : Tb) : Nat → CallT
  | 0 => fun _ _ _ => .stuck
  | k + 1 => fun f ds h => match T f with
    | some fn => runF (callF T k) fn ds h
    | none => .stuck
end Ip

/-! Ip, part R: machine rules: list(reversed(a list)), slices with a step, index in tuples, repr. -/
namespace Ip
open PySem PySem.Spec PyProof.Rows L2 RT

section
variable {prog : Program} {w : World} {A : Around} {E : Value → Shared → Prop} {s : Shared}
theorem rev_extend {R : Result → Shared → Prop} (hh : A.in1.handled = none) {it l S : Addr} {items : Array Value} (hn : items.size ≤ sizeLine) (res : Value) (iS : S ≠ it) (lS : S ≠ l) (hne : l ≠ it)
    (hit : s.heap.IsRevIter it l ((items.size : Int) - 1)) (hl : s.heap.IsList l items) (hS : s.heap.get? S = some { cls := .type "list", data := .seq #[] })
    (hR : ∀ h' tk acc c', (∀ b o, b ≠ S → b ≠ it → s.heap.get? b = some o → h'.get? b = some o) → h'.get? S = some { cls := .type "list", dict := none, data := .seq acc c', slots := #[] } → ItemsOf (fun i v => items[items.size - 1 - i]? = some v) acc items.size → R (.ok (.ret res)) { s with heap := h', toks := tk }) :
    wpAny (model prog w) A.in1 (Builtin.List.listExtendWith (.ref S) (.ref it) res)
      (fun fin s' => match fin with | .done f => R (.ok f) s' | .again c' => c'.quiet = true ∧ codeAny (model prog w) A c' R s') (fun e s' => R (.error e) s') s := by
  have W := (Walks.listRev (prog := prog) (w := w) (A := A.in1) hh it l hne items).toS
  have hSf : S ∉ [it, l] := by simp only [List.mem_cons, List.not_mem_nil, or_false, not_or]; exact ⟨iS, lS⟩
  have hT : s.TypeIs (.ref it) "list_reverseiterator" := hit.typeIs
  have h1 : Builtin.List.listSameRef (.ref S) (.ref it) = false := by simp [Builtin.List.listSameRef, iS]
  unfold Builtin.List.listExtendWith
  refine wpAny_bind (wpAny_typeOf hT ?_)
  rw [if_neg (by rw [h1]; decide)]
  refine wpAny_bind (wpAny_pyIter_revIter hit ?_)
  refine wpAny_bind (wpAny_holding ?_)
  unfold Builtin.List.listLengthHint
  refine wpAny_bind (wpAny_specialOf hT nolen_lri ?_)
  show wpAny _ A.in1 (specialOf (Value.ref it) (Str.ofString "__length_hint__") >>= _) _ _ _
  refine wpAny_bind (wpAny_specialOf hT hint_lri ?_)
  generalize hid : ("list_reverseiterator.__length_hint__" : String) = id0
  wp_delta
  rw [show splitId id0 = some ("list_reverseiterator", "__length_hint__") from by subst hid; decide +kernel]
  subst hid
  refine wpAny_bind (wpAny_isInstance (b := true) hT (by rw [isSubtype_type]; kernel_rfl) ?_)
  refine wpAny_pure ?_
  rw [if_neg (by decide)]
  have e0 : ((items.size : Nat) : Int) - 1 - ((0 : Nat) : Int) = (items.size : Int) - 1 := by omega
  refine wpAny_pure ⟨plainId_quiet F.plain_extend_loop _, codeAny_extend_loopS W hn _ hSf _ items.size 0 _ _ _ rfl (Nat.zero_le _) ⟨Nat.zero_le _, by rw [e0]; exact hit, hl⟩ hS (ItemsOf.nil _) fun s' acc' c' hm hS' hacc => ?_⟩
  rw [Moved.eq_with hm]
  refine hR s'.heap s'.toks acc' c' (fun b o hb hb2 e => hm.heap b o (fun hmem => ?_) e) hS' hacc
  rcases List.mem_cons.mp hmem with e' | hmem
  · exact hb e'
  · exact hb2 (List.mem_singleton.mp hmem)
theorem call_list_rev {Q : Value → Shared → Prop} (hh : A.in1.in1.handled = none) {it l : Addr} {items : Array Value} (hn : items.size ≤ sizeLine) (hne : l ≠ it)
    (hit : s.heap.IsRevIter it l ((items.size : Int) - 1)) (hl : s.heap.IsList l items)
    (hQ : ∀ h' tk acc c', (∀ b o, b ≠ it → s.heap.get? b = some o → h'.get? b = some o) → h'.get? s.heap.objs.size = some { cls := .type "list", dict := none, data := .seq acc c', slots := #[] } → ItemsOf (fun i v => items[items.size - 1 - i]? = some v) acc items.size → Q (.ref s.heap.objs.size) { s with heap := h', toks := tk }) :
    wpAny (model prog w) A (call (.type "list") [.ref it]) Q E s := by
  refine callType_codes (Q₁ := fun obj s₁ => obj = .ref s.heap.objs.size ∧ s₁ = { s with heap := s.heap.push { cls := .type "list", data := .seq #[] } }) F.called_list (F.typeCall_list_1 _) F.entry_list_init
    (code_list_new _ ⟨rfl, rfl⟩) fun obj s₁ h₁ => ?_
  obtain ⟨rfl, rfl⟩ := h₁
  have hS : (s.heap.push { cls := .type "list", data := .seq #[] }).get? s.heap.objs.size = some { cls := .type "list", data := .seq #[] } := Heap.get?_push_size _ rfl
  have li : it < s.heap.objs.size := let ⟨_, x, _⟩ := hit; Heap.lt_size x
  have ll : l < s.heap.objs.size := let ⟨_, x, _⟩ := hl; Heap.lt_size x
  refine ⟨⟨_, hS, rfl⟩, F.args_list_init_2 _ _, ?_⟩
  show wpAny _ _ (do let old ← Builtin.List.listItems (.ref s.heap.objs.size); Builtin.List.listUpdate (.ref s.heap.objs.size) (fun _ => #[]); letGo old.toList.reverse; Builtin.List.listExtendWith (.ref s.heap.objs.size) (.ref it) .none) _ _ _
  refine wpAny_bind ?_
  unfold Builtin.List.listItems
  refine wpAny_bind (wpAny_seqItems hS rfl (wpAny_pure ?_))
  show wpAny _ _ (updateSeq s.heap.objs.size (fun _ => #[]) >>= fun _ => letGo (#[] : Array Value).toList.reverse >>= fun _ => Builtin.List.listExtendWith (.ref s.heap.objs.size) (.ref it) .none) _ _ _
  refine wpAny_bind (wpAny_updateSeq hS rfl ?_)
  have hS₂ := Heap.get?_update_self (Obj.mapSeq (fun _ => (#[] : Array Value))) hS rfl
  have oth : ∀ b o, b ≠ s.heap.objs.size → s.heap.get? b = some o → ((s.heap.push { cls := .type "list", data := .seq #[] }).update s.heap.objs.size (Obj.mapSeq (fun _ => (#[] : Array Value)))).get? b = some o :=
    fun b o hb e => (Heap.get?_update_other _ _ (Ne.symm hb)).trans (Heap.get?_push_of_some _ e)
  refine wpAny_bind (wpAny_letGo ?_)
  refine rev_extend (A := A.in1) hh hn .none (Nat.ne_of_gt li) (Nat.ne_of_gt ll) hne (hit.at fun o q => oth _ o (Nat.ne_of_lt li) q) (hl.at fun o q => oth _ o (Nat.ne_of_lt ll) q) hS₂ fun h' tk acc c' k q z => ?_
  exact ⟨rfl, hQ h' tk acc c' (fun b o b2 x => k b o (Nat.ne_of_lt (Heap.lt_size x)) b2 (oth b o (Nat.ne_of_lt (Heap.lt_size x)) x)) q z⟩
end
/-- list(reversed(x)), x a list: a new list -/
def tLstRev (K : PySem.W.Frag) (te : TE) : TE := fun σ H Q => te σ H fun v H1 => ∃ (a : Addr) (xs : List V), v = .ref a ∧ SqL K H1 a xs ∧ ∀ q, H1 q = none → Q (.ref q) (upd H1 q (.lst xs.reverse))
section
variable {X : Cx}
theorem pe_listRev {e : Expr} {te : TE} {p p2 pos pos2 : Pos} (hc : X.calm = true) (hg : Gl X "list") (hm : X.mg "list" = none) (hg2 : Gl X "reversed") (hm2 : X.mg "reversed" = none) (he : PE X e te)
    (hs : starEach [e] X.env = (false, eval e X.env) :: starEach [] X.env)
    (hs2 : starEach [.Call (.Name "reversed" p2) [e] [] pos2] X.env = (false, eval (.Call (.Name "reversed" p2) [e] [] pos2) X.env) :: starEach [] X.env := by rfl) :
    PE X (.Call (.Name "list" p) [.Call (.Name "reversed" p2) [e] [] pos2] [] pos) (tLstRev X.K te) := by
  refine ⟨fun pins s σ H Q I h => ?_⟩
  refine Call_ (ld_blt I hg hm boot_list (PyProof.Rows.callWith_type1 (args_cons (Call_ (ld_blt I hg2 hm2 PyProof.Rows.boot_reversed (PyProof.Rows.callWith_type1 (args_cons (thn (he.run pins s σ H _ I h) fun u s1 ⟨v, H1, I1, r1, q1⟩ => args_nil ?_) hs) hs rfl))) hs2) hs2 rfl))
  obtain ⟨a, xs, ev, hq, q⟩ := q1
  subst ev
  obtain rfl : u = Value.ref a := r1
  obtain ⟨its, rv, p', hz⟩ := I1.list hq
  refine call_reversed_list p'.isList (args_nil ?_)
  have k0 : ∀ b o, s1.heap.get? b = some o → (s1.heap.push (revObj a ((its.toArray.size : Int) - 1))).get? b = some o := fun b o e => Heap.get?_push_of_some _ e
  have I2 : Inv X pins σ H1 { s1 with heap := s1.heap.push (revObj a ((its.toArray.size : Int) - 1)) } := I1.kept (t' := s1.toks) k0
  obtain ⟨f0, f1, f2, f3, f4, f5⟩ := I1.fpOk (H' := H1) (b := s1.heap.objs.size) (Nat.le_refl _) (I1.hok.fresh (Nat.le_refl _))
  have hl := p'.isList
  obtain ⟨ol, hol, _⟩ := id hl
  have hne : a ≠ s1.heap.objs.size := Nat.ne_of_lt (Heap.lt_size hol)
  have hn : its.toArray.size ≤ sizeLine := by rw [List.size_toArray, ← rv.length]; exact hz
  refine call_list_rev (s := { s1 with heap := s1.heap.push (revObj a ((its.toArray.size : Int) - 1)) }) (I1.ok.hd hc) hn hne ⟨_, Heap.get?_push_size _ rfl, rfl, rfl⟩ (hl.push _) fun h' tk acc c' hk hS hi => ?_
  have hz1 : (s1.heap.push (revObj a ((its.toArray.size : Int) - 1))).objs.size = s1.heap.objs.size + 1 := Heap.size_push ..
  have hk1 : ∀ b o, s1.heap.get? b = some o → h'.get? b = some o := fun b o e => hk b o (Nat.ne_of_lt (Heap.lt_size e)) (k0 b o e)
  have hS' : h'.get? (s1.heap.objs.size + 1) = some { cls := .type "list", dict := none, data := .seq acc c', slots := #[] } := by rw [← hz1]; exact hS
  show EP X pins σ Q (.ref (s1.heap.push (revObj a ((its.toArray.size : Int) - 1))).objs.size) _
  rw [hz1]
  refine ⟨.ref (s1.heap.objs.size + 1), upd H1 (s1.heap.objs.size + 1) (.lst xs.reverse), I1.laid (t' := tk) hk1 (Nat.le_succ _) (show ObjOk X.prog X.w _ _ _ (.lst xs.reverse) from ⟨by rw [List.length_reverse]; exact hz, acc.toList, c', vals_rev rv hi, ?_⟩), rfl, q _ (I1.hok.fresh (Nat.le_succ _))⟩
  rw [Array.toArray_toList]
  exact hS'
end

/-! ### slices with a step -/
/-- the items of xs[lo:hi:st] -/
def pickL {α : Type} (xs : List α) (lo hi st : Option Int) : List α := (sliceRange (sliceBounds lo hi st xs.length).1 (sliceBounds lo hi st xs.length).2.1 (sliceBounds lo hi st xs.length).2.2).filterMap (xs[·]?)
def tSlS (K : PySem.W.Frag) (te : TE) (tl th ts : TO) : TE := fun σ H Q => te σ H fun x H1 => tl σ H1 fun l H2 => th σ H2 fun u H3 => ts σ H3 fun z H4 => z ≠ some 0 ∧ ∃ a xs, x = .ref a ∧ SqL K H4 a xs ∧ ∀ p, H4 p = none → Q (.ref p) (upd H4 p (.lst (pickL xs l u z)))
theorem pickL_length {α : Type} (xs : List α) (lo hi st : Option Int) : (pickL xs lo hi st).length ≤ xs.length := by
  have := slicePick_size_le (xs.map fun _ => Value.none).toArray lo hi st
  unfold slicePick at this
  simp only [List.size_toArray, List.length_map] at this
  refine Nat.le_trans ?_ this
  unfold pickL
  generalize sliceRange _ _ _ = r
  clear this
  induction r with
  | nil => simp
  | cons i r ih =>
    simp only [List.filterMap_cons]
    by_cases hi : i < xs.length
    · have e1 : xs[i]? = some xs[i] := List.getElem?_eq_getElem hi
      have e2 : ((xs.map fun _ => Value.none).toArray)[i]? = some Value.none := by simp [hi]
      rw [e1, e2]
      simpa using ih
    · have e1 : xs[i]? = none := List.getElem?_eq_none (by omega)
      have e2 : ((xs.map fun _ => Value.none).toArray)[i]? = none := by simp; omega
      rw [e1, e2]
      exact ih
theorem vals_pick {xs : List V} {us : List Value} (r : Vals xs us) (lo hi st : Option Int) : Vals (pickL xs lo hi st) (slicePick us.toArray lo hi st).toList := by
  unfold pickL slicePick
  rw [List.toList_toArray, List.size_toArray, r.length]
  generalize sliceRange _ _ _ = q
  induction q with
  | nil => exact .nil
  | cons i q ih =>
    simp only [List.filterMap_cons]
    by_cases hi : i < xs.length
    · have e1 : xs[i]? = some xs[i] := List.getElem?_eq_getElem hi
      obtain ⟨u, e2, ru⟩ := r.get e1
      have e3 : us.toArray[i]? = some u := by simpa using e2
      rw [e1, e3]
      exact .cons ru ih
    · have hl := r.length
      have e1 : xs[i]? = none := List.getElem?_eq_none (by omega)
      have e3 : us.toArray[i]? = none := by simp; omega
      rw [e1, e3]
      exact ih
section
variable {X : Cx}
theorem pe_sliceS {e : Expr} {te : TE} {lo hi : Option Expr} {st : Expr} {tl th ts : TO} {p3 pos : Pos} (he : PE X e te) (hl : PO X lo tl) (hh : PO X hi th) (hs : PO X (some st) ts) : PE X (.Subscript e (.Slice lo hi (some st) p3) pos) (tSlS X.K te tl th ts) := by
  refine ⟨fun pins s σ H Q I h => ?_⟩
  refine Subscript_ (thn (he.run pins s σ H _ I h) fun v s1 ⟨x, H1, I1, r1, q1⟩ => ?_)
  refine wpAny_Slice (thn (hl.run pins s1 σ H1 _ I1 q1) fun vl s2 ⟨l, H2, I2, pl, q2⟩ => thn (hh.run pins s2 σ H2 _ I2 q2) fun vu s3 ⟨u, H3, I3, pu, q3⟩ => thn (hs.run pins s3 σ H3 _ I3 q3) fun vs s4 ⟨z, H4, I4, ps, q4⟩ => ?_)
  obtain ⟨h0, a, xs, ex, hx, q⟩ := q4
  subst ex
  cases r1
  have I5 : Inv X pins σ H4 { s4 with heap := s4.heap.push { cls := .type "slice", data := .fields #[vl, vu, vs] } } := I4.kept (t' := s4.toks) fun b ob q => Heap.get?_push_of_some _ q
  obtain ⟨its, r, ht, hz⟩ := I5.list hx
  have hlen := r.length
  show wpAny (model X.prog X.w) X.A (subscriptTail e (.Slice lo hi (some st) p3) (.ref a) (.ref s4.heap.objs.size)) (EP X pins σ Q) X.xe { s4 with heap := s4.heap.push { cls := .type "slice", data := .fields #[vl, vu, vs] } }
  refine tail_any (ops := [.ref a, .ref s4.heap.objs.size]) ht.isList.typeIs (PySem.slot_list_getitem.lookup) ?_ (by with_unfolding_all rfl)
  refine wpAny_getItem_list_slice ht.isList (Heap.IsSliceOf.new _ vl vu vs) pl pu ps h0 ?_ (by rw [List.size_toArray]; omega)
  have rp := vals_pick r l u z
  refine ⟨.ref _, _, I5.laid (t' := s4.toks) (o := .lst (pickL xs l u z)) (fun b ob q => Heap.get?_push_of_some _ q) (Nat.le_refl _) ?_, rfl, q _ (I5.hok.fresh (Nat.le_refl _))⟩
  refine ⟨Nat.le_trans (pickL_length xs l u z) hz, _, 0, rp, ?_⟩
  rw [Array.toArray_toList]
  exact Heap.get?_push_size _ rfl

/-! ### t.index(x) -/
def rIndexT (K : PySem.W.Frag) : V → List V → Hp → VK → Prop := fun x xs H Q => ∃ (a : Addr) (y : V) (d : PyData) (ds : List PyData) (j : Nat) (z : PyData), x = V.ref a ∧ xs = [y] ∧ Dp K H (V.ref a) (.tuple ds) ∧ Dp K H y d ∧
  SeqAt.shaped (.tuple ds) = true ∧ SeqAt.shaped d = true ∧ ds[j]? = some z ∧ PyData.eqv z d = true ∧ (∀ (m : Nat) (z' : PyData), m < j → ds[m]? = some z' → PyData.eqv z' d = false) ∧ Q (.int (j : Nat)) H
theorem mt_indexT (hu : X.A.units + 65 < cLine) : MtR X "tuple.index" (rIndexT X.K) := by
  intro pins s σ H x xs v us Q I rx rxs h
  obtain ⟨a, y, d, ds, j, z, rfl, rfl, hl, hy, sl, sd, hz, hzj, hno, q⟩ := h
  cases rx
  cases rxs with
  | cons ry rt =>
    rename_i uy ut
    cases rt
    obtain ⟨bs, r1⟩ := Dp.reads I d y uy hy ry
    have hxs : PyData.canLayAll0 ds = true := SeqAt.canLay_of_shaped sl
    have hroom : X.A.units + 1 + min (PyData.depthAll ds) d.depth < cLine := room_in_shaped sd hu
    cases hl with
    | tup hs ha =>
      obtain ⟨its, rv, ⟨⟨cls, dd, data, sls⟩, ho, hc, n, hdt⟩, hlen⟩ := I.tuple hs
      simp only at hc hdt
      subst hc hdt
      obtain ⟨as, h4⟩ := Dp.readsAll I ds _ its ha rv
      have hn : its.length = ds.length := SeqAt.ReadsAll.length ds its as h4
      have hmap : its.map (SeqAt.readOf s.heap) = ds := SeqAt.readsAll_map ds its as hxs h4
      have hvl := rv.length
      obtain ⟨hjd, _⟩ := List.getElem?_eq_some_iff.mp hz
      have hjl : j < its.length := by omega
      have hj : j < its.toArray.size := by simpa using hjl
      have at_ : ∀ (m : Nat) (hm : m < its.toArray.size) (z' : PyData), ds[m]? = some z' → SeqAt.readOf s.heap its.toArray[m] = z' := by
        intro m hm z' hz'
        have hml : m < its.length := by simpa using hm
        rw [← hmap, List.getElem?_map, List.getElem?_eq_getElem hml] at hz'
        have e1 : SeqAt.readOf s.heap its[m] = z' := Option.some.inj (show some (SeqAt.readOf s.heap its[m]) = some z' from hz')
        simpa using e1
      refine call_meets PySem.F.slot_tuple_index ⟨_, ho, rfl⟩ PySem.F.entry_tuple_index (PySem.F.args_tuple_index_2 _ _)
        (TI.tuple_indexAt a its.toArray n dd sls uy (fun u => PyData.eqv (SeqAt.readOf s.heap u) d) j hj ?_ ?_) ⟨ho, SeqAt.items_eqAt (vs := its.toArray) (show ReadsAll s.heap its.toArray.toList ds as from h4) r1 hxs (SeqAt.canLay_of_shaped sd) hroom, ?_⟩
      · show PyData.eqv (SeqAt.readOf s.heap its.toArray[j]) d = true
        rw [at_ j hj z hz]
        exact hzj
      · intro m hm hmj
        have hmd : m < ds.length := by omega
        have hz' : ds[m]? = some ds[m] := List.getElem?_eq_getElem hmd
        show PyData.eqv (SeqAt.readOf s.heap its.toArray[m]) d = false
        rw [at_ m hm _ hz']
        exact hno m _ hmj hz'
      · exact ⟨.int (j : Nat), H, I.tok _, ⟨_, rfl⟩, q⟩

/-! ### repr(x) -/
def rRepr (K : PySem.W.Frag) : List V → Hp → VK → Prop := fun xs H Q => ∃ v d, xs = [v] ∧ Dp K H v d ∧ d.canLay0 = true ∧ d.depth ≤ 64 ∧ d.showable = true ∧ d.shown.length ≤ sizeLine ∧ Q (.str d.shown) H
theorem call_reprD (hg : X.A.guards = some []) (hu : X.A.units + 65 < cLine) : CallR X (.builtin "repr") (rRepr X.K) := by
  intro pins s σ H xs us Q I r h
  obtain ⟨v, d, rfl, hd, hl, hdep, hs, hz, q⟩ := h
  obtain ⟨u, rfl, ru⟩ := vals1 r
  obtain ⟨as, rd⟩ := Dp.reads I d v u hd ru
  have nd : d.hasDict = true → sysModules ∉ as := fun h' => by rw [PyData.hasDict_of_canLay d hl] at h'; exact absurd h' Bool.false_ne_true
  cases rd with
  | none => exact PySem.P.repr_of_none ⟨.str _, H, I.tok _, ⟨_, rfl⟩, q⟩
  | bool b => exact PySem.P.repr_of_bool ⟨.str _, H, I.tok _, ⟨_, rfl⟩, q⟩
  | int i t => exact PySem.P.repr_of_int (by simpa [PyData.showable] using hs) ⟨.str _, H, I.tok _, ⟨_, rfl⟩, q⟩
  | str x t => exact PySem.P.repr_of_str ⟨.str _, H, I.tok _, ⟨_, rfl⟩, q⟩ (by simpa only [PyData.shown] using hz)
  | list h1 h2 h3 h4 => exact repr_of_reads' (.list h1 h2 h3 h4) hs nd hg (by omega) (fun _ _ e => e) (fun h' u tk hk => ⟨.str _, H, I.kept (t' := tk) hk, ⟨_, rfl⟩, q⟩) hz
  | tuple h1 h2 h3 h4 => exact repr_of_reads' (.tuple h1 h2 h3 h4) hs nd hg (by omega) (fun _ _ e => e) (fun h' u tk hk => ⟨.str _, H, I.kept (t' := tk) hk, ⟨_, rfl⟩, q⟩) hz
  | dict h1 h2 h3 h4 h5 => exact absurd hl (by simp [PyData.canLay0])
end

/-! ### a def's promise where nothing is shown around it -/
structure FnG (P : Program) (w : World) (K : PySem.W.Frag) (mg : Str → Option Value) (base : Heap) (CX : CXT) (k : Nat) (f : Addr) (fd : FuncData) (ps : List Str) (sp : Sp) : Prop where
  len : ∀ vs H Q E, sp vs H Q E → vs.length = ps.length
  run : ∀ (A : Around) (outer : List PySem.Env) (s : Shared) (H : Hp) (args : Args) (us : List Value) (vs : List V) (Q : VK) (E : XK), Room k A → A.guards = some [] → Env0 P w K mg base A outer s H → BindsTo s fd args (ps.zip us) → Vals vs us → sp vs H Q E →
    codeAny (model P w) A (.call (.ref f) args) (CR CX outer P w H s Q E) s
section
variable {X : Cx} {CX : CXT} {k : Nat} {f C : Addr} {fd : FuncData} {ps : List Str} {sp : Sp} {dvs : List V} {ds : List Value} {E : XK} {x m : Str} {p pos apos : Pos} {e o : Expr} {es : List Expr} {ta : TE} {t : TA}
theorem run_fnG {pins : List (Addr × Obj)} {σ : L2.St} {H : Hp} {s : Shared} {Q : VK} {us : List Value} {vs : List V} (F : FnG X.prog X.w X.K X.mg X.base CX k f fd ps sp) (hr : Room k X.A) (hgd : X.A.guards = some []) (hb : Binds X.K fd ps ds) (hd : Vals dvs ds) (hx : Passes CX X E)
    (I : Inv X pins σ H s) (r : Vals vs us) (h : sp (vs ++ dvs) H Q E) : wpAny (model X.prog X.w) X.A (call (.ref f) us) (EP X pins σ Q) X.xe s := by
  have r2 : Vals (vs ++ dvs) (us ++ ds) := r.append hd
  have hl : (us ++ ds).length = ps.length := by rw [← r2.length]; exact F.len _ _ _ _ h
  refine wpAny_call (codeAny_mono (F.run X.A X.stack s H ⟨us, []⟩ (us ++ ds) (vs ++ dvs) Q E hr hgd I.env0 (hb s us I.kIn hl) r2 h) fun r s' hq => ?_)
  cases r with
  | error e => exact hx pins σ H s e s' I hq
  | ok fl =>
    cases fl with
    | ret u => exact I.after hq
    | next => exact False.elim hq
    | brk => exact False.elim hq
    | cont => exact False.elim hq
theorem pe_callG (F : FnG X.prog X.w X.K X.mg X.base CX k f fd ps sp) (hr : Room k X.A) (hgd : X.A.guards = some []) (hg : Gl X x) (hm : X.mg x = some (.ref f)) (hk : PySem.W.keepIn X.K (.ref f) = true) (hb : Binds X.K fd ps ds) (hd : Vals dvs ds) (hx : Passes CX X E)
    (ha : PA X (e :: es) t) (hdb : (x == ("__debug__" : Str)) = false := by decide) (he : starEach (e :: es) X.env = (false, eval e X.env) :: starEach es X.env := by rfl) (hpl : (backTo pos (starEach es X.env)).any (·.1) = false := by rfl) :
    PE X (.Call (.Name x p) (e :: es) [] pos) (tCall sp dvs E t) := by
  refine ⟨fun pins s σ H Q I h => ?_⟩
  refine wpAny_Call_Name_kw (ld_glob I hg hm ?_ hdb)
  refine PySem.W.callWith_K (h₀ := X.base) I.ok.mod.kin hk (thn (ha.run pos pins s σ H _ I h) fun us s1 ⟨vs, H1, I1, r, q⟩ => ⟨I1.kIn, ?_⟩) he hpl
  exact run_fnG F hr hgd hb hd hx I1 r q
theorem pe_callG0 (F : FnG X.prog X.w X.K X.mg X.base CX k f fd ps sp) (hr : Room k X.A) (hgd : X.A.guards = some []) (hg : Gl X x) (hm : X.mg x = some (.ref f)) (hk : PySem.W.keepIn X.K (.ref f) = true) (hb : Binds X.K fd ps ds) (hd : Vals dvs ds) (hx : Passes CX X E)
    (hdb : (x == ("__debug__" : Str)) = false := by decide) : PE X (.Call (.Name x p) [] [] pos) (tCall sp dvs E tNil) := by
  refine ⟨fun pins s σ H Q I h => ?_⟩
  refine wpAny_Call_Name_kw (ld_glob I hg hm ?_ hdb)
  exact PySem.W.callWith_K0 I.kIn hk (run_fnG (us := []) F hr hgd hb hd hx I .nil h)
end
theorem fnG_of {CX : CXT} {P : Program} {w : World} {K : PySem.W.Frag} {mg : Str → Option Value} {base : Heap} {k : Nat} {f : Addr} {name qual : Str} {params : Arguments} {body : List Stmt} {scope : Scope} {dV kV doc pm cdv ct oc : Value} {an od : Option Addr}
    {osl : Array (Option Value)} {N ps : List Str} {sp : Sp} (lk : K.lookup f = some ⟨oc, od, .func (PySem.W.fnOf name qual params body scope dV kV doc pm an cdv ct), osl⟩) (hcd : PySem.W.codeIn K cdv qual = true) (S : FnScope N ps scope)
    (len : ∀ vs H Q E, sp vs H Q E → vs.length = ps.length)
    (hbody : ∀ (A : Around) (outer : List PySem.Env) (s : Shared) (H : Hp) (vs : List V) (Q : VK) (E : XK), Room k (A.deeper (envOfC qual scope s.heap.objs.size f cdv)) → (A.deeper (envOfC qual scope s.heap.objs.size f cdv)).guards = some [] → sp vs H Q E →
      ∃ t, PSs (cxOf CX P w K mg base N qual scope f cdv A outer s H E) body t ∧ t { nx := fun _ H' => Q .non H', rt := Q } (start N vs) H) :
    FnG P w K mg base CX (k + 1) f (PySem.W.fnOf name qual params body scope dV kV doc pm an cdv ct) ps sp := by
  refine ⟨len, fun A outer s H args us vs Q E hr hgd e0 hb r hsp => ?_⟩
  have hl := len _ _ _ _ hsp
  have KX : K.In s.heap := e0.mod.kin.keeps fun b o e => (e0.bs b o e).1
  have lim : s.heap.NoLimit := e0.mod.nolimit.keeps fun b o e => (e0.bs b o e).1
  have hkind : ∀ y ∈ ps.zip us, scope.names.lookup y.1 = some .local ∨ (scope.names.lookup y.1 = some .cell ∧ ((cellsFrom (s.heap.objs.size + 1) scope.names []).lookup y.1).isSome = true) := fun ⟨n, v⟩ hy => by
    rcases S.par n (List.of_mem_zip hy).1 with q | q
    · exact .inl q
    · exact .inr ⟨q, PySem.W.cellsFrom_some _ _ _ (.inl q)⟩
  refine codeAny_call_function hr.depth (KX _ _ lk) rfl S.co S.gen rfl (PySem.W.codeRec_of KX hcd) (hb _ _ _ _ ?_)
  refine wpAny_newFunctionEnv_cells S.kind hkind fun env he s1 x => ?_
  subst he
  refine ⟨lim.keeps x.toInCall.keep, codeAny_func ?_⟩
  obtain ⟨t, ht, hq⟩ := hbody A outer s H vs Q E (hr.deeper _) hgd hsp
  have I : Inv (cxOf CX P w K mg base N qual scope f cdv A outer s H E) [] (start N vs) H s1 := inv_start S hr.hd e0 hl r x
  refine wpAny_mono (ht.run [] s1 (start N vs) H _ I hq) (fun fl s' hs => ?_) fun e s' hs => hs
  have fin : ∀ {σ' : L2.St} {H' : Hp} {v : V} {u : Value}, Inv (cxOf CX P w K mg base N qual scope f cdv A outer s H E) [] σ' H' s' → RelV v u → Q v H' → CE outer P w H s Q u s' :=
    fun {σ' H' v u} J rv q => ⟨v, H', J.os, J.bare, J.base, J.hok, rv, q⟩
  cases fl with
  | ret u =>
    obtain ⟨v, σ', H', J, rv, q⟩ := hs
    exact fin J rv q
  | next =>
    obtain ⟨σ', H', J, q⟩ := hs
    exact fin (v := V.non) (u := Value.none) J rfl q
  | brk =>
    obtain ⟨_, _, _, q⟩ := hs
    exact False.elim q
  | cont =>
    obtain ⟨_, _, _, q⟩ := hs
    exact False.elim q
theorem fnG_ok {P : Program} {w : World} {K : PySem.W.Frag} {mg : Str → Option Value} {base : Heap} {x qual : Str} {st : Stmt} {f : Addr} {fd : FuncData} {N ps : List Str} {k : Nat} {sp : Sp} (F : Fun K x qual st f fd) (S : FnScope N ps (defScope st)) (len : ∀ vs H Q E, sp vs H Q E → vs.length = ps.length)
    (hbody : ∀ (cdv : Value) (A : Around) (outer : List PySem.Env) (s : Shared) (H : Hp) (vs : List V) (Q : VK) (E : XK), Room k (A.deeper (envOfC qual (defScope st) s.heap.objs.size f cdv)) → (A.deeper (envOfC qual (defScope st) s.heap.objs.size f cdv)).guards = some [] → sp vs H Q E →
      ∃ t, PSs (cxOf CX0 P w K mg base N qual (defScope st) f cdv A outer s H E).nox (defBody st) t ∧ t { nx := fun _ H' => Q .non H', rt := Q } (start N vs) H) : FnG P w K mg base CX0 (k + 1) f fd ps sp := by
  obtain ⟨oc, od, kV, doc, pm, an, cdv, ct, osl, rfl, lk, hcd⟩ := F.ex
  refine fnG_of lk hcd S len fun A outer s H vs Q E hr hgd hsp => ?_
  obtain ⟨t, h, q⟩ := hbody cdv A outer s H vs Q E hr hgd hsp
  exact ⟨t, h.nox, q⟩

/-! ### new tuples, known to have no dict -/
/-- Q of a new tuple -/
def newT (H : Hp) (ws : List V) (Q : VK) : Prop := ∀ (p : Addr) (o : Obj), H p = none → o.dict = none → Q (.ref p) (upd H p (.frz o (.tup ws)))
section
variable {X : Cx} {es : List Expr} {t : TA} {pos : Pos}
theorem newT_run {pins : List (Addr × Obj)} {σ : L2.St} {H : Hp} {s : Shared} {Q : VK} {its : List Value} {ws : List V} (I : Inv X pins σ H s) (r : Vals ws its) (hz : ws.length ≤ sizeLine) (q : newT H ws Q) {h' : Heap} (hk : ∀ b o, s.heap.get? b = some o → h'.get? b = some o) {tk : Nat} {p : Addr} {n : Nat} (hp : s.heap.objs.size ≤ p) (hg : h'.get? p = some { cls := .type "tuple", data := .seq its.toArray n }) :
    EP X pins σ Q (.ref p) { s with heap := h', toks := tk } := by
  have hf : H p = none := I.hok.fresh hp
  refine ⟨.ref p, upd H p (.frz { cls := .type "tuple", data := .seq its.toArray n } (.tup ws)), I.laid (t' := tk) hk hp ?_, rfl, q p _ hf rfl⟩
  exact ⟨hg, hz, its, r, ⟨_, hg, rfl, n, rfl⟩⟩
/-- a tuple of written items -/
theorem pe_tupN {x1} (h : PA X es t) : PE X (.Tuple es x1 pos) (fun σ H Q => t σ H fun xs H1 => xs.length ≤ sizeLine ∧ newT H1 xs Q) := by
  refine ⟨fun pins s σ H Q I hq => ?_⟩
  refine wpAny_Tuple_spliced (thn (h.run pos pins s σ H _ I hq) fun us s1 ⟨xs, H1, I1, r, z, q⟩ => ⟨by rw [← r.length]; exact z, ?_⟩)
  exact newT_run (tk := s1.toks) I1 r z q (fun b u e => Heap.get?_push_of_some _ e) (Nat.le_refl _) (Heap.get?_push_size _ rfl)
/-- t + u -/
def rCatN (K : PySem.W.Frag) : R2 := fun x y H Q => ∃ a b xs ys, x = .ref a ∧ y = .ref b ∧ SqT K H a xs ∧ SqT K H b ys ∧ xs.length + ys.length ≤ sizeLine ∧
  (xs = [] → Q (.ref b) H) ∧ (xs ≠ [] → ys = [] → Q (.ref a) H) ∧ (xs ≠ [] → ys ≠ [] → newT H (xs ++ ys) Q)
theorem op_catN : OpR X (binaryOp .Add) (rCatN X.K) := by
  intro pins s σ H x y v u Q I rx ry h
  obtain ⟨a, b, xs, ys, rfl, rfl, ha, hb, hz, q0, q1, q2⟩ := h
  cases rx
  cases ry
  obtain ⟨its, r1, p1, _⟩ := I.tuple ha
  obtain ⟨its2, r2, p2, _⟩ := I.tuple hb
  by_cases hx : xs = []
  · subst hx
    cases r1
    exact cat_tup0 p1 p2 ⟨.ref b, H, I, rfl, q0 rfl⟩
  · refine HT.cat_tup p1 p2 (fun z => hx (r1.nil_iff.mp z)) (fun z => ⟨.ref a, H, I, rfl, q1 hx (r2.nil_iff.mp z)⟩) (fun z => ?_) (by rw [← r1.length, ← r2.length]; exact hz)
    exact newT_run (tk := s.toks) I (r1.append r2) (by rw [List.length_append]; exact hz) (q2 hx fun w => z (r2.nil_iff.mpr w)) (fun b ob q => Heap.get?_push_of_some _ q) (Nat.le_refl _) (Heap.get?_push_size _ rfl)
/-- t[lo:hi]: the whole of it is t itself -/
def rSlN (K : PySem.W.Frag) : V → Option Int → Option Int → Hp → VK → Prop := fun x lo hi H Q => ∃ a xs, x = .ref a ∧ SqT K H a xs ∧
  (HT.sIx xs.length 0 lo = 0 ∧ HT.sIx xs.length xs.length hi = xs.length → Q (.ref a) H) ∧ (¬ (HT.sIx xs.length 0 lo = 0 ∧ HT.sIx xs.length xs.length hi = xs.length) → newT H (cutV xs lo hi) Q)
theorem sl_tupN : SlR X (rSlN X.K) := by
  intro pins s σ H x v vl vu lo hi sl Q I rx hs pl pu h
  obtain ⟨a, xs, rfl, hx, q1, q2⟩ := h
  cases rx
  obtain ⟨its, r, ht, hz⟩ := I.tuple hx
  have hlen : its.toArray.size = xs.length := by rw [List.size_toArray]; exact r.length.symm
  refine ⟨"tuple", _, PyProof.Rows.slot_tuple_getitem.lookup, ht.typeIs, ?_⟩
  by_cases hw : HT.sIx xs.length 0 lo = 0 ∧ HT.sIx xs.length xs.length hi = xs.length
  · exact getItem_tuple_whole ht hs pl pu (by rw [hlen]; exact hw) ⟨.ref a, H, I, rfl, q1 hw⟩
  · refine HT.getItem_tuple_cut ht hs pl pu (by rw [hlen]; exact hw) ?_ (by rw [hlen]; exact hz)
    rw [hlen]
    exact newT_run (tk := s.toks) I ((r.drop (HT.sIx xs.length 0 lo)).take (HT.sIx xs.length xs.length hi - HT.sIx xs.length 0 lo)) (Nat.le_trans (cutV_length xs lo hi) hz) (q2 hw) (fun b ob q => Heap.get?_push_of_some _ q) (Nat.le_refl _) (Heap.get?_push_size _ rfl)
/-- tuple(x) -/
theorem call_tuple_N : CallR X (.type "tuple") (fun xs H Q => ∃ p ys, xs = [.ref p] ∧ ((SqL X.K H p ys ∧ newT H ys Q) ∨ (SqT X.K H p ys ∧ Q (.ref p) H))) := by
  intro pins s σ H xs us Q I r h
  obtain ⟨p, ys, rfl, h⟩ := h
  obtain ⟨u, rfl, rx⟩ := vals1 r
  cases rx
  rcases h with ⟨hq, q⟩ | ⟨hq, q⟩
  · obtain ⟨its, r', pl, hz⟩ := I.list hq
    have hlen := r'.length
    refine call_tuple_list pl.isList (fun h' kp => ?_) (by simp only [List.size_toArray] <;> omega)
    have I1 : Inv X pins σ H { s with heap := h' } := I.kept (t' := s.toks) kp
    exact newT_run (tk := s.toks) I1 r' hz q (fun b o e => Heap.get?_push_of_some _ e) (Nat.le_refl _) (Heap.get?_push_size _ rfl)
  · obtain ⟨its, r', pl, hz⟩ := I.tuple hq
    exact call_tuple_same pl ⟨.ref p, H, I, rfl, q⟩
/-- t * k -/
def rRepN (K : PySem.W.Frag) : R2 := fun x y H Q => ∃ l k xs, x = .ref l ∧ y = .int k ∧ SqT K H l xs ∧ xs ≠ [] ∧ 2 ≤ k ∧ k ≤ 1000 ∧ xs.length ≤ 1000 ∧ newT H (List.replicate k.toNat xs).flatten Q
theorem op_repN : OpR X (binaryOp .Mult) (rRepN X.K) := by
  intro pins s σ H x y v u Q I rx ry h
  obtain ⟨l, k, xs, rfl, rfl, hT, hne, h1, h2, hz, q⟩ := h
  cases rx
  obtain ⟨t, rfl⟩ := ry
  obtain ⟨its, r, ⟨⟨cls, dd, data, sl⟩, ho, hc, n, hd⟩, hs⟩ := I.tuple hT
  simp only at hc hd
  subst hc hd
  have hle : its.length = xs.length := r.length.symm
  have hn : its ≠ [] := fun e => hne (by
    rw [e] at hle
    exact List.eq_nil_of_length_eq_zero hle.symm)
  have hi : its.toArray.isEmpty = false := by
    cases its with
    | nil => exact absurd rfl hn
    | cons a b => rfl
  have hsz0 : its.toArray.size = xs.length := by rw [List.size_toArray, hle]
  have hm : ((its.toArray.size : Nat) : Int) * k ≤ 1000000 := by
    rw [hsz0]
    have a1 : ((xs.length : Nat) : Int) * k ≤ 1000 * k := Int.mul_le_mul_of_nonneg_right (by omega) (by omega)
    omega
  have flen : (List.replicate k.toNat its).flatten.length ≤ sizeLine := by
    rw [PyProof.Rows.lm_len_rep_flat, hle, sizeLine_eq]
    have a1 : k.toNat * xs.length ≤ 1000 * 1000 := Nat.mul_le_mul (by omega) hz
    omega
  have c0 : (decide (k < -(2 ^ 63)) || decide (k ≥ 2 ^ 63)) = false := by
    rw [decide_eq_false (by omega), decide_eq_false (by omega)] <;> rfl
  have c1 : (its.toArray.isEmpty || k == 1) = false := by
    rw [hi, Bool.false_or]
    exact beq_eq_false_iff_ne.mpr (by omega)
  have c2 : (decide (k ≤ 0) || its.toArray.isEmpty) = false := by
    rw [hi, Bool.or_false]
    exact decide_eq_false (by omega)
  have c4 : Builtin.Tuple.tupleTooMany (((its.toArray.size : Nat) : Int) * k) = false := by
    unfold Builtin.Tuple.tupleTooMany
    rw [sizeLine_eq]
    exact decide_eq_false (by omega)
  refine wpAny_binaryOp_repeat_ref (T := "tuple") (U := "int") (by decide) ⟨_, ho, rfl⟩ (fun s' => typeIs_int s' k t) noFill_tuple_mul F.fills_int_mul F.slot_int_rmul repeat_tuple F.slot_int_index.lookup
    (call_meets F.slot_int_rmul (typeIs_int s k t) F.entry_int_rmul (F.args_int_rmul_2 _ _) (int_rmul_tuple k t l its.toArray n dd sl)
      ⟨ho, rfl, ⟨_, ho, rfl⟩, call_meets F.slot_tuple_mul ⟨_, ho, rfl⟩ F.entry_tuple_mul (F.args_tuple_mul_2 _ _) (tuple_mulW l its.toArray n dd sl k t c0 c1 c2 (by omega) c4 (by rw [size_rep, List.size_toArray]; exact flen)) ⟨ho, ?_⟩⟩)
  rw [size_rep]
  refine newT_run (tk := s.toks) I (r.rep k.toNat) ?_ q (fun b ob q => Heap.get?_push_of_some _ q) (Nat.le_refl _) (Heap.get?_push_size _ rfl)
  rw [PyProof.Rows.lm_len_rep_flat, sizeLine_eq]
  have a1 : k.toNat * xs.length ≤ 1000 * 1000 := Nat.mul_le_mul (by omega) hz
  omega

/-! ### a method of a tuple that has no dict -/
def NoD (K : PySem.W.Frag) (H : Hp) (a : Addr) : Prop := (∃ o u, H a = some (.frz o u) ∧ o.dict = none) ∨ ∃ o, K.lookup a = some o ∧ o.dict = none
def tBMT (K : PySem.W.Frag) (r : V → List V → Hp → VK → Prop) (to : TE) (t : TA) : TE := fun σ H Q => to σ H fun x H1 => (∃ a ws, x = .ref a ∧ SqT K H1 a ws ∧ NoD K H1 a) ∧ t σ H1 fun vs H2 => r x vs H2 Q
theorem pe_bmT {name : Str} {id : String} {r : V → List V → Hp → VK → Prop} {o e : Expr} {to : TE} {apos cpos : Pos} (pa : PlainAttrs "tuple") (slot : Slot "tuple" name id) (hty : typeOf (.builtin id) = pure (.type "method_descriptor")) (hm : MtR X id r) (ho : PE X o to) (ha : PA X (e :: es) t)
    (hbase : attributeBase o name X.env (eval o X.env) = eval o X.env)
    (hfew : ((backTo cpos (starEach (e :: es) X.env)).all (fun x => !x.1) && (backToKw cpos (keywordEach [] X.env)).all (fun x => x.1.isSome)
      && decide ((e :: es).length + ([] : List Keyword).length + (if ([] : List Keyword).isEmpty then 0 else 1) < 30)) = true)
    (hline : (apos.endLine == cpos.line) = true) (hs : starEach (e :: es) X.env = (false, eval e X.env) :: starEach es X.env) (hplain : (backTo cpos (starEach es X.env)).any (·.1) = false) :
    PE X (.Call (.Attribute o name apos) (e :: es) [] cpos) (tBMT X.K r to t) := by
  refine ⟨fun pins s σ H Q I h => ?_⟩
  refine wpAny_Call_method_late hbase hfew hline rfl (thn (ho.run pins s σ H _ I h) fun v s1 ⟨x, H1, I1, r1, ⟨a, ws, ex, st, nd⟩, q1⟩ => ?_)
  subst ex
  cases r1
  obtain ⟨its, rv, it, _⟩ := I1.tuple st
  have h1 : s1.TypeIs (.ref a) "tuple" := it.typeIs
  have h2 : ∀ b, Value.ref a = .ref b → ∃ ob, s1.heap.get? b = some ob ∧ ob.dict = none := fun b e => by
    cases e
    rcases nd with ⟨o, u, e1, e2⟩ | ⟨o, e1, e2⟩
    · exact ⟨o, (I1.hok a _ e1).1, e2⟩
    · exact ⟨o, I1.kIn a o e1, e2⟩
  refine ⟨"tuple", id, pa, slot, hty, h1, h2, ?_⟩
  have hA := ha.run cpos pins s1 σ H1 _ I1 q1
  rw [hs] at hA ⊢
  refine Calls.callWith_builtin (by show (false || (backTo cpos (starEach es X.env)).any (·.1)) = false; rw [hplain] <;> rfl) (Calls.evalArgs_plain ?_)
  exact thn hA fun us s2 ⟨vs, H2, I2, r2, q2⟩ => hm pins s2 σ H2 (.ref a) vs _ us Q I2 (show RelV (V.ref a) (Value.ref a) from rfl) r2 q2
end
end Ip

/-! Ip, part B: the interpreter's values over the model's heap. -/
namespace Ip
open PySem PySem.Spec PyProof.Rows L2

abbrev Fr := PySem.W.Frag
/-- a tuple that is known to have no dict -/
def SqN (K : Fr) (H : Hp) (a : Addr) (ws : List V) : Prop := (∃ o, H a = some (.frz o (.tup ws)) ∧ o.dict = none) ∨
  ∃ (o : Obj) (its : Array Value) (n : Nat), K.lookup a = some o ∧ o.cls = .type "tuple" ∧ o.dict = none ∧ o.data = .seq its n ∧ its.size ≤ sizeLine ∧ Vals ws its.toList
theorem SqN.t {K : Fr} {H : Hp} {a : Addr} {ws : List V} (h : SqN K H a ws) : SqT K H a ws := by
  rcases h with ⟨o, e, _⟩ | ⟨o, its, n, h1, h2, _, h3⟩
  · exact .inl (.inr ⟨o, e⟩)
  · exact .inr ⟨o, its, n, h1, h2, h3⟩
theorem SqN.noD {K : Fr} {H : Hp} {a : Addr} {ws : List V} (h : SqN K H a ws) : NoD K H a := by
  rcases h with ⟨o, e, d⟩ | ⟨o, its, n, h1, h2, d, h3⟩
  · exact .inl ⟨o, _, e, d⟩
  · exact .inr ⟨o, h1, d⟩
section
variable (K : Fr)

mutual
/-- d is borne by v: mu tells where the interpreter's lists lie -/
def Rep (mu : List Addr) (H : Hp) : D → V → Prop
  | .non, v => v = .non
  | .bl b, v => v = .bl b
  | .int i, v => v = .int i
  | .str x, v => v = .str x
  | .ty n, v => v = .ty n
  | .tup ds, v => ∃ a ws, v = .ref a ∧ SqN K H a ws ∧ Reps mu H ds ws
  | .frz ds, v => ∃ a ws, v = .ref a ∧ ((∃ o, H a = some (.frz o (.lst ws))) ∨ (∃ (o : Obj) (its : Array Value) (n : Nat), K.lookup a = some o ∧ o.cls = .type "list" ∧ o.dict = none ∧ o.data = .seq its n ∧ its.size ≤ sizeLine ∧ Vals ws its.toList)) ∧ Reps mu H ds ws
  | .ref n, v => ∃ a, v = .ref a ∧ mu[n]? = some a ∧ ∃ ws, H a = some (.lst ws)
  | .obj n, v => ∃ a, v = .ref a ∧ mu[n]? = some a
  | .dct ks ds, v => ∃ a, v = .ref a ∧ ∃ o kvs, H a = some (.frz o (.dK kvs)) ∧ kvs.map (·.1) = ks.map Sum.inl ∧ Reps mu H ds (kvs.map (·.2))
def Reps (mu : List Addr) (H : Hp) : List D → List V → Prop
  | [], vs => vs = []
  | d :: ds, vs => ∃ w ws, vs = w :: ws ∧ Rep mu H d w ∧ Reps mu H ds ws
end

/-- the attributes that own classes' instances have -/
def fldNames : List Str := ["now", "leap", "ahead", "live"]
/-- an own class -/
structure ClsK (c : Str) (C : Addr) : Prop where
  at_ : PySem.W.nsIn K mainGlobals c = some (some (.ref C))
  cl : Cls K C
  na : ∀ f, f ∈ fldNames → NoAttr K C f
theorem ClsK.same {c : Str} {C C' : Addr} (x : ClsK K c C) (y : ClsK K c C') : C = C' := by
  have := x.at_.symm.trans y.at_
  simpa using this
def ObjRel (mu : List Addr) (H : Hp) (a : Addr) : O → Prop
  | .lst ds => ∃ ws, H a = some (.lst ws) ∧ Reps K mu H ds ws
  | .ins c fs => ∃ C dx vs, H a = some (.ins C dx vs) ∧ ClsK K c C ∧ vs.map (·.1) = fs.map (·.1) ∧ Reps K mu H (fs.map (·.2)) (vs.map (·.2))

structure RelH (mu : List Addr) (H : Hp) (h : Hh) : Prop where
  len : mu.length = h.length
  nd : mu.Nodup
  obj : ∀ (n : Nat) (o : O) (a : Addr), h[n]? = some o → mu[n]? = some a → ObjRel K mu H a o

/-- what stands for good -/
def imm : HO → Bool
  | .tup _ => true
  | .frz _ _ => true
  | _ => false

structure Ext (mu : List Addr) (H : Hp) (mu' : List Addr) (H' : Hp) : Prop where
  pre : mu <+: mu'
  fresh : ∀ a, a ∈ mu' → a ∉ mu → H a = none
  keep : ∀ a o, H a = some o → (a ∉ mu ∨ imm o = true) → H' a = some o
  kind : ∀ a ws, H a = some (.lst ws) → ∃ ws', H' a = some (.lst ws')

structure RelEnv (mu : List Addr) (H : Hp) (env : Env) (sg : L2.St) : Prop where
  len : env.length = sg.length
  at_ : ∀ (i : Nat) (d : D), env[i]? = some (some d) → ∃ v, sg[i]? = some (some v) ∧ Rep K mu H d v
end

section
variable {K : Fr} {mu mu' mu'' : List Addr} {H H' H'' : Hp}

theorem Ext.refl : Ext mu H mu H := ⟨List.prefix_refl _, fun _ h n => absurd h n, fun _ _ h _ => h, fun _ ws h => ⟨ws, h⟩⟩
theorem Ext.trans (x : Ext mu H mu' H') (y : Ext mu' H' mu'' H'') : Ext mu H mu'' H'' := by
  have key : ∀ a o, H a = some o → a ∉ mu → a ∉ mu' := fun a o h n m => by
    have := x.fresh a m n
    rw [this] at h
    cases h
  refine ⟨x.pre.trans y.pre, fun a m n => ?_, fun a o h c => ?_, fun a ws h => ?_⟩
  · by_cases hm : a ∈ mu'
    · exact x.fresh a hm n
    · have e := y.fresh a m hm
      cases q : H a with
      | none => rfl
      | some o =>
        have := x.keep a o q (.inl n)
        rw [e] at this
        cases this
  · have h1 := x.keep a o h c
    refine y.keep a o h1 ?_
    rcases c with c | c
    · exact .inl (key a o h c)
    · exact .inr c
  · obtain ⟨ws1, h1⟩ := x.kind a ws h
    exact y.kind a ws1 h1

theorem pre_get (x : mu <+: mu') {n : Nat} {a : Addr} (h : mu[n]? = some a) : mu'[n]? = some a := by
  obtain ⟨t, rfl⟩ := x
  obtain ⟨hn, e⟩ := List.getElem?_eq_some_iff.mp h
  rw [List.getElem?_append_left hn]
  exact h
theorem Ext.get (x : Ext mu H mu' H') {n : Nat} {a : Addr} (h : mu[n]? = some a) : mu'[n]? = some a := pre_get x.pre h
/-- what stands for good stays -/
abbrev Imm (H H' : Hp) : Prop := ∀ a o, H a = some o → imm o = true → H' a = some o
/-- lists stay lists -/
abbrev KL (H H' : Hp) : Prop := ∀ a ws, H a = some (.lst ws) → ∃ ws', H' a = some (.lst ws')
theorem Ext.toImm (x : Ext mu H mu' H') : Imm H H' := fun a o h i => x.keep a o h (.inr i)
theorem imm_tup (x : Imm H H') {a : Addr} {ws : List V} (h : SqN K H a ws) : SqN K H' a ws := by
  rcases h with ⟨o, h, d⟩ | h
  · exact .inl ⟨o, x _ _ h rfl, d⟩
  · exact .inr h
theorem Ext.tup (x : Ext mu H mu' H') {a : Addr} {ws : List V} (h : SqN K H a ws) : SqN K H' a ws := imm_tup x.toImm h

mutual
theorem Rep.mono0 (p : mu <+: mu') (x : Imm H H') (kl : KL H H') : ∀ (d : D) (v : V), Rep K mu H d v → Rep K mu' H' d v
  | .non, _, h => by simpa only [Rep] using h
  | .bl _, _, h => by simpa only [Rep] using h
  | .int _, _, h => by simpa only [Rep] using h
  | .str _, _, h => by simpa only [Rep] using h
  | .ty _, _, h => by simpa only [Rep] using h
  | .tup ds, v, h => by
    simp only [Rep] at h ⊢
    obtain ⟨a, ws, e, s, r⟩ := h
    exact ⟨a, ws, e, imm_tup x s, Reps.mono0 p x kl ds ws r⟩
  | .frz ds, v, h => by
    simp only [Rep] at h ⊢
    obtain ⟨a, ws, e, s, r⟩ := h
    refine ⟨a, ws, e, ?_, Reps.mono0 p x kl ds ws r⟩
    rcases s with ⟨o, s⟩ | s
    · exact .inl ⟨o, x _ _ s rfl⟩
    · exact .inr s
  | .ref n, v, h => by
    simp only [Rep] at h ⊢
    obtain ⟨a, e, m, ws, l⟩ := h
    exact ⟨a, e, pre_get p m, kl a ws l⟩
  | .obj n, v, h => by
    simp only [Rep] at h ⊢
    obtain ⟨a, e, m⟩ := h
    exact ⟨a, e, pre_get p m⟩
  | .dct ks ds, v, h => by
    simp only [Rep] at h ⊢
    obtain ⟨a, e, o, kvs, s, ek, r⟩ := h
    exact ⟨a, e, o, kvs, x _ _ s rfl, ek, Reps.mono0 p x kl ds _ r⟩
theorem Reps.mono0 (p : mu <+: mu') (x : Imm H H') (kl : KL H H') : ∀ (ds : List D) (vs : List V), Reps K mu H ds vs → Reps K mu' H' ds vs
  | [], _, h => by simpa only [Reps] using h
  | d :: ds, vs, h => by
    simp only [Reps] at h ⊢
    obtain ⟨w, ws, e, r, rs⟩ := h
    exact ⟨w, ws, e, Rep.mono0 p x kl d w r, Reps.mono0 p x kl ds ws rs⟩
end
theorem Rep.mono (x : Ext mu H mu' H') (d : D) (v : V) (h : Rep K mu H d v) : Rep K mu' H' d v := Rep.mono0 x.pre x.toImm x.kind d v h
theorem Reps.mono (x : Ext mu H mu' H') (ds : List D) (vs : List V) (h : Reps K mu H ds vs) : Reps K mu' H' ds vs := Reps.mono0 x.pre x.toImm x.kind ds vs h
theorem RelEnv.mono {env : Env} {sg : L2.St} (x : Ext mu H mu' H') (r : RelEnv K mu H env sg) : RelEnv K mu' H' env sg :=
  ⟨r.len, fun i d e => let ⟨v, e1, q⟩ := r.at_ i d e; ⟨v, e1, q.mono x⟩⟩

theorem Reps.length : ∀ {ds : List D} {vs : List V}, Reps K mu H ds vs → ds.length = vs.length
  | [], vs, h => by
    simp only [Reps] at h
    subst h
    rfl
  | d :: ds, vs, h => by
    simp only [Reps] at h
    obtain ⟨w, ws, e, r, rs⟩ := h
    subst e
    simp [Reps.length rs]
theorem Reps.get : ∀ {ds : List D} {vs : List V} {i : Nat} {d : D}, Reps K mu H ds vs → ds[i]? = some d → ∃ v, vs[i]? = some v ∧ Rep K mu H d v
  | [], _, _, _, _, e => by simp at e
  | d :: ds, vs, 0, x, h, e => by
    simp only [Reps] at h
    obtain ⟨w, ws, rfl, r, rs⟩ := h
    simp at e
    subst e
    exact ⟨w, rfl, r⟩
  | d :: ds, vs, i + 1, x, h, e => by
    simp only [Reps] at h
    obtain ⟨w, ws, rfl, r, rs⟩ := h
    obtain ⟨v, e1, q⟩ := Reps.get (i := i) (d := x) rs (by simpa using e)
    exact ⟨v, by simpa using e1, q⟩
theorem Reps.append : ∀ {ds es : List D} {vs ws : List V}, Reps K mu H ds vs → Reps K mu H es ws → Reps K mu H (ds ++ es) (vs ++ ws)
  | [], es, vs, ws, h, g => by
    simp only [Reps] at h
    subst h
    simpa using g
  | d :: ds, es, vs, ws, h, g => by
    simp only [Reps] at h
    obtain ⟨w, us, rfl, r, rs⟩ := h
    simp only [List.cons_append, Reps]
    exact ⟨w, us ++ ws, rfl, r, Reps.append rs g⟩
theorem Reps.one {d : D} {v : V} (h : Rep K mu H d v) : Reps K mu H [d] [v] := by
  simp only [Reps]
  exact ⟨v, [], rfl, h, rfl⟩
theorem Reps.set : ∀ {ds : List D} {vs : List V} {d : D} {v : V} (i : Nat), Rep K mu H d v → Reps K mu H ds vs → Reps K mu H (ds.set i d) (vs.set i v)
  | [], _, _, _, _, _, h => by
    simp only [Reps] at h
    subst h
    simp [Reps]
  | e :: ds, vs, d, v, 0, r, h => by
    simp only [Reps] at h
    obtain ⟨w, us, rfl, q, rs⟩ := h
    simp only [List.set_cons_zero, Reps]
    exact ⟨v, us, rfl, r, rs⟩
  | e :: ds, vs, d, v, i + 1, r, h => by
    simp only [Reps] at h
    obtain ⟨w, us, rfl, q, rs⟩ := h
    simp only [List.set_cons_succ, Reps]
    exact ⟨w, us.set i v, rfl, q, Reps.set i r rs⟩
theorem Reps.drop : ∀ {ds : List D} {vs : List V} (i : Nat), Reps K mu H ds vs → Reps K mu H (ds.drop i) (vs.drop i)
  | _, _, 0, h => by simpa using h
  | [], vs, i + 1, h => by
    simp only [Reps] at h
    subst h
    simp [Reps]
  | d :: ds, vs, i + 1, h => by
    simp only [Reps] at h
    obtain ⟨w, us, rfl, q, rs⟩ := h
    simpa using Reps.drop i rs
theorem Reps.take : ∀ {ds : List D} {vs : List V} (i : Nat), Reps K mu H ds vs → Reps K mu H (ds.take i) (vs.take i)
  | _, _, 0, h => by simp [Reps]
  | [], vs, i + 1, h => by
    simp only [Reps] at h
    subst h
    simp [Reps]
  | d :: ds, vs, i + 1, h => by
    simp only [Reps] at h
    obtain ⟨w, us, rfl, q, rs⟩ := h
    simp only [List.take_succ_cons, Reps]
    exact ⟨w, us.take i, rfl, q, Reps.take i rs⟩
theorem Reps.erase : ∀ {ds : List D} {vs : List V} (i : Nat), Reps K mu H ds vs → Reps K mu H (ds.eraseIdx i) (vs.eraseIdx i)
  | [], vs, i, h => by
    simp only [Reps] at h
    subst h
    simp [Reps]
  | d :: ds, vs, 0, h => by
    simp only [Reps] at h
    obtain ⟨w, us, rfl, q, rs⟩ := h
    simpa using rs
  | d :: ds, vs, i + 1, h => by
    simp only [Reps] at h
    obtain ⟨w, us, rfl, q, rs⟩ := h
    simp only [List.eraseIdx_cons_succ, Reps]
    exact ⟨w, us.eraseIdx i, rfl, q, Reps.erase i rs⟩
theorem Reps.nil_iff {ds : List D} {vs : List V} (h : Reps K mu H ds vs) : ds = [] ↔ vs = [] := by
  have := h.length
  cases ds <;> cases vs <;> simp_all
theorem Reps.flat {ds : List D} {vs : List V} (h : Reps K mu H ds vs) : ∀ k : Nat, Reps K mu H (List.replicate k ds).flatten (List.replicate k vs).flatten
  | 0 => by simp [Reps]
  | k + 1 => by
    simp only [List.replicate_succ, List.flatten_cons]
    exact h.append (h.flat k)

theorem RelH.there {h : Hh} (r : RelH K mu H h) {n : Nat} {o : O} (e : h[n]? = some o) : ∃ a, mu[n]? = some a := by
  obtain ⟨hn, _⟩ := List.getElem?_eq_some_iff.mp e
  have : n < mu.length := by
    rw [r.len]
    exact hn
  exact ⟨mu[n], List.getElem?_eq_getElem this⟩
theorem RelH.back {h : Hh} (r : RelH K mu H h) {n : Nat} {a : Addr} (e : mu[n]? = some a) : ∃ o, h[n]? = some o := by
  obtain ⟨hn, _⟩ := List.getElem?_eq_some_iff.mp e
  have : n < h.length := by
    rw [← r.len]
    exact hn
  exact ⟨h[n], List.getElem?_eq_getElem this⟩
/-- what lies in mu is tracked -/
theorem RelH.tracked {h : Hh} (r : RelH K mu H h) {a : Addr} (m : a ∈ mu) : (∃ ws, H a = some (.lst ws)) ∨ ∃ C dx fs, H a = some (.ins C dx fs) := by
  obtain ⟨n, e⟩ := List.mem_iff_getElem?.mp m
  obtain ⟨o, q⟩ := r.back e
  have := r.obj n o a q e
  cases o with
  | lst ds =>
    obtain ⟨ws, e1, _⟩ := this
    exact .inl ⟨ws, e1⟩
  | ins c fs =>
    obtain ⟨C, dx, vs, e1, _⟩ := this
    exact .inr ⟨C, dx, vs, e1⟩
theorem RelH.notin {h : Hh} (r : RelH K mu H h) {p : Addr} (e : H p = none) : p ∉ mu := fun m => by
  rcases r.tracked m with ⟨ws, q⟩ | ⟨C, dx, fs, q⟩
  · rw [e] at q
    cases q
  · rw [e] at q
    cases q

/-- a new thing that stands for good, or that the interpreter does not know -/
theorem Ext.new {p : Addr} {o : HO} (e : H p = none) : Ext mu H mu (upd H p o) :=
  ⟨List.prefix_refl _, fun _ h n => absurd h n, fun a u h _ => by
    have : a ≠ p := ne_of_none h e
    rw [upd_ne this]
    exact h, fun a ws h => ⟨ws, by
    have : a ≠ p := ne_of_none h e
    rw [upd_ne this]
    exact h⟩⟩
/-- what is tracked -/
def trk : HO → Bool
  | .lst _ => true
  | .ins _ _ _ => true
  | _ => false
theorem RelH.ext {h : Hh} (r : RelH K mu H h) (x : Ext mu H mu H') (hk : ∀ a o, a ∈ mu → H a = some o → trk o = true → H' a = some o) : RelH K mu H' h := by
  refine ⟨r.len, r.nd, fun n o a e m => ?_⟩
  have := r.obj n o a e m
  cases o with
  | lst ds =>
    obtain ⟨ws, e1, q⟩ := this
    exact ⟨ws, hk a _ (List.mem_of_getElem? m) e1 rfl, Reps.mono x _ _ q⟩
  | ins c fs =>
    obtain ⟨C, dx, vs, e1, k1, k2, q⟩ := this
    exact ⟨C, dx, vs, hk a _ (List.mem_of_getElem? m) e1 rfl, k1, k2, Reps.mono x _ _ q⟩
theorem RelH.new {h : Hh} {p : Addr} {o : HO} (r : RelH K mu H h) (e : H p = none) : RelH K mu (upd H p o) h :=
  r.ext (Ext.new e) fun a ws m h1 _ => by
    have : a ≠ p := ne_of_none h1 e
    rw [upd_ne this]
    exact h1
/-- a new list -/
theorem Ext.newL {p : Addr} {o : HO} (e : H p = none) : Ext mu H (mu ++ [p]) (upd H p o) :=
  ⟨⟨[p], rfl⟩, fun a h n => by
    rcases List.mem_append.mp h with h | h
    · exact absurd h n
    · rw [List.mem_singleton.mp h]
      exact e, (Ext.new (mu := mu) e).keep, (Ext.new (mu := mu) e).kind⟩
theorem RelH.newL {h : Hh} {p : Addr} {ds : List D} {ws : List V} (r : RelH K mu H h) (e : H p = none) (q : Reps K mu H ds ws) : RelH K (mu ++ [p]) (upd H p (.lst ws)) (h ++ [.lst ds]) := by
  have x : Ext mu H (mu ++ [p]) (upd H p (.lst ws)) := Ext.newL e
  refine ⟨by simp [r.len], ?_, fun n o a e1 m => ?_⟩
  · rw [List.nodup_append]
    refine ⟨r.nd, by simp, fun a ha b hb => ?_⟩
    rw [List.mem_singleton.mp hb]
    intro z
    subst z
    exact r.notin e ha
  · by_cases hn : n < h.length
    · rw [List.getElem?_append_left hn] at e1
      rw [List.getElem?_append_left (by rw [r.len]; exact hn)] at m
      have := r.obj n o a e1 m
      cases o with
      | lst ds' =>
        obtain ⟨ws', e2, q2⟩ := this
        have : a ≠ p := ne_of_none e2 e
        exact ⟨ws', by rw [upd_ne this]; exact e2, Reps.mono x _ _ q2⟩
      | ins c fs =>
        obtain ⟨C, dx, vs, e2, k1, k2, q2⟩ := this
        have : a ≠ p := ne_of_none e2 e
        exact ⟨C, dx, vs, by rw [upd_ne this]; exact e2, k1, k2, Reps.mono x _ _ q2⟩
    · have hl : n < (h ++ [O.lst ds]).length := (List.getElem?_eq_some_iff.mp e1).1
      have en : n = h.length := by
        simp at hl
        omega
      subst en
      rw [List.getElem?_append_right (Nat.le_refl _)] at e1
      rw [List.getElem?_append_right (by rw [r.len]; exact Nat.le_refl _), r.len] at m
      simp at e1 m
      subst e1 m
      exact ⟨ws, upd_same, Reps.mono x _ _ q⟩
/-- a tracked list is taken in -/
theorem RelH.adopt {h : Hh} {p : Addr} {ds : List D} {ws : List V} (r : RelH K mu H h) (e : H p = some (.lst ws)) (nm : p ∉ mu) (q : Reps K mu H ds ws) : RelH K (mu ++ [p]) H (h ++ [.lst ds]) := by
  have pp : mu <+: mu ++ [p] := ⟨[p], rfl⟩
  have im : Imm H H := fun _ _ h _ => h
  have kl : KL H H := fun _ ws h => ⟨ws, h⟩
  refine ⟨by simp [r.len], ?_, fun n o a e1 m => ?_⟩
  · rw [List.nodup_append]
    refine ⟨r.nd, by simp, fun a ha b hb => ?_⟩
    rw [List.mem_singleton.mp hb]
    intro z
    subst z
    exact nm ha
  · by_cases hn : n < h.length
    · rw [List.getElem?_append_left hn] at e1
      rw [List.getElem?_append_left (by rw [r.len]; exact hn)] at m
      have := r.obj n o a e1 m
      cases o with
      | lst ds' =>
        obtain ⟨ws', e2, q2⟩ := this
        exact ⟨ws', e2, Reps.mono0 pp im kl _ _ q2⟩
      | ins c fs =>
        obtain ⟨C, dx, vs, e2, k1, k2, q2⟩ := this
        exact ⟨C, dx, vs, e2, k1, k2, Reps.mono0 pp im kl _ _ q2⟩
    · have hl : n < (h ++ [O.lst ds]).length := (List.getElem?_eq_some_iff.mp e1).1
      have en : n = h.length := by
        simp at hl
        omega
      subst en
      rw [List.getElem?_append_right (Nat.le_refl _)] at e1
      rw [List.getElem?_append_right (by rw [r.len]; exact Nat.le_refl _), r.len] at m
      simp at e1 m
      subst e1 m
      exact ⟨ws, e, Reps.mono0 pp im kl _ _ q⟩
/-- a list written -/
theorem Ext.setL {p : Addr} {o u : HO} (m : p ∈ mu) (e : H p = some u) (hu : imm u = false) (hl : (∀ ws, u = .lst ws → ∃ ws', o = .lst ws') := by (intro _ _; exact ⟨_, rfl⟩)) : Ext mu H mu (upd H p o) :=
  ⟨List.prefix_refl _, fun _ h n => absurd h n, fun a w h c => by
    have : a ≠ p := fun z => by
      subst z
      rcases c with c | c
      · exact c m
      · rw [e] at h
        cases h
        rw [hu] at c
        cases c
    rw [upd_ne this]
    exact h, fun a ws h => by
    by_cases z : a = p
    · subst z
      rw [e] at h
      cases h
      obtain ⟨ws', rfl⟩ := hl _ rfl
      exact ⟨ws', upd_same⟩
    · exact ⟨ws, by rw [upd_ne z]; exact h⟩⟩
/-- an instance written -/
theorem Ext.setI {p C dx : Addr} {vs us : List (Str × V)} (m : p ∈ mu) (e : H p = some (.ins C dx vs)) : Ext mu H mu (upd H p (.ins C dx us)) :=
  ⟨List.prefix_refl _, fun _ h n => absurd h n, fun a w h c => by
    have : a ≠ p := fun z => by
      subst z
      rcases c with c | c
      · exact c m
      · rw [e] at h
        cases h
        cases c
    rw [upd_ne this]
    exact h, fun a ws h => ⟨ws, by
    have : a ≠ p := fun z => by
      subst z
      rw [e] at h
      cases h
    rw [upd_ne this]
    exact h⟩⟩
theorem RelH.setI {h : Hh} {n : Nat} {p C dx : Addr} {c : Str} {fs : List (Str × D)} {vs us : List (Str × V)} (r : RelH K mu H h) (m : mu[n]? = some p) (e : H p = some (.ins C dx us)) (kc : ClsK K c C) (ks : vs.map (·.1) = fs.map (·.1)) (q : Reps K mu H (fs.map (·.2)) (vs.map (·.2))) :
    RelH K mu (upd H p (.ins C dx vs)) (h.set n (.ins c fs)) := by
  have x : Ext mu H mu (upd H p (.ins C dx vs)) := Ext.setI (List.mem_of_getElem? m) e
  have hn : n < mu.length := (List.getElem?_eq_some_iff.mp m).1
  refine ⟨by simp [r.len], r.nd, fun i o a e1 m1 => ?_⟩
  by_cases hi : n = i
  · subst hi
    rw [List.getElem?_set_self (by rw [← r.len]; exact hn)] at e1
    rw [m] at m1
    cases e1
    cases m1
    exact ⟨C, dx, vs, upd_same, kc, ks, Reps.mono x _ _ q⟩
  · rw [List.getElem?_set_ne hi] at e1
    have := r.obj i o a e1 m1
    have hne : a ≠ p := fun z => by
      subst z
      obtain ⟨h1, g1⟩ := List.getElem?_eq_some_iff.mp m
      obtain ⟨h2, g2⟩ := List.getElem?_eq_some_iff.mp m1
      exact hi ((List.getElem_inj r.nd).mp (g1.trans g2.symm))
    cases o with
    | lst ds' =>
      obtain ⟨ws', e2, q2⟩ := this
      exact ⟨ws', by rw [upd_ne hne]; exact e2, Reps.mono x _ _ q2⟩
    | ins c' fs' =>
      obtain ⟨C', dx', vs', e2, k1, k2, q2⟩ := this
      exact ⟨C', dx', vs', by rw [upd_ne hne]; exact e2, k1, k2, Reps.mono x _ _ q2⟩
/-- a new instance: its dict at dx -/
theorem Ext.newI {p dx C : Addr} (e : H p = none) (ed : H dx = none) (hne : dx ≠ p) : Ext mu H (mu ++ [p]) (upd (upd H dx (.own p)) p (.ins C dx [])) := by
  have x1 : Ext mu H mu (upd H dx (.own p)) := Ext.new ed
  have e2 : (upd H dx (.own p)) p = none := by rw [upd_ne hne.symm]; exact e
  exact x1.trans (Ext.newL e2)
theorem RelH.newI {h : Hh} {p dx C : Addr} {c : Str} (r : RelH K mu H h) (e : H p = none) (ed : H dx = none) (hne : dx ≠ p) (kc : ClsK K c C) : RelH K (mu ++ [p]) (upd (upd H dx (.own p)) p (.ins C dx [])) (h ++ [.ins c []]) := by
  have r1 : RelH K mu (upd H dx (.own p)) h := r.new ed
  have e2 : (upd H dx (.own p)) p = none := by rw [upd_ne hne.symm]; exact e
  have x : Ext mu (upd H dx (.own p)) (mu ++ [p]) (upd (upd H dx (.own p)) p (.ins C dx [])) := Ext.newL e2
  refine ⟨by simp [r.len], ?_, fun n o a e1 m => ?_⟩
  · rw [List.nodup_append]
    refine ⟨r.nd, by simp, fun a ha b hb => ?_⟩
    rw [List.mem_singleton.mp hb]
    intro z
    subst z
    exact r.notin e ha
  · by_cases hn : n < h.length
    · rw [List.getElem?_append_left hn] at e1
      rw [List.getElem?_append_left (by rw [r.len]; exact hn)] at m
      have := r1.obj n o a e1 m
      cases o with
      | lst ds' =>
        obtain ⟨ws', e3, q2⟩ := this
        have : a ≠ p := ne_of_none e3 e2
        exact ⟨ws', by rw [upd_ne this]; exact e3, Reps.mono x _ _ q2⟩
      | ins c' fs' =>
        obtain ⟨C', dx', vs', e3, k1, k2, q2⟩ := this
        have : a ≠ p := ne_of_none e3 e2
        exact ⟨C', dx', vs', by rw [upd_ne this]; exact e3, k1, k2, Reps.mono x _ _ q2⟩
    · have hl : n < (h ++ [O.ins c []]).length := (List.getElem?_eq_some_iff.mp e1).1
      have en : n = h.length := by
        simp at hl
        omega
      subst en
      rw [List.getElem?_append_right (Nat.le_refl _)] at e1
      rw [List.getElem?_append_right (by rw [r.len]; exact Nat.le_refl _), r.len] at m
      simp at e1 m
      subst e1 m
      exact ⟨C, dx, [], upd_same, kc, rfl, by simp [Reps]⟩
theorem RelH.setL {h : Hh} {n : Nat} {p : Addr} {ds : List D} {ws us : List V} (r : RelH K mu H h) (m : mu[n]? = some p) (e : H p = some (.lst us)) (q : Reps K mu H ds ws) : RelH K mu (upd H p (.lst ws)) (h.set n (.lst ds)) := by
  have x : Ext mu H mu (upd H p (.lst ws)) := Ext.setL (List.mem_of_getElem? m) e rfl
  have hn : n < mu.length := (List.getElem?_eq_some_iff.mp m).1
  refine ⟨by simp [r.len], r.nd, fun i o a e1 m1 => ?_⟩
  by_cases hi : n = i
  · subst hi
    rw [List.getElem?_set_self (by rw [← r.len]; exact hn)] at e1
    rw [m] at m1
    cases e1
    cases m1
    exact ⟨ws, upd_same, Reps.mono x _ _ q⟩
  · rw [List.getElem?_set_ne hi] at e1
    have := r.obj i o a e1 m1
    have hne : a ≠ p := fun z => by
      subst z
      obtain ⟨h1, g1⟩ := List.getElem?_eq_some_iff.mp m
      obtain ⟨h2, g2⟩ := List.getElem?_eq_some_iff.mp m1
      exact hi ((List.getElem_inj r.nd).mp (g1.trans g2.symm))
    cases o with
    | lst ds' =>
      obtain ⟨ws', e2, q2⟩ := this
      exact ⟨ws', by rw [upd_ne hne]; exact e2, Reps.mono x _ _ q2⟩
    | ins c' fs' =>
      obtain ⟨C', dx', vs', e2, k1, k2, q2⟩ := this
      exact ⟨C', dx', vs', by rw [upd_ne hne]; exact e2, k1, k2, Reps.mono x _ _ q2⟩
end

/-! ### outcomes -/
/-- the wish about exceptions -/
abbrev EX := Str → Hp → Prop
def pO {α : Type} (K : Fr) (W : EX) (mu : List Addr) (H : Hp) (o : Out α) (R : α → List Addr → Hp → Hh → Prop) : Prop :=
  match o with
  | .ok a h' => ∀ mu' H', Ext mu H mu' H' → RelH K mu' H' h' → R a mu' H' h'
  | .exn c h' => ∀ mu' H', Ext mu H mu' H' → RelH K mu' H' h' → W c H'
  | .stuck => False
section
variable {K : Fr} {W : EX} {mu mu' : List Addr} {H H' : Hp} {α β : Type} {o : Out α}
theorem pO.ext {R : α → List Addr → Hp → Hh → Prop} (h : pO K W mu H o R) (x : Ext mu H mu' H') : pO K W mu' H' o R := by
  cases o with
  | ok a h' => exact fun m2 H2 y r => h m2 H2 (x.trans y) r
  | exn c h' => exact fun m2 H2 y r => h m2 H2 (x.trans y) r
  | stuck => exact h
theorem pO.mono {R R' : α → List Addr → Hp → Hh → Prop} (h : pO K W mu H o R) (f : ∀ a mu' H' h', Ext mu H mu' H' → RelH K mu' H' h' → R a mu' H' h' → R' a mu' H' h') : pO K W mu H o R' := by
  cases o with
  | ok a h' => exact fun m2 H2 y r => f _ _ _ _ y r (h m2 H2 y r)
  | exn c h' => exact h
  | stuck => exact h
theorem pO.bind {f : α → Hh → Out β} {R : β → List Addr → Hp → Hh → Prop} (h : pO K W mu H (o.bind f) R) : pO K W mu H o (fun a mu' H' h' => pO K W mu' H' (f a h') R) := by
  cases o with
  | ok a h' => exact fun m2 H2 y r => pO.ext (o := f a h') h y
  | exn c h' => exact h
  | stuck => exact h
theorem pO.bindB {f : α → Hh → Out β} {R : β → List Addr → Hp → Hh → Prop} (h : pO K W mu H (o.bind f) R) : pO K W mu H o (fun a _ _ h' => pO K W mu H (f a h') R) := by
  cases o with
  | ok a h' => exact fun _ _ _ _ => h
  | exn c h' => exact h
  | stuck => exact h
theorem pO.need {c : Prop} {R : α → List Addr → Hp → Hh → Prop} (h : pO K W mu H (need c o) R) : c ∧ pO K W mu H o R := by
  by_cases hc : c
  · rw [need_pos hc] at h
    exact ⟨hc, h⟩
  · rw [need_neg hc] at h
    exact h.elim
theorem pO.ok {a : α} {h' : Hh} {R : α → List Addr → Hp → Hh → Prop} (h : pO K W mu H (.ok a h') R) (r : RelH K mu H h') : R a mu H h' := h mu H Ext.refl r
end

theorem bind_assoc {α β γ : Type} (o : Out α) (f : α → Hh → Out β) (g : β → Hh → Out γ) : (o.bind f).bind g = o.bind fun a h => (f a h).bind g := by
  cases o <;> rfl
/-! ### readings -/
def tE (K : Fr) (W : EX) (m : Env → Hh → Out D) : TE := fun sg H Q => ∃ env h mu, RelEnv K mu H env sg ∧ RelH K mu H h ∧ pO K W mu H (m env h) fun d mu' H' _ => ∀ v, Rep K mu' H' d v → Q v H'
def tA (K : Fr) (W : EX) (m : Env → Hh → Out (List D)) : TA := fun sg H Q => ∃ env h mu, RelEnv K mu H env sg ∧ RelH K mu H h ∧ pO K W mu H (m env h) fun ds mu' H' _ => ∀ vs, Reps K mu' H' ds vs → Q vs H'
def tT (K : Fr) (W : EX) (m : Env → Hh → Out Bool) : TT := fun sg H Q => ∃ env h mu, RelEnv K mu H env sg ∧ RelH K mu H h ∧ pO K W mu H (m env h) fun b _ H' _ => Q b H'
section
variable {X : Cx} {W : EX}
theorem weakE {e : Expr} {t t' : TE} (h : PE X e t) (f : ∀ sg H Q, t' sg H Q → t sg H Q) : PE X e t' := ⟨fun pins s sg H Q I q => h.run pins s sg H Q I (f _ _ _ q)⟩
theorem weakT {e : Expr} {t t' : TT} (h : PT X e t) (f : ∀ sg H Q, t' sg H Q → t sg H Q) : PT X e t' := ⟨fun pins s sg H Q I q => h.run pins s sg H Q I (f _ _ _ q)⟩
theorem weakA {es : List Expr} {t t' : TA} (h : PA X es t) (f : ∀ sg H Q, t' sg H Q → t sg H Q) : PA X es t' := ⟨fun pos pins s sg H Q I q => h.run pos pins s sg H Q I (f _ _ _ q)⟩
theorem weakS {st : Stmt} {t t' : TS} (h : PS X st t) (f : ∀ D sg H, t' D sg H → t D sg H) : PS X st t' := ⟨fun pins s sg H D I q => h.run pins s sg H D I (f _ _ _ q)⟩
theorem weakSs {st : List Stmt} {t t' : TS} (h : PSs X st t) (f : ∀ D sg H, t' D sg H → t D sg H) : PSs X st t' := ⟨fun pins s sg H D I q => h.run pins s sg H D I (f _ _ _ q)⟩
/-- a reading that can't be asked -/
theorem neverE {e : Expr} {t : TE} (f : ∀ sg H Q, ¬ t sg H Q) : PE X e t := ⟨fun _ _ _ _ _ _ q => absurd q (f _ _ _)⟩
end
end Ip

/-! Ip, part S: sorted of ints and of pairs of ints. -/
namespace Ip
open PySem PySem.Spec PyProof.Rows L2
theorem leI_sort (ns ns' : List Int) (hp : ns'.Perm ns) (hs : ns'.Pairwise (· ≤ ·)) : ns' = ns.mergeSort leI := by
  have h2 : (ns.mergeSort leI).Pairwise (fun a b => a ≤ b) := by
    refine (List.pairwise_mergeSort (le := leI) ?_ ?_ ns).imp fun {a b} h => by simpa [leI] using h
    · intro a b c h1 h2; simp [leI] at *; omega
    · intro a b; simp [leI]; omega
  exact List.Perm.eq_of_pairwise (le := fun a b => a ≤ b) (fun a b _ _ h1 h2 => Int.le_antisymm h1 h2) hs h2 (hp.trans (List.mergeSort_perm ns leI).symm)
theorem leP_sort (ns ns' : List (Int × Int)) (hp : ns'.Perm ns) (hs : ns'.Pairwise fun p q => SrtO.lexB q p = false) : ns' = ns.mergeSort leP := by
  have conv : ∀ p q : Int × Int, leP p q = true ↔ SrtO.lexB q p = false := fun p q => by
    rw [SrtO.lexB_no]; simp [leP]; omega
  have h2 : (ns.mergeSort leP).Pairwise (fun p q => leP p q = true) := by
    refine List.pairwise_mergeSort (le := leP) ?_ ?_ ns
    · intro a b c h1 h2; simp [leP] at *; omega
    · intro a b; simp [leP]; omega
  have h1 : ns'.Pairwise (fun p q => leP p q = true) := hs.imp fun {p q} h => (conv p q).mpr h
  refine List.Perm.eq_of_pairwise (le := fun p q => leP p q = true) (fun a b _ _ h1 h2 => ?_) h1 h2 (hp.trans (List.mergeSort_perm ns leP).symm)
  simp [leP] at h1 h2
  exact Prod.ext (by omega) (by omega)
/-- sorted(xs), xs a list of tuples of two ints -/
def rSortedQ (K : Fr) : List V → Hp → VK → Prop := fun vs H Q => ∃ (a : Addr) (xs : List V) (k : V → Int × Int), vs = [V.ref a] ∧ SqL K H a xs ∧ (∀ x ∈ xs, ∃ t, x = V.ref t ∧ SqT K H t [.int (k x).1, .int (k x).2]) ∧
  ∀ ys p, SrtO.Srtd (ltP k) ys → SrtO.Stb (ltP k) ys xs → H p = none → Q (.ref p) (upd H p (.lst ys))
theorem cr_sortedQ {X : Cx} : CallR X (.builtin "sorted") (rSortedQ X.K) := by
  intro pins s σ H vs us Q I r h
  obtain ⟨a, xs, k, rfl, hs, hx, q⟩ := h
  obtain ⟨its, rv, hl, hz⟩ := I.list hs
  obtain ⟨u, rfl, ru⟩ := vals1 r
  obtain rfl : u = Value.ref a := ru
  obtain ⟨e1, e2⟩ := refs_back rv fun x m => by
    obtain ⟨t, e, _⟩ := hx x m
    exact ⟨t, e⟩
  refine SrtO.sorted_pairsO (k := fun u => k (backV u)) hl.isList (by rw [← rv.length]; exact hz) (fun v hv => ?_) fun h' d out h1 h2 kp hd hn => ?_
  · obtain ⟨t, rfl⟩ := e2 v hv
    have hm : V.ref t ∈ xs := by rw [e1]; exact List.mem_map.mpr ⟨_, hv, rfl⟩
    obtain ⟨t', e, ht⟩ := hx _ hm
    cases e
    obtain ⟨its2, r2, ⟨o, ho, hc, n, hd⟩, _⟩ := I.tuple ht
    obtain ⟨u1, u2, rfl, ri, rj⟩ := vals2 r2
    obtain ⟨t1, rfl⟩ := ri
    obtain ⟨t2, rfl⟩ := rj
    exact ⟨t, o, t1, t2, n, rfl, ho, hc, hd⟩
  · have h3 : ∀ u ∈ out, ∃ a, u = Value.ref a := fun u hu => e2 u (h2.perm.mem_iff.mp hu)
    obtain ⟨n, hn⟩ := hn
    have hb : SrtO.Stb (ltP k) (out.map backV) xs := by
      rw [e1]
      exact SrtO.Stb.map (ltP_swo k) backV h2
    refine ⟨.ref d, upd H d (.lst (out.map backV)), I.laid (t' := s.toks) kp hd ⟨?_, out, n, vals_back h3, hn⟩, rfl, q _ d (SrtO.srtd_map h1) hb (I.hok.fresh hd)⟩
    rw [hb.len]
    exact hz
theorem tuple_mul1 (l : Addr) (items : Array Value) (n : Nat) (sl : Array (Option Value)) (dd : Option Addr) (x : Int) (u : Tok) (c0 : (decide (x < -(2 ^ 63)) || decide (x ≥ 2 ^ 63)) = false) (c1 : (items.isEmpty || x == 1) = true) :
    Meets (Builtin.«tuple.__mul__» ⟨[.ref l, .int x u], []⟩) (fun _ R s => s.heap.get? l = some { cls := .type "tuple", dict := dd, data := .seq items n, slots := sl } ∧ R (.ok (.ret (Value.ref l))) s) :=
  .of_wp fun prog w A R s h => by
    obtain ⟨hp, g, d, tk, os⟩ := s
    obtain ⟨hl, h⟩ := h
    have f1 := AutoSeq1.idx_int
    wp_walk using AutoSeq1.wpAny_loadPart' hl
    repeat (first
      | (refine wpAny_ite_false (decide_eq_false (by rw [c0]; exact Bool.false_ne_true)) ?_; wp_walk using AutoSeq1.wpAny_loadPart' hl)
      | (refine wpAny_ite_true (decide_eq_true (by rw [c1])) ?_; wp_walk using AutoSeq1.wpAny_loadPart' hl))
    exact ⟨_, rfl, h⟩
/-- t * 1, () * k: the tuple itself -/
theorem op_repT1 {X : Cx} : OpR X (binaryOp .Mult) (fun x y H Q => ∃ l k xs, x = .ref l ∧ y = .int k ∧ SqT X.K H l xs ∧ (xs = [] ∨ k = 1) ∧ 1 ≤ k ∧ k ≤ 1000 ∧ Q (.ref l) H) := by
  intro pins s σ H x y v u Q I rx ry h
  obtain ⟨l, k, xs, rfl, rfl, hT, he, k0, k1, q⟩ := h
  cases rx
  obtain ⟨t, rfl⟩ := ry
  obtain ⟨its, r, ⟨⟨cls, dd, data, sl⟩, ho, hc, n, hd⟩, hs⟩ := I.tuple hT
  simp only at hc hd
  subst hc hd
  have e0 : (decide (k < -(2 ^ 63)) || decide (k ≥ 2 ^ 63)) = false := by rw [decide_eq_false (by omega), decide_eq_false (by omega)]; rfl
  have e1 : (its.toArray.isEmpty || k == 1) = true := by
    rcases he with he | he
    · have hle : its.length = xs.length := r.length.symm
      have hz : its = [] := List.eq_nil_of_length_eq_zero (by rw [hle, he]; rfl)
      rw [hz]; rfl
    · rw [he]; simp
  exact wpAny_binaryOp_repeat_ref (T := "tuple") (U := "int") (by decide) ⟨_, ho, rfl⟩ (fun s' => typeIs_int s' k t) noFill_tuple_mul F.fills_int_mul F.slot_int_rmul repeat_tuple F.slot_int_index.lookup
    (call_meets F.slot_int_rmul (typeIs_int s k t) F.entry_int_rmul (F.args_int_rmul_2 _ _) (int_rmul_tuple k t l its.toArray n dd sl)
      ⟨ho, rfl, ⟨_, ho, rfl⟩, call_meets F.slot_tuple_mul ⟨_, ho, rfl⟩ F.entry_tuple_mul (F.args_tuple_mul_2 _ _) (tuple_mul1 l its.toArray n sl dd k t e0 e1) ⟨ho, ⟨.ref l, H, I, rfl, q⟩⟩⟩)

/-! sorted of a tuple: what is collected is its items -/
section
variable {prog : Program} {w : World} {A : Around} {E : Value → Shared → Prop} {s : Shared}
theorem collect_tup {l : Addr} {o : Obj} {vs : List Value} {n : Nat} {Q : List Value → Shared → Prop} (ho : s.heap.get? l = some o) (hc : o.cls = .type "tuple") (hd : o.data = .seq vs.toArray n)
    (hsz : vs.length ≤ sizeLine) (h : Q vs { s with heap := (s.heap.push (seqObj "list" #[] 0)).update s.heap.objs.size (Obj.mapSeq (· ++ vs.toArray)) }) : wpAny (model prog w) A (collect (.ref l)) Q E s := by
  unfold collect
  refine wpAny_bind (wpAny_runValue (codeAny_builtin entry_proto_collect' ?_)); show wpAny _ _ (do again (.builtin "list.__iadd__" ⟨[← newList [], .ref l], []⟩)) _ _ s
  refine wpAny_bind (wpAny_newList (wpAny_pure ⟨Code.quiet_builtin _ (by decide +kernel), codeAny_builtin entry_list_iadd' ?_⟩)); show wpAny _ _ (Builtin.List.listExtendWith (.ref s.heap.objs.size) (.ref l) (.ref s.heap.objs.size)) _ _ { s with heap := s.heap.push (seqObj "list" #[] 0) }
  unfold Builtin.List.listExtendWith
  have hp : (s.heap.push (seqObj "list" #[] 0)).get? l = some o := Heap.get?_push_of_some _ ho
  refine wpAny_bind (wpAny_typeOf (T := "tuple") ⟨o, hp, hc⟩ ?_)
  have ht : (Value.type "tuple" == Value.type "tuple") = true := by rfl
  rw [if_pos (by rw [ht]; simp)]
  refine wpAny_bind (listItems_at hp hd ?_)
  refine wpAny_bind (listItems_at (xs := #[]) (n := 0) (Heap.get?_push_size _ rfl) rfl ?_); rw [if_neg (by simp)]
  refine wpAny_bind (listUpdate_at (xs := #[]) (n := 0) (Heap.get?_push_size _ rfl) rfl ?_ (Nat.zero_le _) (by show (#[] ++ vs.toArray).size ≤ sizeLine + 1; rw [Array.size_append, List.size_toArray]; simp; omega)); refine wpAny_pure ?_
  show wpAny (model prog w) A (do
      let ob ← load s.heap.objs.size
      match ob.data with
      | .seq zs _ => pure zs.toList
      | _ => unsupported "internal:collect") Q E { s with heap := (s.heap.push (seqObj "list" #[] 0)).update s.heap.objs.size (Obj.mapSeq (· ++ vs.toArray)) }
  refine wpAny_bind (wpAny_load (get?_update_seq (Heap.get?_push_size _ rfl) _) ?_); show wpAny _ _ (pure ((#[] : Array Value) ++ vs.toArray).toList) Q E _
  have e : ((#[] : Array Value) ++ vs.toArray).toList = vs := by simp
  rw [e]; exact wpAny_pure h
/-- sorted(t) of a tuple of pairs of ints -/
theorem sorted_pairsT {l : Addr} {o : Obj} {vs : List Value} {n : Nat} {k : Value → Int × Int} {Q : Value → Shared → Prop} (ho : s.heap.get? l = some o) (hc : o.cls = .type "tuple") (hd : o.data = .seq vs.toArray n) (hz : vs.length ≤ sizeLine) (hp : ∀ v ∈ vs, Srt.IsPair s.heap v (k v).1 (k v).2)
    (h : ∀ (h' : Heap) (d : Addr) (out : List Value), SrtO.Srtd (fun v u => SrtO.lexB (k v) (k u)) out → SrtO.Stb (fun v u => SrtO.lexB (k v) (k u)) out vs → (∀ b o, s.heap.get? b = some o → h'.get? b = some o) → s.heap.objs.size ≤ d → (∃ n, h'.get? d = some (seqObj "list" out.toArray n)) → Q (.ref d) { s with heap := h' }) :
    wpAny (model prog w) A (call (.builtin "sorted") [.ref l]) Q E s := by
  refine Calls.call_function_entry kind_sorted plain_sorted entry_sorted (args_sorted1 _) ?_
  unfold Builtin.«sorted»
  refine wpAny_bind (m := checkCount "sorted" 1 1 _) (wpAny_pure ?_); refine wpAny_bind (collect_tup ho hc hd hz ?_); refine wpAny_bind (wpAny_newList ?_ hz)
  have hsz : ((s.heap.push (seqObj "list" #[] 0)).update s.heap.objs.size (Obj.mapSeq (· ++ vs.toArray))).objs.size = s.heap.objs.size + 1 := by rw [Heap.size_update, size_push']
  have hoL : (((s.heap.push (seqObj "list" #[] 0)).update s.heap.objs.size (Obj.mapSeq (· ++ vs.toArray))).push (seqObj "list" vs.toArray 0)).get? (s.heap.objs.size + 1) = some (seqObj "list" vs.toArray 0) := by rw [← hsz]; exact Heap.get?_push_size _ rfl
  have keep : ∀ b o, s.heap.get? b = some o → b ≠ s.heap.objs.size + 1 ∧ (((s.heap.push (seqObj "list" #[] 0)).update s.heap.objs.size (Obj.mapSeq (· ++ vs.toArray))).push (seqObj "list" vs.toArray 0)).get? b = some o := fun b o q => by
    have hl : b < s.heap.objs.size := Heap.lt_size q
    refine ⟨Nat.ne_of_lt (Nat.lt_succ_of_lt hl), Heap.get?_push_of_some _ ?_⟩; rw [Heap.get?_update_ne _ _ _ _ (Nat.ne_of_lt hl)]; exact Heap.get?_push_of_some _ q
  show wpAny _ _ _ _ _ { s with heap := ((s.heap.push (seqObj "list" #[] 0)).update s.heap.objs.size (Obj.mapSeq (· ++ vs.toArray))).push (seqObj "list" vs.toArray 0) }; rw [hsz]
  refine wpAny_bind (wpAny_holding (wpAny_call_entry slot_list_sort ⟨_, hoL, rfl⟩ entry_list_sort (SrtO.list_sort_ord (SrtO.swo_lex k) hoL hz (fun h2 => ?_) fun out hs hb => ⟨_, rfl, ?_⟩) (args_list_sort _)))
  · refine SrtO.pairs_sortableO (s := { s with heap := ((s.heap.push (seqObj "list" #[] 0)).update s.heap.objs.size (Obj.mapSeq (· ++ vs.toArray))).push (seqObj "list" vs.toArray 0) }) (by omega) (fun v hm => (hp v hm).keeps fun b o e _ => (keep b o e).2) fun o e => ?_
    cases (e.symm.trans hoL : some o = some (seqObj "list" vs.toArray 0)); intro c; exact absurd (Value.type.inj c) (by decide)
  · exact wpAny_pure ⟨_, rfl, h _ _ out hs hb (fun b o e => sortedAll_old e) (Nat.le_succ _) (sortedAll_at s.heap vs out.toArray)⟩
end
/-- sorted(t), t a tuple of tuples of two ints -/
def rSortedR (K : Fr) : List V → Hp → VK → Prop := fun vs H Q => ∃ (a : Addr) (xs : List V) (k : V → Int × Int), vs = [V.ref a] ∧ SqT K H a xs ∧ (∀ x ∈ xs, ∃ t, x = V.ref t ∧ SqT K H t [.int (k x).1, .int (k x).2]) ∧
  ∀ ys p, SrtO.Srtd (ltP k) ys → SrtO.Stb (ltP k) ys xs → H p = none → Q (.ref p) (upd H p (.lst ys))
theorem cr_sortedR {X : Cx} : CallR X (.builtin "sorted") (rSortedR X.K) := by
  intro pins s σ H vs us Q I r h
  obtain ⟨a, xs, k, rfl, hs, hx, q⟩ := h
  obtain ⟨its, rv, ⟨o, ho, hc, n, hd⟩, hz⟩ := I.tuple hs
  obtain ⟨u, rfl, ru⟩ := vals1 r
  obtain rfl : u = Value.ref a := ru
  obtain ⟨e1, e2⟩ := refs_back rv fun x m => by
    obtain ⟨t, e, _⟩ := hx x m
    exact ⟨t, e⟩
  refine sorted_pairsT (k := fun u => k (backV u)) ho hc hd (by rw [← rv.length]; exact hz) (fun v hv => ?_) fun h' d out h1 h2 kp hd hn => ?_
  · obtain ⟨t, rfl⟩ := e2 v hv
    have hm : V.ref t ∈ xs := by rw [e1]; exact List.mem_map.mpr ⟨_, hv, rfl⟩
    obtain ⟨t', e, ht⟩ := hx _ hm
    cases e
    obtain ⟨its2, r2, ⟨o, ho, hc, n, hd⟩, _⟩ := I.tuple ht
    obtain ⟨u1, u2, rfl, ri, rj⟩ := vals2 r2
    obtain ⟨t1, rfl⟩ := ri
    obtain ⟨t2, rfl⟩ := rj
    exact ⟨t, o, t1, t2, n, rfl, ho, hc, hd⟩
  · have h3 : ∀ u ∈ out, ∃ a, u = Value.ref a := fun u hu => e2 u (h2.perm.mem_iff.mp hu)
    obtain ⟨n, hn⟩ := hn
    have hb : SrtO.Stb (ltP k) (out.map backV) xs := by
      rw [e1]
      exact SrtO.Stb.map (ltP_swo k) backV h2
    refine ⟨.ref d, upd H d (.lst (out.map backV)), I.laid (t' := s.toks) kp hd ⟨?_, out, n, vals_back h3, hn⟩, rfl, q _ d (SrtO.srtd_map h1) hb (I.hok.fresh hd)⟩
    rw [hb.len]
    exact hz
end Ip

/-! Jp, part A: sorted(set(a text)): the set by its texts, the walk over it, the sort. -/
namespace Ip
open PySem PySem.Spec PyProof.Rows L2

def keyS (e : Int × Value) : Str := match e.2 with
  | .str k _ => k
  | _ => Str.empty
/-- an entry of a set of texts -/
def EntS (w : World) (e : Int × Value) : Prop := ∃ k tk, e.2 = Value.str k tk ∧ e.1 = hashStr w k
/-- the set of the texts l at a, n of them -/
def SetS (w : World) (h : Heap) (a : Addr) (l : List Str) (n : Nat) : Prop :=
  ∃ o es ep t, h.get? a = some o ∧ o.ExactSet ∧ o.data = .set es ep t ∧ (∀ e ∈ es.toList, EntS w e) ∧ (es.toList.map keyS).Nodup ∧ (∀ k, k ∈ l ↔ k ∈ es.toList.map keyS) ∧
    es.size < scanBound ∧ t.fits es.size = true ∧ es.size = n ∧ Ris t.place.toList ∧ (w.params.followText "set-order" = true ∨ t.led = true)
section
variable {P : Program} {w : World} {h h' : Heap} {a : Addr} {l l' : List Str} {n : Nat}
theorem SetS.keep (R : SetS w h a l n) (k : ∀ o, h.get? a = some o → h'.get? a = some o) : SetS w h' a l n :=
  let ⟨o, es, ep, t, ho, r⟩ := R
  ⟨o, es, ep, t, k o ho, r⟩
theorem SetS.alike (R : SetS w h a l n) (e : ∀ k, k ∈ l' ↔ k ∈ l) : SetS w h a l' n := by
  obtain ⟨o, es, ep, t, ho, hx, hd, g, nd, hm, r⟩ := R
  exact ⟨o, es, ep, t, ho, hx, hd, g, nd, fun k => (e k).trans (hm k), r⟩
theorem entS_is {e : Int × Value} (g : EntS w e) (k : Str) : (strKind P w).is k e.2 = true ↔ keyS e = k := by
  obtain ⟨j, tk, h1, _⟩ := g
  unfold keyS
  rw [h1]
  show Value.isStrOf k (.str j tk) = true ↔ j = k
  simp [Value.isStrOf]
theorem entS_elems {es : List (Int × Value)} (g : ∀ e ∈ es, EntS w e) : ElemsOf (strKind P w) es := fun e he => by
  obtain ⟨k, tk, h1, h2⟩ := g e he
  exact ⟨⟨k, by rw [h1]; exact PySem.Froz.is_str k tk, h2⟩, by rw [h1] <;> rfl⟩
theorem entS_mem {es : List (Int × Value)} (g : ∀ e ∈ es, EntS w e) (k : Str) : k ∈ es.map keyS ↔ ∃ e ∈ es, (strKind P w).is k e.2 = true := by
  simp only [List.mem_map]
  exact ⟨fun ⟨e, he, q⟩ => ⟨e, he, (entS_is (g e he) k).2 q⟩, fun ⟨e, he, q⟩ => ⟨e, he, (entS_is (g e he) k).1 q⟩⟩
end
section
variable {P : Program} {w : World} {A : Around} {E : Value → Shared → Prop} {s : Shared} {a : Addr} {l : List Str} {n : Nat}
/-- behind the laying of a new text: the store, and perhaps all laid anew -/
theorem setS_tail {g : Bool → Sem Unit} (hg : ∀ (b : Bool) (u : Shared) (R' : Unit → Shared → Prop), R' () u → wpAny (model P w) A (g b) R' E u)
    {o : Obj} {es : Array (Int × Value)} {ep : Nat} {t : SetTable} (ho : s.heap.get? a = some o) (hex : o.ExactSet) (hd : o.data = .set es ep t)
    {fs : Array (Int × Value)} {t2 : SetTable} {m : List Str} (g1 : ∀ e ∈ fs.toList, EntS w e) (nd1 : (fs.toList.map keyS).Nodup) (m1 : ∀ k, k ∈ m ↔ k ∈ fs.toList.map keyS)
    (hb1 : fs.size < scanBound) (hf2 : t2.fits fs.size = true) (hr : Ris t2.place.toList) (hl : w.params.followText "set-order" = true ∨ t2.led = true) {wasDummy : Bool} {R : Option Bool → Shared → Prop}
    (hR : ∀ g', Heap.SameBut a s.heap g' → SetS w g' a m fs.size → R (some true) { s with heap := g' }) :
    wpAny (model P w) A (do
        storeSet a fs t2
        if (!wasDummy && t2.tooFull) = true then do
            g (relayAll t2 fs (SetTable.grown fs.size)).2.2
            storeSet a (relayAll t2 fs (SetTable.grown fs.size)).1 (relayAll t2 fs (SetTable.grown fs.size)).2.1
            pure (some true)
          else pure (some true)) R E s := by
  have st1 := store_at (es' := fs) (t' := t2) ho hd
  have sb := Heap.SameBut.update s.heap a (Obj.putSet fs t2)
  refine wpAny_bind (wpAny_storeSet_of ho hd ?_ (fits_of_scanBound hb1))
  split
  · have pm := relayAll_perm t2 fs (SetTable.grown fs.size)
    have hf3 := relayAll_fits t2 fs (SetTable.grown fs.size)
    have hr3 := relayAll_ris t2 fs (SetTable.grown fs.size)
    have hl3 := relayAll_led t2 fs (SetTable.grown fs.size)
    generalize relayAll t2 fs (SetTable.grown fs.size) = Y at pm hf3 hr3 hl3 ⊢
    obtain ⟨gs, t3, gv⟩ := Y
    dsimp only at pm hf3 hr3 hl3 ⊢
    have ez : gs.size = fs.size := by rw [← Array.length_toList, pm.length_eq, Array.length_toList]
    refine wpAny_bind (hg _ _ _ ?_)
    refine wpAny_bind (wpAny_storeSet_of st1 rfl ?_ (fits_of_scanBound (by omega)))
    have st2 := store_at (es' := gs) (t' := t3) st1 rfl
    refine wpAny_pure (hR _ (sb.trans (Heap.SameBut.update _ a _)) ⟨_, gs, _, t3, st2, hex, rfl, fun e he => g1 e (pm.mem_iff.mp he), (pm.map keyS).nodup_iff.mpr nd1, fun k => (m1 k).trans (pm.map keyS).mem_iff.symm, by omega, hf3, ez, hr3, ?_⟩)
    rcases hl with z | z
    · exact .inl z
    · exact .inr (by rw [hl3]; exact z)
  · exact wpAny_pure (hR _ sb ⟨_, fs, _, t2, st1, hex, rfl, g1, nd1, m1, hb1, hf2, rfl, hr, hl⟩)
/-- a text comes to the set -/
theorem setS_add {k : Str} {tk : Tok} {R : Bool → Shared → Prop} (S : SetS w s.heap a l n) (room : n + 1 < scanBound)
    (hR : ∀ g' b n', Heap.SameBut a s.heap g' → n' ≤ n + 1 → SetS w g' a (k :: l) n' → R b { s with heap := g' }) :
    wpAny (model P w) A (setAddHashed a (.str k tk) (hashStr w k)) R E s := by
  obtain ⟨o, es, ep, t, ho, hex, hd, g, nd, hm, hb, hf, hn, hr, hl⟩ := S
  have hkey : (strKind P w).is k (.str k tk) = true := PySem.Froz.is_str k tk
  have hsc : (Value.str k tk).scannable = true := rfl
  have hel : ElemsOf (strKind P w) es.toList := entS_elems g
  unfold setAddHashed setAddHashedIn
  refine wpAny_holding (wpAny_bind (wpAny_setState_of ho hd hf ?_))
  dsimp only
  rw [byScan_of hsc hb hel, if_pos rfl]
  unfold setAddByScan
  refine wpAny_bind (wpAny_bind (wpAny_rule (wpAny_bind (wpAny_setScan_of hkey ho hd hf hel ?_))))
  cases hfi : List.findIdx? (fun e => (strKind P w).is k e.2) es.toList with
  | some j =>
    dsimp only
    obtain ⟨hj, pj, _⟩ := List.findIdx?_eq_some_iff_getElem.mp hfi
    have hk : k ∈ l := (hm k).2 ((entS_mem (P := P) (w := w) g k).2 ⟨es.toList[j], List.getElem_mem hj, pj⟩)
    refine wpAny_pure (wpAny_pure ?_)
    exact hR s.heap _ n (Heap.SameBut.refl a s.heap) (Nat.le_succ n) ⟨o, es, ep, t, ho, hex, hd, g, nd, fun i => by
      rw [List.mem_cons, ← hm i]
      exact ⟨fun z => z.elim (fun e => e ▸ hk) id, .inr⟩, hb, hf, hn, hr, hl⟩
  | none =>
    dsimp only
    have hnk : k ∉ es.toList.map keyS := fun z => by
      obtain ⟨e, he, q⟩ := (entS_mem (P := P) (w := w) g k).1 z
      have c := List.findIdx?_eq_none_iff.mp hfi e he
      rw [q] at c
      cases c
    have pm := layNew_perm t es (hashStr w k) (.str k tk)
    have hf1 := layNew_fits t es (hashStr w k) (.str k tk)
    have hr1 := layNew_ris t es (hashStr w k) (.str k tk) hr
    have hl1 := layNew_led t es (hashStr w k) (.str k tk)
    generalize layNew t es (hashStr w k) (.str k tk) = Y at pm hf1 hr1 hl1 ⊢
    obtain ⟨fs, t1, wasDummy, gave⟩ := Y
    dsimp only at pm hf1 hr1 hl1 ⊢
    rw [Array.toList_push] at pm
    have pc : fs.toList.Perm ((hashStr w k, Value.str k tk) :: es.toList) := pm.trans (List.perm_append_singleton _ _)
    have pk : (fs.toList.map keyS).Perm (k :: es.toList.map keyS) := pc.map keyS
    have g1 : ∀ e ∈ fs.toList, EntS w e := fun e he => by
      rcases List.mem_cons.mp (pc.mem_iff.mp he) with z | z
      · exact z ▸ ⟨k, tk, rfl, rfl⟩
      · exact g e z
    have nd1 : (fs.toList.map keyS).Nodup := pk.nodup_iff.mpr (List.nodup_cons.mpr ⟨hnk, nd⟩)
    have m1 : ∀ i, i ∈ k :: l ↔ i ∈ fs.toList.map keyS := fun i => by
      rw [pk.mem_iff, List.mem_cons, List.mem_cons, hm i]
    have hsz : fs.size = n + 1 := by rw [← Array.length_toList, pc.length_eq, List.length_cons, Array.length_toList, hn]
    have hb1 : fs.size < scanBound := by omega
    have hled : w.params.followText "set-order" = true ∨ t1.led = true := hl.imp id fun z => by rw [hl1]; exact z
    have fin : ∀ g', Heap.SameBut a s.heap g' → SetS w g' a (k :: l) fs.size → R true { s with heap := g' } := fun g' sb r => hR g' true _ sb (by omega) r
    have two : ∀ (b : Bool) {u : Shared} {R' : Unit → Shared → Prop}, R' () u → wpAny (model P w) A (match b with | true => rule "set.scan.the-table-gave-way" | false => pure ()) R' E u :=
      fun b u R' q => by
        cases b
        · exact wpAny_pure q
        · exact wpAny_rule q
    refine wpAny_bind (two _ ?_)
    split
    · refine wpAny_bind ?_
      rw [hashByValue_scannable 8 hsc]
      refine wpAny_pure (setS_tail ?_ ho hex hd g1 nd1 m1 hb1 ?_ ?_ ?_ ?_)
      · intro b u R' q
        cases b
        · exact wpAny_pure q
        · exact wpAny_rule q
      · first | (split <;> first | exact hf1 | exact SetTable.fits_plain_off hf1) | exact hf1
      · first | (split <;> exact hr1) | exact hr1
      · first | (split <;> exact hled) | exact hled
      · exact fun g' sb r => wpAny_pure (fin g' sb r)
    · refine wpAny_bind (wpAny_pure ?_)
      rw [if_pos rfl]
      refine setS_tail ?_ ho hex hd g1 nd1 m1 hb1 hf1 hr1 hled ?_
      · intro b u R' q
        cases b
        · exact wpAny_pure q
        · exact wpAny_rule q
      · exact fun g' sb r => wpAny_pure (fin g' sb r)
/-- a set without anything -/
theorem setS_new {h : Heap} (ho : h.get? a = some { cls := .type "set", dict := none, data := .set #[] 0 (.fresh 0 0 (!w.params.followText "set-order")) }) : SetS w h a [] 0 := by
  refine ⟨_, #[], 0, _, ho, ⟨rfl, rfl, rfl⟩, rfl, (fun e he => by simp at he), (by simp), (fun k => by simp), (by decide), (by rfl), rfl, List.Pairwise.nil, ?_⟩
  show _ ∨ (!w.params.followText "set-order") = true
  cases w.params.followText "set-order" <;> simp
/-- the walk over a text's signs -/
theorem setS_loop {x : Str} {I : Addr} {fp wr : List Addr} {G : Array GenState → Array GenState → Prop} {N : Nat} {St : Nat → Shared → Prop} {R : Result → Shared → Prop}
    (W : WalksS P w A.in1 I fp wr G N (SignAt x) St) (D : Addr) (hD : D ∉ fp) (hN : N = x.cps.size) (hb : N + 1 < scanBound) :
    ∀ (k i : Nat) (s : Shared), N - i = k → i ≤ N → St i s → (∃ c, c ≤ i ∧ SetS w s.heap D ((x.cps.toList.take i).map fun c => (⟨#[c]⟩ : Str)) c) →
      (∀ u c, Moved (D :: wr) G s u → c ≤ N → SetS w u.heap D (x.cps.toList.map fun c => (⟨#[c]⟩ : Str)) c → R (.ok (.ret .none)) u) →
      codeAny (model P w) A (.builtin "set.update.loop" ⟨[.ref D, .ref I], []⟩) R s := by
  have dw : D ∉ wr := fun z => hD (W.sub _ z)
  have sub : ∀ b ∈ wr, b ∈ D :: wr := fun b z => List.mem_cons_of_mem _ z
  intro k
  induction k with
  | zero =>
    intro i s e1 hi hst ⟨c, hc, S⟩ hR
    obtain rfl : i = N := by omega
    refine codeAny_builtin PyProof.Rows.F.entry_set_update_loop ?_
    rw [Around.under_plainId (PyProof.Rows.F.plain_set_update_loop) _]
    show wpAny (model P w) A.in1 (pyNext (.ref I) >>= _) _ _ s
    refine wpAny_bind (W.done s _ _ hst fun u m => ?_)
    show wpAny _ A.in1 (ret Value.none) _ _ u
    rw [List.take_of_length_le (by rw [hN, Array.length_toList]; exact Nat.le_refl _)] at S
    exact wpAny_pure (hR u c (m.mono sub) hc (S.keep fun o e => m.heap D o dw e))
  | succ k ih =>
    intro i s e1 hi hst ⟨c, hc, S⟩ hR
    have lt : i < N := by omega
    refine codeAny_builtin PyProof.Rows.F.entry_set_update_loop ?_
    rw [Around.under_plainId (PyProof.Rows.F.plain_set_update_loop) _]
    show wpAny (model P w) A.in1 (pyNext (.ref I) >>= _) _ _ s
    refine wpAny_bind (W.item i s _ _ lt hst fun v u hP hst' m => ?_)
    obtain ⟨d, t, hd, rfl⟩ := hP
    have S1 := S.keep (h' := u.heap) fun o e => m.heap D o dw e
    show wpAny _ A.in1 (holding [Value.str ⟨#[d]⟩ t] (setAdd D (.str ⟨#[d]⟩ t)) >>= _) _ _ u
    refine wpAny_bind (wpAny_holding ?_)
    unfold setAdd
    refine wpAny_holding (wpAny_bind ((strKind P w).pyHash (k := ⟨#[d]⟩) (PySem.Froz.is_str _ _) ?_))
    refine setS_add (s := { u with toks := u.toks + 1 }) S1 (by omega) fun g' b n' sb hn' S2 => ?_
    have S3 := S2.alike (l' := ((x.cps.toList.take (i + 1)).map fun c => (⟨#[c]⟩ : Str))) fun j => by
      have : x.cps.toList[i]? = some d := by rw [Array.getElem?_toList]; exact hd
      rw [List.take_add_one, this]
      simp [List.mem_append, or_comm]
    refine wpAny_pure ⟨plainId_quiet (PyProof.Rows.F.plain_set_update_loop) _, ih (i + 1) _ (by omega) lt (W.frame _ u _ _ hst' (Nat.le_succ _) fun b hb o e => ?_) ⟨n', by omega, S3⟩ fun u2 c2 m2 hc2 S4 => ?_⟩
    · rw [sb.2 b (fun z : b = D => hD (z ▸ hb))]
      exact e
    · refine hR u2 c2 (Moved.trans W.gtrans ((m.mono sub).then_heap (Nat.le_succ _) fun b o hb e => ?_) m2) hc2 S4
      rw [sb.2 b (fun z : b = D => hb (z ▸ List.mem_cons_self))]
      exact e

theorem initS {M : Model} {self : Value} {x : Str} {t : Tok} {R : Unit → Shared → Prop} (hT : s.TypeIs self "set") (hR : R () s) : wpAny M A (checkBuiltinCall "set.__init__" ⟨[self, .str x t], []⟩) R E s := by
  exact check_set_init_1 hT hR
/-- set(x), x a text -/
theorem call_setS {x : Str} {tk0 : Tok} {R : Value → Shared → Prop} (hh : A.handled = none) (hb : x.cps.size + 1 < scanBound)
    (h : ∀ (h' : Heap) (tk c : Nat), SetS w h' s.heap.objs.size (x.cps.toList.map fun c => (⟨#[c]⟩ : Str)) c → c ≤ x.cps.size → (∀ b o, s.heap.get? b = some o → h'.get? b = some o) → R (.ref s.heap.objs.size) { s with heap := h', toks := tk }) :
    wpAny (model P w) A (call (.type "set") [.str x tk0]) R E s := by
  obtain ⟨c, tl, hmro⟩ := PySem.F.called_set.mro
  have hmade := PySem.F.called_set.made
  have hsub := PySem.F.called_set.sub
  refine wpAny_call (codeAny_of_tree ?_)
  show wpAny _ _ (callAny (.type "set") _) _ _ _
  refine wpAny_pure ⟨Code.quiet_builtin _ (by decide +kernel), codeAny_builtin PySem.F.entry_type_call ?_⟩
  rw [Around.under_plain (weight_type_call_type "set" [.str x tk0] []) rfl]
  have h1 := PySem.F.called_set.notType
  have h2 := PySem.F.called_set.canCreate
  have hct := PySem.F.typeCall_set_1 (.str x tk0)
  repeat (any_goals (first | assumption | wp_step))
  refine codeAny_mono (code_set_led1 (.str x tk0) (E := E) (Q₁ := fun obj u => obj = .ref s.heap.objs.size ∧ u = { s with heap := s.heap.push { cls := .type "set", dict := none, data := .set #[] 0 (.fresh 0 0 (!w.params.followText "set-order")) } }) ⟨rfl, rfl⟩) fun r u hr => ?_
  cases r with
  | error e => exact hr
  | ok fl =>
    cases fl with
    | ret obj =>
      obtain ⟨rfl, rfl⟩ := hr
      generalize hO : ({ cls := .type "set", dict := none, data := .set #[] 0 (.fresh 0 0 (!w.params.followText "set-order")) } : Obj) = O
      have hS : (s.heap.push O).get? s.heap.objs.size = some O := Heap.get?_push_size _ (by rw [← hO]; rfl)
      have hT : Shared.TypeIs { s with heap := s.heap.push O } (.ref s.heap.objs.size) "set" := ⟨_, hS, by rw [← hO]⟩
      have hli := PySem.F.called_set.init.lookup
      have hbi := PySem.F.called_set.init.bind (.ref s.heap.objs.size)
      repeat (any_goals (first | assumption | wp_step))
      refine codeAny_mono (codeAny_call_builtin (R := wants (fun r u => r = .none ∧ ∃ h' tk c, u = { s with heap := h', toks := tk } ∧ SetS w h' s.heap.objs.size (x.cps.toList.map fun c => (⟨#[c]⟩ : Str)) c ∧ c ≤ x.cps.size ∧
          (∀ b o, s.heap.get? b = some o → h'.get? b = some o)) E) PySem.F.called_set.init.plain PySem.F.entry_set_init (initS hT ?_)) fun r₂ u₂ hr₂ => ?_
      · have hss : isSubtype (.type "str") (.type "set") = pure false := by rw [isSubtype_type]; kernel_rfl
        have hsf : isSubtype (.type "str") (.type "frozenset") = pure false := by rw [isSubtype_type]; kernel_rfl
        have hne : (Value.type "str" == Value.type "dict") = false := by decide
        subst hO
        unfold Builtin.«set.__init__» noKeywords Builtin.Frozenset.updateFrom
        generalize hPI : pyIter = PI
        wp_walk
        subst hPI
        refine wpAny_pyIter_str fun o St hW hst => ?_
        refine wpAny_bind (wpAny_runValue ?_)
        have hz1 : (s.heap.push { cls := .type "set", dict := none, data := .set #[] 0 (.fresh 0 0 (!w.params.followText "set-order")) }).objs.size = s.heap.objs.size + 1 := Heap.size_push ..
        have hSf : s.heap.objs.size ∉ [(s.heap.push { cls := .type "set", dict := none, data := .set #[] 0 (.fresh 0 0 (!w.params.followText "set-order")) }).objs.size] := by
          rw [hz1, List.mem_singleton]
          exact Nat.ne_of_lt (Nat.lt_succ_self _)
        refine setS_loop (hW _ (by simp [hh])).toS s.heap.objs.size hSf rfl hb (x.cps.size - 0) 0 _ rfl (Nat.zero_le _) hst ⟨0, Nat.le_refl 0, setS_new (Heap.get?_push_of_some _ hS)⟩ fun u c' hm hc' hS' => ?_
        obtain ⟨h', g2, d', tk', os'⟩ := u
        have eg : g2 = s.gens := hm.gens
        have ed : d' = s.drawn := hm.drawn
        have eo : os' = s.os := hm.os
        subst eg ed eo
        show wpAny _ _ _ _ _ _
        refine wpAny_pure ?_
        show wpAny _ _ (ret Value.none) _ _ _
        refine wpAny_pure ⟨rfl, h', tk', c', rfl, hS', hc', fun b o e => ?_⟩
        have hb0 : b < s.heap.objs.size := Heap.lt_size e
        refine hm.heap b o ?_ (Heap.get?_push_of_some _ (Heap.get?_push_of_some _ e))
        rw [List.mem_cons, List.mem_singleton, hz1]
        rintro (z | z)
        · exact Nat.ne_of_lt hb0 z
        · exact Nat.ne_of_lt (Nat.lt_succ_of_lt hb0) z
      · cases r₂ with
        | error e => exact hr₂
        | ok fl₂ =>
          cases fl₂ with
          | ret r =>
            obtain ⟨rfl, h', tk, c', rfl, hS', hc', hk'⟩ := hr₂
            repeat (any_goals (first | assumption | wp_step))
            exact h _ _ _ hS' hc' hk'
          | _ => exact hr₂.elim
    | _ => exact hr.elim
theorem keyS_strs : ∀ vs : List Value, (∀ v ∈ vs, ∃ k t, v = Value.str k t) → StrsAre vs (vs.map strOf) := fun vs h => strsAre_map vs h
/-- sorted of a set of texts -/
theorem sorted_setS {R : Value → Shared → Prop} (S : SetS w s.heap a l n) (hh : A.handled = none) (h64 : n < 64)
    (hR : ∀ u p (out : Array Value) (c : Nat) (ys : List Str), (∀ b o, s.heap.get? b = some o → u.heap.get? b = some o) → u.gens = s.gens → u.os = s.os → s.heap.objs.size ≤ p →
      u.heap.get? p = some (seqObj "list" out c) → StrsAre out.toList ys → sortedS ys = true → ys.Nodup → (∀ k, k ∈ ys ↔ k ∈ l) → ys.length = n → R (.ref p) u) :
    wpAny (model P w) A (call (.builtin "sorted") [.ref a]) R E s := by
  obtain ⟨o, es, ep, t, ho, hex, hd, g, nd, hm, hb, hf, hn, hr, hl⟩ := S
  refine Calls.call_function_entry kind_sorted plain_sorted entry_sorted (args_sorted1 _) ?_
  unfold Builtin.«sorted»
  refine wpAny_bind (m := checkCount "sorted" 1 1 _) (wpAny_pure ?_)
  refine wpAny_bind (collect_set (A := A.in1) hh ⟨o, ho, hex.1, hd⟩ hf hb hr hl fun u vs k1 hz g1 o1 pm => ?_)
  have hvl : vs.length = n := by rw [pm.length_eq, List.length_map, Array.length_toList]; exact hn
  have hI : StrsAre vs (vs.map strOf) := strsAre_map vs fun v hv => by
    obtain ⟨e, he, q⟩ := List.mem_map.mp (pm.mem_iff.mp hv)
    obtain ⟨k, tk, h1, _⟩ := g e he
    exact ⟨k, tk, by rw [← q]; exact h1⟩
  have pk : (vs.map strOf).Perm (es.toList.map keyS) := by
    have q := pm.map strOf
    rw [List.map_map] at q
    refine q.trans (List.Perm.of_eq (List.map_congr_left fun e he => ?_))
    obtain ⟨k, tk, h1, _⟩ := g e he
    simp only [Function.comp, keyS, h1]
    rfl
  refine wpAny_bind (wpAny_newList ?_ (by rw [hvl, sizeLine_eq]; omega))
  have hoL : (u.heap.push (seqObj "list" vs.toArray 0)).get? u.heap.objs.size = some (seqObj "list" vs.toArray 0) := Heap.get?_push_size _ rfl
  refine wpAny_bind (wpAny_holding (wpAny_call_entry slot_list_sort ⟨_, hoL, rfl⟩ entry_list_sort (list_sort_treeK strKind_oneLt hoL hI.keysOf (fun v₁ v₂ rest e => keyKind_strs (by rw [← e]; exact hI)) (by rw [hvl]; exact h64) fun st hp hs => ⟨_, rfl, ?_⟩) (args_list_sort _)))
  obtain ⟨ys, a1, a2, a3⟩ := sorted_out_str hI hp hs
  obtain ⟨c, hc⟩ := sortedHeap_at (vs := vs) (out := (arrOf st).map (·.2)) hoL
  have pn : ys.Perm (es.toList.map keyS) := a2.trans pk
  refine wpAny_pure ⟨_, rfl, hR _ u.heap.objs.size ((arrOf st).map (·.2)) c ys (fun b v e => ?_) g1 o1 hz hc a1 a3 (pn.nodup_iff.mpr nd) (fun k => by rw [pn.mem_iff, ← hm k]) ?_⟩
  · have q := k1 b v e
    have hlt := Heap.lt_size q
    show (sortedHeap (u.heap.push (seqObj "list" vs.toArray 0)) u.heap.objs.size vs ((arrOf st).map (·.2))).get? b = some v
    rw [sortedHeap_old (Nat.ne_of_lt hlt) (by rw [size_push']; exact Nat.lt_succ_of_lt hlt)]
    exact Heap.get?_push_of_some _ q
  · rw [pn.length_eq, List.length_map, Array.length_toList]
    exact hn
end
section
variable {X : Cx}
abbrev sg (c : Nat) : Str := ⟨#[c]⟩
theorem rising_sg : ∀ {p : Nat} {ks : List Nat}, risingS (sg p) (ks.map sg) = true → ∀ k ∈ ks, p ≤ k
  | p, [], _, k, hk => by simp at hk
  | p, x :: r, h, k, hk => by
    rw [List.map_cons] at h
    have h' : (!ltCps [x] [p] && risingS (sg x) (r.map sg)) = true := h
    rw [Bool.and_eq_true] at h'
    have e : ltCps [x] [p] = decide (x < p) := by simp [ltCps]
    have hx : p ≤ x := by
      have := h'.1
      rw [e] at this
      simp at this
      exact this
    rcases List.mem_cons.mp hk with rfl | hk
    · exact hx
    · exact Nat.le_trans hx (rising_sg h'.2 k hk)
theorem rising_tail : ∀ {p : Nat} {ks : List Nat}, risingS (sg p) (ks.map sg) = true → (p :: ks).Pairwise (· ≤ ·)
  | p, [], _ => by simp
  | p, x :: r, h => by
    have h' : (!ltCps [x] [p] && risingS (sg x) (r.map sg)) = true := h
    rw [Bool.and_eq_true] at h'
    exact List.pairwise_cons.mpr ⟨rising_sg h, rising_tail h'.2⟩
theorem sorted_sg {ks : List Nat} (h : sortedS (ks.map sg) = true) (nd : ks.Nodup) : ks.Pairwise (· < ·) := by
  cases ks with
  | nil => simp
  | cons p r =>
    have h1 := rising_tail (p := p) (ks := r) h
    exact h1.imp₂ (fun _ _ a b => Nat.lt_of_le_of_ne a b) nd
theorem lt_ext : ∀ {xs ys : List Nat}, xs.Pairwise (· < ·) → ys.Pairwise (· < ·) → (∀ k, k ∈ xs ↔ k ∈ ys) → xs = ys
  | [], [], _, _, _ => rfl
  | [], y :: ys, _, _, h => by simpa using (h y).2 (by simp)
  | x :: xs, [], _, _, h => by simpa using (h x).1 (by simp)
  | x :: xs, y :: ys, h1, h2, h => by
    obtain ⟨a1, a2⟩ := List.pairwise_cons.mp h1
    obtain ⟨b1, b2⟩ := List.pairwise_cons.mp h2
    have e : x = y := by
      rcases List.mem_cons.mp ((h x).1 (by simp)) with e | e
      · exact e
      · have c1 := b1 x e
        rcases List.mem_cons.mp ((h y).2 (by simp)) with f | f
        · exact f.symm
        · have := a1 y f
          omega
    subst e
    refine congrArg (x :: ·) (lt_ext a2 b2 fun k => ⟨fun hk => ?_, fun hk => ?_⟩)
    · rcases List.mem_cons.mp ((h k).1 (List.mem_cons_of_mem _ hk)) with f | f
      · have := a1 k hk
        omega
      · exact f
    · rcases List.mem_cons.mp ((h k).2 (List.mem_cons_of_mem _ hk)) with f | f
      · have := b1 k hk
        omega
      · exact f
theorem le_foldr_max : ∀ {xs : List Nat} {k : Nat}, k ∈ xs → k ≤ xs.foldr max 0
  | x :: xs, k, h => by
    rw [List.foldr_cons]
    rcases List.mem_cons.mp h with rfl | h
    · exact Nat.le_max_left _ _
    · exact Nat.le_trans (le_foldr_max h) (Nat.le_max_right _ _)
theorem mem_letters (z : Str) (k : Nat) : k ∈ letters z ↔ k ∈ z.cps.toList := by
  unfold letters
  rw [List.mem_filter, decide_eq_true_eq, List.mem_range]
  exact ⟨fun h => h.2, fun h => ⟨Nat.lt_succ_of_le (le_foldr_max h), h⟩⟩
theorem letters_lt (z : Str) : (letters z).Pairwise (· < ·) := List.Pairwise.filter _ List.pairwise_lt_range
/-- rising texts of one sign, each once, are told by which there are -/
theorem letters_of {z : Str} {ys : List Str} (h1 : sortedS ys = true) (h2 : ys.Nodup) (h3 : ∀ k, k ∈ ys ↔ k ∈ z.cps.toList.map sg) : ys = (letters z).map sg := by
  have e : (ys.map fun y => y.cps.toList.headD 0).map sg = ys := by
    rw [List.map_map]
    conv => rhs; rw [← List.map_id ys]
    refine List.map_congr_left fun y hy => ?_
    obtain ⟨c, _, rfl⟩ := List.mem_map.mp ((h3 y).1 hy)
    rfl
  generalize hks : (ys.map fun y => y.cps.toList.headD 0) = ks at e
  rw [← e] at h1 h2 h3 ⊢
  have nd : ks.Nodup := List.Pairwise.of_map sg (fun a b hne e => hne (congrArg sg e)) h2
  rw [lt_ext (sorted_sg h1 nd) (letters_lt z) fun k => ?_]
  rw [mem_letters]
  have inj : ∀ (c : Nat) (l : List Nat), sg c ∈ l.map sg ↔ c ∈ l := fun c l => by
    rw [List.mem_map]
    constructor
    · rintro ⟨d, hd, e⟩
      have e2 : [d] = [c] := congrArg (fun y : Str => y.cps.toList) e
      rw [← (List.cons.inj e2).1]
      exact hd
    · exact fun h => ⟨c, h, rfl⟩
  rw [← inj, h3, inj]
def tSset (te : TE) : TE := fun σ H Q => te σ H fun x H1 => ∃ z : Str, x = .str z ∧ z.length < 63 ∧ ∀ p, H1 p = none → Q (.ref p) (upd H1 p (.lst ((letters z).map fun c => V.str ⟨#[c]⟩)))
theorem pe_sset {a : Expr} {ta : TE} {p p2 q pos : Pos} (hc : X.calm = true) (hg : Gl X "sorted") (hm : X.mg "sorted" = none) (hg2 : Gl X "set") (hm2 : X.mg "set" = none) (ha : PE X a ta) (hs : starEach [a] X.env = (false, eval a X.env) :: starEach [] X.env) :
    PE X (.Call (.Name "sorted" p) [.Call (.Name "set" p2) [a] [] q] [] pos) (tSset ta) := by
  refine ⟨fun pins s σ H Q I h => ?_⟩
  refine Call_ (ld_blt I hg hm boot_sorted ?_)
  refine PyProof.Rows.callWith_builtin1 (PyProof.Rows.args_cons ?_ rfl) rfl rfl
  refine Call_ (ld_blt I hg2 hm2 PyProof.Rows.boot_set ?_)
  refine PyProof.Rows.callWith_type1 (PyProof.Rows.args_cons (thn (ha.run pins s σ H _ I h) fun v s1 ⟨x, H1, I1, r1, q1⟩ => PyProof.Rows.args_nil ?_) hs) hs rfl
  obtain ⟨z, rfl, hz, q1⟩ := q1
  obtain ⟨t, rfl⟩ := r1
  have hz' : z.cps.size < 63 := hz
  refine call_setS (I1.ok.hd hc) (by unfold scanBound; omega) fun h' tk c S hc' hk => PyProof.Rows.args_nil ?_
  have I2 : L2.Inv X pins σ H1 { s1 with heap := h', toks := tk } := I1.kept hk
  refine sorted_setS (s := { s1 with heap := h', toks := tk }) S (I1.ok.hd hc) (by omega) fun u p out cc ys k2 g2 o2 hp he st srt nd mem len => ?_
  obtain ⟨hp', g', d', tk', os'⟩ := u
  have eg : g' = s1.gens := g2
  have eo : os' = s1.os := o2
  subst eg eo
  have hlen : (ys.map V.str).length ≤ sizeLine := by rw [List.length_map, len, sizeLine_eq]; omega
  have hn : H1 p = none := I2.hok.fresh hp
  have J : L2.Inv X pins σ (upd H1 p (.lst (ys.map V.str))) { ({ s1 with heap := h', toks := tk } : Shared) with heap := hp', gens := s1.gens, drawn := d', toks := tk' } :=
    I2.call (ch := []) (Un.laid k2 hp hn) (I2.hok.laid k2 hp ⟨hlen, out.toList, cc, vals_of_strs st, he⟩) I2.bare (fun _ z => nomatch z)
  have ey := letters_of srt nd mem
  refine ⟨.ref p, _, J, rfl, ?_⟩
  rw [ey, List.map_map]
  exact q1 p hn
end
end Ip

/-! Ip, part C: operators, calls of built-ins. -/
namespace Ip
open PySem PySem.Spec PyProof.Rows L2

/-- what a code's context gives -/
structure Good (X : Cx) : Prop where
  nd : X.N.Nodup
  calm : X.calm = true
  kind : X.env.scope.kind = .function
  units : X.A.units + 64 < cLine
  units5 : X.A.units + 65 < cLine
  guards : X.A.guards = some []
  pyl : X.A.frames = some X.stack → ∀ s : Shared, (∀ b o, X.base.get? b = some o → s.heap.get? b = some o) → PylongRoom (model X.prog X.w) X.A s

def rB (K : Fr) (W : EX) (f : D → D → Hh → Out D) : R2 := fun x y H Q => ∃ dx dy h mu, RelH K mu H h ∧ Rep K mu H dx x ∧ Rep K mu H dy y ∧ pO K W mu H (f dx dy h) (fun d mu' H' _ => ∀ v, Rep K mu' H' d v → Q v H')
def rC (K : Fr) (W : EX) (f : List D → Hh → Out D) : List V → Hp → VK → Prop := fun vs H Q => ∃ ds h mu, RelH K mu H h ∧ Reps K mu H ds vs ∧ pO K W mu H (f ds h) (fun d mu' H' _ => ∀ v, Rep K mu' H' d v → Q v H')
section
variable {K : Fr} {W : EX} {ma mb : Env → Hh → Out D} {ms : Env → Hh → Out (List D)} {f : D → D → Hh → Out D} {g : List D → Hh → Out D} {sg : L2.St} {H : Hp} {Q : VK}
theorem tOp_of (h : tE K W (fun env h => (ma env h).bind fun x h1 => (mb env h1).bind fun y h2 => f x y h2) sg H Q) : tOp (rB K W f) (tE K W ma) (tE K W mb) sg H Q := by
  obtain ⟨env, h, mu, re, rh, q⟩ := h
  refine ⟨env, h, mu, re, rh, q.bind.mono fun x mu1 H1 h1 x1 r1 q1 v rv => ?_⟩
  refine ⟨env, h1, mu1, re.mono x1, r1, q1.bind.mono fun y mu2 H2 h2 x2 r2 q2 u ru => ?_⟩
  exact ⟨x, y, h2, mu2, r2, rv.mono x2, ru, q2⟩
theorem tCons_of {Q : List V → Hp → Prop} (h : tA K W (fun env h => (ma env h).bind fun x h1 => (ms env h1).bind fun xs h2 => .ok (x :: xs) h2) sg H Q) : tCons (tE K W ma) (tA K W ms) sg H Q := by
  obtain ⟨env, h, mu, re, rh, q⟩ := h
  refine ⟨env, h, mu, re, rh, q.bind.mono fun x mu1 H1 h1 x1 r1 q1 v rv => ?_⟩
  refine ⟨env, h1, mu1, re.mono x1, r1, q1.bind.mono fun xs mu2 H2 h2 x2 r2 q2 us rus => ?_⟩
  refine q2.ok r2 _ ?_
  simp only [Reps]
  exact ⟨v, us, rfl, rv.mono x2, rus⟩
theorem tCB_of (h : tE K W (fun env h => (ms env h).bind g) sg H Q) : tCB (rC K W g) (tA K W ms) sg H Q := by
  obtain ⟨env, h, mu, re, rh, q⟩ := h
  exact ⟨env, h, mu, re, rh, q.bind.mono fun x mu1 H1 h1 x1 r1 q1 v rv => ⟨x, h1, mu1, r1, rv, q1⟩⟩
end

section
variable {K : Fr} {W : EX} {mu : List Addr} {H : Hp} {h : Hh} {Q : VK}
/-- a made list -/
theorem mkL_of {ds : List D} {ws : List V} (rh : RelH K mu H h) (rs : Reps K mu H ds ws) (q : pO K W mu H (mkL ds h) (fun d mu' H' _ => ∀ v, Rep K mu' H' d v → Q v H')) :
    ws.length ≤ sizeLine ∧ ∀ p, H p = none → Q (.ref p) (upd H p (.lst ws)) := by
  obtain ⟨hz, q⟩ := pO.need q
  refine ⟨by rw [← rs.length]; exact hz, fun p hp => ?_⟩
  refine q (mu ++ [p]) _ (Ext.newL hp) (rh.newL hp rs) _ ?_
  simp only [Rep]
  refine ⟨p, rfl, ?_, ws, upd_same⟩
  rw [List.getElem?_append_right (by rw [rh.len]; exact Nat.le_refl _), rh.len]
  simp
/-- a made tuple -/
theorem mkT_of {ds : List D} {ws : List V} (rh : RelH K mu H h) (rs : Reps K mu H ds ws) (q : pO K W mu H (.ok (.tup ds) h) (fun d mu' H' _ => ∀ v, Rep K mu' H' d v → Q v H')) :
    newT H ws Q := fun p o hp ho => by
  have x : Ext mu H mu (upd H p (.frz o (.tup ws))) := Ext.new hp
  refine q mu _ x (rh.new hp) _ ?_
  simp only [Rep]
  exact ⟨p, ws, rfl, .inl ⟨o, upd_same, ho⟩, Reps.mono x _ _ rs⟩
/-- a list's place -/
theorem ref_of {n : Nat} {ds : List D} {v : V} (rh : RelH K mu H h) (r : Rep K mu H (.ref n) v) (e : h[n]? = some (.lst ds)) : ∃ a ws, v = .ref a ∧ mu[n]? = some a ∧ H a = some (.lst ws) ∧ Reps K mu H ds ws := by
  simp only [Rep] at r
  obtain ⟨a, rfl, m, _⟩ := r
  obtain ⟨ws, e1, q⟩ := rh.obj n _ a e m
  exact ⟨a, ws, rfl, m, e1, q⟩
theorem seqL_of {d : D} {ds : List D} {v : V} (rh : RelH K mu H h) (r : Rep K mu H d v) (e : seqL h d = some ds) : ∃ a ws, v = .ref a ∧ SqL K H a ws ∧ Reps K mu H ds ws := by
  cases d with
  | frz es =>
    simp only [seqL, Option.some.injEq] at e
    subst e
    simp only [Rep] at r
    obtain ⟨a, ws, rfl, s, r⟩ := r
    refine ⟨a, ws, rfl, ?_, r⟩
    rcases s with ⟨o, s⟩ | s
    · exact .inl (.inr ⟨o, s⟩)
    · exact .inr s
  | ref n =>
    simp only [seqL] at e
    split at e
    · rename_i es he
      cases e
      obtain ⟨a, ws, rfl, m, e1, q⟩ := ref_of rh r he
      exact ⟨a, ws, rfl, .inl (.inl e1), q⟩
    · cases e
  | _ => simp [seqL] at e
theorem seqOf_of {d : D} {ds : List D} {v : V} (rh : RelH K mu H h) (r : Rep K mu H d v) (e : seqOf h d = some ds) : ∃ a ws, v = .ref a ∧ (SqL K H a ws ∨ SqT K H a ws) ∧ Reps K mu H ds ws := by
  cases d with
  | tup es =>
    simp only [seqOf, Option.some.injEq] at e
    subst e
    simp only [Rep] at r
    obtain ⟨a, ws, rfl, s, r⟩ := r
    exact ⟨a, ws, rfl, .inr s.t, r⟩
  | frz es =>
    obtain ⟨a, ws, e1, s, q⟩ := seqL_of rh r (by simpa [seqL, seqOf] using e)
    exact ⟨a, ws, e1, .inl s, q⟩
  | ref n =>
    obtain ⟨a, ws, e1, s, q⟩ := seqL_of rh r (by simpa [seqL, seqOf] using e)
    exact ⟨a, ws, e1, .inl s, q⟩
  | _ => simp [seqOf] at e
end

/-! ### plain data -/
section
variable {K : Fr} {mu : List Addr} {H : Hp} {h : Hh}
theorem dpAll_of {n : Nat} (ih : ∀ (d : D) (v : V) (p : PyData), Rep K mu H d v → toP n h d = some p → Dp K H v p) : ∀ (ds : List D) (vs : List V) (ps : List PyData), Reps K mu H ds vs → ds.mapM (toP n h) = some ps → DpAll K H vs ps
  | [], vs, ps, r, e => by
    simp only [Reps] at r
    subst r
    simp at e
    subst e
    exact .nil
  | d :: ds, vs, ps, r, e => by
    simp only [Reps] at r
    obtain ⟨w, ws, rfl, r1, rs⟩ := r
    simp only [List.mapM_cons, Option.pure_def, Option.bind_eq_bind, Option.bind_eq_some_iff, Option.some.injEq] at e
    obtain ⟨p, e1, qs, e2, rfl⟩ := e
    exact .cons (ih _ _ _ r1 e1) (dpAll_of ih ds ws qs rs e2)
theorem dp_of (rh : RelH K mu H h) : ∀ (n : Nat) (d : D) (v : V) (p : PyData), Rep K mu H d v → toP n h d = some p → Dp K H v p := by
  intro n
  induction n with
  | zero =>
    intro d v p r e
    cases d <;> simp only [toP, Rep, Option.some.injEq, reduceCtorEq] at e r <;> subst e <;> subst r
    · exact .non
    · exact .bl _
    · exact .int _
    · exact .str _
  | succ n ih =>
    intro d v p r e
    cases d with
    | non => simp only [toP, Rep, Option.some.injEq] at e r; subst e; subst r; exact .non
    | bl b => simp only [toP, Rep, Option.some.injEq] at e r; subst e; subst r; exact .bl _
    | int b => simp only [toP, Rep, Option.some.injEq] at e r; subst e; subst r; exact .int _
    | str b => simp only [toP, Rep, Option.some.injEq] at e r; subst e; subst r; exact .str _
    | ty b => simp only [toP, reduceCtorEq] at e
    | dct ks ds => simp only [toP, reduceCtorEq] at e
    | obj n => simp only [toP, reduceCtorEq] at e
    | tup ds =>
      simp only [toP, Option.map_eq_some_iff] at e
      obtain ⟨ps, e, rfl⟩ := e
      simp only [Rep] at r
      obtain ⟨a, ws, rfl, s, rs⟩ := r
      exact .tup s.t (dpAll_of ih _ _ _ rs e)
    | frz ds =>
      simp only [toP, Option.map_eq_some_iff] at e
      obtain ⟨ps, e, rfl⟩ := e
      obtain ⟨a, ws, rfl, s, rs⟩ := seqL_of (h := h) rh r rfl
      exact .lst s (dpAll_of ih _ _ _ rs e)
    | ref m =>
      simp only [toP] at e
      split at e
      · rename_i ds he
        simp only [Option.map_eq_some_iff] at e
        obtain ⟨ps, e, rfl⟩ := e
        obtain ⟨a, ws, rfl, s, rs⟩ := seqL_of (h := h) (ds := ds) rh r (by simp [seqL, he])
        exact .lst s (dpAll_of ih _ _ _ rs e)
      · cases e
theorem eqD_of {x y : D} {v u : V} {b : Bool} (rh : RelH K mu H h) (rx : Rep K mu H x v) (ry : Rep K mu H y u) (e : eqD h x y = some b) :
    ∃ d d', Dp K H v d ∧ Dp K H u d' ∧ SeqAt.shaped d = true ∧ SeqAt.shaped d' = true ∧ PyData.eqv d d' = b := by
  unfold eqD at e
  split at e
  · rename_i d d' e1 e2
    split at e
    · rename_i hs
      simp only [Bool.and_eq_true] at hs
      cases e
      exact ⟨d, d', dp_of rh _ _ _ _ rx e1, dp_of rh _ _ _ _ ry e2, hs.1, hs.2, rfl⟩
    · cases e
  · cases e
end

/-! ### the operators -/
section
variable {X : Cx} {W : EX} (G : Good X)
theorem r_add : OpR X (binaryOp .Add) (rB X.K W opAdd) := by
  intro pins s σ H x y v u Q I rx ry hh
  obtain ⟨dx, dy, h, mu, rh, r1, r2, q⟩ := hh
  unfold opAdd at q
  split at q
  · simp only [Rep] at r1 r2
    subst r1 r2
    exact op_add pins s σ H _ _ v u Q I rx ry ⟨_, _, rfl, rfl, q.ok rh _ (by simp [Rep])⟩
  · rename_i a b
    obtain ⟨hz, q⟩ := pO.need q
    simp only [Rep] at r1 r2
    obtain ⟨p, ws, rfl, s1, q1⟩ := r1
    obtain ⟨p', ws', rfl, s2, q2⟩ := r2
    refine op_catN pins s σ H _ _ v u Q I rx ry ⟨p, p', ws, ws', rfl, rfl, s1.t, s2.t, by rw [← q1.length, ← q2.length]; exact hz, fun e => ?_, fun _ e => ?_, fun _ _ => mkT_of rh (q1.append q2) q⟩
    · have e' := q1.nil_iff.mpr e
      subst e'
      refine q.ok rh _ ?_
      simp only [Rep, List.nil_append]
      exact ⟨p', ws', rfl, s2, q2⟩
    · have e' := q2.nil_iff.mpr e
      subst e'
      refine q.ok rh _ ?_
      simp only [Rep, List.append_nil]
      exact ⟨p, ws, rfl, s1, q1⟩
  · obtain ⟨hz, q⟩ := pO.need q
    simp only [Rep] at r1 r2
    subst r1 r2
    exact op_add_str pins s σ H _ _ v u Q I rx ry ⟨_, _, rfl, rfl, hz, q.ok rh _ (by simp [Rep])⟩
  · split at q
    · rename_i e1 e2
      obtain ⟨hz, q⟩ := pO.need q
      obtain ⟨a, ws, rfl, m, h1, q1⟩ := ref_of rh r1 e1
      obtain ⟨a', ws', rfl, m', h2, q2⟩ := ref_of rh r2 e2
      exact op_cat pins s σ H _ _ v u Q I rx ry ⟨a, a', ws, ws', rfl, rfl, h1, h2, by rw [← q1.length, ← q2.length]; exact hz, (mkL_of rh (q1.append q2) q).2⟩
    · exact False.elim q
  · simp only [Rep] at r1 r2
    subst r1 r2
    cases rx
    cases ry
    exact add_bool ⟨.int _, H, I.tok _, ⟨_, rfl⟩, q.ok rh _ (by simp [Rep, b2i])⟩
  · exact False.elim q
theorem r_sub : OpR X (binaryOp .Sub) (rB X.K W opSub) := by
  intro pins s σ H x y v u Q I rx ry hh
  obtain ⟨dx, dy, h, mu, rh, r1, r2, q⟩ := hh
  unfold opSub at q
  split at q
  · simp only [Rep] at r1 r2
    subst r1 r2
    exact op_sub pins s σ H _ _ v u Q I rx ry ⟨_, _, rfl, rfl, q.ok rh _ (by simp [Rep])⟩
  · exact False.elim q
theorem r_mul : OpR X (binaryOp .Mult) (rB X.K W opMul) := by
  intro pins s σ H x y v u Q I rx ry hh
  obtain ⟨dx, dy, h, mu, rh, r1, r2, q⟩ := hh
  unfold opMul at q
  split at q
  · obtain ⟨hz, q⟩ := pO.need q
    simp only [Rep] at r1 r2
    subst r1 r2
    exact (opI fun _ _ _ _ _ _ _ hc q => mul_int q hc : OpR X (binaryOp .Mult) (rI IntMulOk fun i j => .int (i * j))) pins s σ H _ _ v u Q I rx ry ⟨_, _, rfl, rfl, hz, q.ok rh _ (by simp [Rep])⟩
  · split at q
    · rename_i e1
      obtain ⟨hz, q⟩ := pO.need q
      obtain ⟨a, ws, rfl, m, h1, q1⟩ := ref_of rh r1 e1
      simp only [Rep] at r2
      subst r2
      exact op_rep pins s σ H _ _ v u Q I rx ry ⟨a, _, ws, rfl, rfl, h1, hz.1, hz.2.1, by rw [← q1.length]; exact hz.2.2, (mkL_of rh (q1.flat _) q).2⟩
    · exact False.elim q
  · rename_i as k
    obtain ⟨hz, q⟩ := pO.need q
    simp only [Rep] at r1 r2
    subst r2
    obtain ⟨p, ws, rfl, s1, q1⟩ := r1
    by_cases h1 : as = [] ∨ k = 1
    · refine op_repT1 pins s σ H _ _ v u Q I rx ry ⟨p, k, ws, rfl, rfl, s1.t, ?_, hz.1, hz.2.1, q.ok rh _ ?_⟩
      · rcases h1 with h1 | h1
        · exact .inl (q1.nil_iff.mp h1)
        · exact .inr h1
      · have e : (List.replicate k.toNat as).flatten = as := by
          rcases h1 with h1 | h1
          · subst h1; simp
          · subst h1; simp
        rw [e]
        simp only [Rep]
        exact ⟨p, ws, rfl, s1, q1⟩
    · refine op_repN pins s σ H _ _ v u Q I rx ry ⟨p, k, ws, rfl, rfl, s1.t, fun e => h1 (.inl (q1.nil_iff.mpr e)), by omega, hz.2.1, by rw [← q1.length]; exact hz.2.2, mkT_of rh (q1.flat _) q⟩
  · rename_i z k
    obtain ⟨hz, q⟩ := pO.need q
    simp only [Rep] at r1 r2
    subst r1 r2
    obtain ⟨t, rfl⟩ := rx
    obtain ⟨t', rfl⟩ := ry
    exact SB.mul hz fun t2 k2 => ⟨.str _, H, I.tok _, ⟨_, rfl⟩, q.ok rh _ (by simp [Rep])⟩
  · exact False.elim q
include G in
theorem r_fdiv : OpR X (binaryOp .FloorDiv) (rB X.K W opFdiv) := by
  intro pins s σ H x y v u Q I rx ry hh
  obtain ⟨dx, dy, h, mu, rh, r1, r2, q⟩ := hh
  unfold opFdiv at q
  split at q
  · obtain ⟨hz, q⟩ := pO.need q
    simp only [Rep] at r1 r2
    subst r1 r2
    obtain ⟨t, rfl⟩ := rx
    obtain ⟨t', rfl⟩ := ry
    exact floordiv_int hz ⟨.int _, H, I.tok _, ⟨_, rfl⟩, q.ok rh _ (by simp [Rep])⟩ (.inr (G.pyl I.ok.frames s I.bk))
  · exact False.elim q
theorem r_mod : OpR X (binaryOp .Mod) (rB X.K W opMod) := by
  intro pins s σ H x y v u Q I rx ry hh
  obtain ⟨dx, dy, h, mu, rh, r1, r2, q⟩ := hh
  unfold opMod at q
  split at q
  · obtain ⟨hz, q⟩ := pO.need q
    simp only [Rep] at r1 r2
    subst r1 r2
    exact op_modN pins s σ H _ _ v u Q I rx ry ⟨_, _, rfl, rfl, hz, q.ok rh _ (by simp [Rep])⟩
  · exact False.elim q
theorem r_pow : OpR X (binaryOp .Pow) (rB X.K W opPow) := by
  intro pins s σ H x y v u Q I rx ry hh
  obtain ⟨dx, dy, h, mu, rh, r1, r2, q⟩ := hh
  unfold opPow at q
  split at q
  · obtain ⟨hz, q⟩ := pO.need q
    simp only [Rep] at r1 r2
    subst r1 r2
    exact op_pow pins s σ H _ _ v u Q I rx ry ⟨_, _, rfl, rfl, hz, q.ok rh _ (by simp [Rep])⟩
  · exact False.elim q
def opOf : Bop → Operator
  | .add => .Add
  | .sub => .Sub
  | .mul => .Mult
  | .fdiv => .FloorDiv
  | .mod => .Mod
  | .pow => .Pow
include G in
theorem r_bin (op : Bop) : OpR X (binaryOp (opOf op)) (rB X.K W (binop op)) := by
  cases op
  · exact r_add
  · exact r_sub
  · exact r_mul
  · exact r_fdiv G
  · exact r_mod
  · exact r_pow

/-! ### comparisons -/
def copOf : Cop → CmpOp
  | .eq => .Eq
  | .ne => .NotEq
  | .lt => .Lt
  | .le => .LtE
  | .gt => .Gt
  | .ge => .GtE
  | .is => .Is
  | .isnot => .IsNot
  | .in => .In
  | .notin => .NotIn
theorem r_cmpI {f : Int → Int → Bool} {op : CmpOp} (ho : OpR X (compareOp op) (rI0 fun i j => .bl (f i j))) : OpR X (compareOp op) (rB X.K W (cmpI f)) := by
  intro pins s σ H x y v u Q I rx ry hh
  obtain ⟨dx, dy, h, mu, rh, r1, r2, q⟩ := hh
  unfold cmpI at q
  split at q
  · simp only [Rep] at r1 r2
    subst r1 r2
    exact ho pins s σ H _ _ v u Q I rx ry ⟨_, _, rfl, rfl, q.ok rh _ (by simp [Rep])⟩
  · exact False.elim q
theorem inD_of {K : Fr} {mu : List Addr} {H : Hp} {h : Hh} {x y : D} {v u : V} {b : Bool} (rh : RelH K mu H h) (rx : Rep K mu H x v) (ry : Rep K mu H y u) (e : inD h x y = some b) :
    ∃ d ds, Dp K H v d ∧ (Dp K H u (.list ds) ∨ Dp K H u (.tuple ds)) ∧ d.canLay0 = true ∧ PyData.canLayAll0 ds = true ∧ d.depth ≤ 60 ∧ b = ds.any fun z => PyData.eqv z d := by
  unfold inD at e
  split at e
  · rename_i d ds e1 e2
    split at e
    · rename_i hs
      simp only [Bool.and_eq_true, decide_eq_true_eq] at hs
      cases e
      exact ⟨d, ds, dp_of rh _ _ _ _ rx e1, .inl (dp_of rh _ _ _ _ ry e2), SeqAt.canLay_of_shaped hs.1.1, hs.1.2, hs.2, rfl⟩
    · cases e
  · rename_i d ds e1 e2
    split at e
    · rename_i hs
      simp only [Bool.and_eq_true, decide_eq_true_eq] at hs
      cases e
      exact ⟨d, ds, dp_of rh _ _ _ _ rx e1, .inr (dp_of rh _ _ _ _ ry e2), SeqAt.canLay_of_shaped hs.1.1, hs.1.2, hs.2, rfl⟩
    · cases e
  · cases e
theorem toks_ints : ∀ (ms ns : List Int), ms.length ≤ ns.length → PySem.W.alikeAll (ms.map PyData.int) (ns.map PyData.int) = true ∧ PyProof.Rows.lexLt PyProof.Rows.itemOrd (PySem.W.keyToksAll (ms.map PyData.int)) (PySem.W.keyToksAll (ns.map PyData.int)) = ltL ms ns
  | [], [], _ => ⟨by simp [PySem.W.alikeAll], by rw [List.map_nil, ← PySem.W.dataLt_list]; simp only [PySem.W.dataLt_list, PySem.W.keyToksAll, ltL]; rfl⟩
  | [], n :: ns, _ => ⟨by simp [PySem.W.alikeAll], by simp only [List.map_nil, List.map_cons, PySem.W.keyToksAll, ltL]; rfl⟩
  | m :: ms, [], hl => by simp at hl
  | m :: ms, n :: ns, hl => by
    obtain ⟨a, e⟩ := toks_ints ms ns (by simpa using hl)
    have a1 : PySem.W.alike (.int m) (.int n) = true := by simp [PySem.W.alike]
    refine ⟨by simp only [List.map_cons, PySem.W.alikeAll, a1, a, Bool.and_self], ?_⟩
    simp only [List.map_cons, ltL]
    cases he : PyData.eqv (.int m) (.int n) with
    | true =>
      rw [PySem.W.dataLt_all_yes a1 he, e]
      have : m = n := by simpa [PyData.eqv] using he
      rw [if_pos this]
    | false =>
      rw [PySem.W.dataLt_all_no a1 he, PySem.W.dataLt_int]
      have : m ≠ n := by simpa [PyData.eqv] using he
      rw [if_neg this]
theorem depth_ints : ∀ ms : List Int, PyData.depthAll (ms.map PyData.int) ≤ 1
  | [] => by simp [PyData.depthAll]
  | m :: ms => by
    have := depth_ints ms
    simp only [List.map_cons, PyData.depthAll, PyData.depth]
    omega
theorem toP_ints (n : Nat) (h : Hh) : ∀ {ds : List D} {ms : List Int}, intsOf ds = some ms → ds.mapM (toP (n + 1) h) = some (ms.map PyData.int)
  | [], ms, e => by
    simp only [intsOf, Option.some.injEq] at e
    subst e
    rfl
  | d :: ds, ms, e => by
    cases d <;> simp only [intsOf, reduceCtorEq, Option.map_eq_some_iff] at e
    obtain ⟨ks, e, rfl⟩ := e
    simp only [List.mapM_cons, toP_ints n h e, List.map_cons]
    rfl
theorem ints_of {K : Fr} {mu : List Addr} {H : Hp} : ∀ {ds : List D} {ws : List V} {ns : List Int}, Reps K mu H ds ws → intsOf ds = some ns → ws = ns.map V.int
  | [], ws, ns, r, e => by
    simp only [intsOf, Option.some.injEq, Reps] at e r
    subst e
    subst r
    rfl
  | d :: ds, ws, ns, r, e => by
    cases d <;> simp only [intsOf, reduceCtorEq, Option.map_eq_some_iff] at e
    obtain ⟨ms, e, rfl⟩ := e
    simp only [Reps, Rep] at r
    obtain ⟨w, us, rfl, rfl, rs⟩ := r
    rw [ints_of rs e]
    rfl
theorem lexLt_ltL : ∀ ms ns : List Int, HT.lexLt ms ns = ltL ms ns
  | [], [] => rfl
  | [], _ :: _ => rfl
  | _ :: _, [] => rfl
  | x :: xs, y :: ys => by
    unfold HT.lexLt ltL
    rw [lexLt_ltL xs ys]
theorem signOf_of {x : Str} {c : Nat} (h : signOf x = some c) : x = ⟨#[c]⟩ := by
  unfold signOf at h
  split at h
  · rename_i e
    cases h
    exact TL.ext_tl (by rw [TL.tl, e])
  · cases h
include G in
theorem r_lt : OpR X (compareOp .Lt) (rB X.K W cmpLt) := by
  intro pins s σ H x y v u Q I rx ry hh
  obtain ⟨dx, dy, h, mu, rh, r1, r2, q⟩ := hh
  unfold cmpLt at q
  split at q
  · simp only [Rep] at r1 r2
    subst r1 r2
    exact op_lt pins s σ H _ _ v u Q I rx ry ⟨_, _, rfl, rfl, q.ok rh _ (by simp [Rep])⟩
  · split at q
    · rename_i xs ys e1 e2
      split at q
      · rename_i ms ns e3 e4
        by_cases hl : ms.length ≤ ns.length
        case neg => rw [if_neg hl] at q; exact False.elim q
        rw [if_pos hl] at q
        have t1 : ∀ a, h[a]? = some (.lst xs) → toP 66 h (.ref a) = some (.list (ms.map PyData.int)) := fun a e1 => by rw [toP, e1]; simp only; rw [toP_ints _ _ e3]; rfl
        have t2 : ∀ a, h[a]? = some (.lst ys) → toP 66 h (.ref a) = some (.list (ns.map PyData.int)) := fun a e2 => by rw [toP, e2]; simp only; rw [toP_ints _ _ e4]; rfl
        replace t1 := t1 _ e1
        replace t2 := t2 _ e2
        obtain ⟨as, ra⟩ := Dp.reads I _ _ _ (dp_of rh _ _ _ _ r1 t1) rx
        obtain ⟨bs, rb⟩ := Dp.reads I _ _ _ (dp_of rh _ _ _ _ r2 t2) ry
        have tk := toks_ints ms ns hl
        refine PySem.W.lt_data ra rb (by rw [PySem.W.alike]; exact tk.1) (by simp) (by
          have := depth_ints ms
          have u := G.units
          simp only [PyData.depth]
          omega) ?_
        rw [PySem.W.dataLt_list, tk.2]
        exact ⟨.bl _, H, I, rfl, q.ok rh _ (by simp [Rep])⟩
      · exact False.elim q
    · exact False.elim q
  · split at q
    · rename_i e1 e2
      simp only [Rep] at r1 r2
      obtain ⟨a, ws, rfl, s1, q1⟩ := r1
      obtain ⟨b, us, rfl, s2, q2⟩ := r2
      have := ints_of q1 e1
      subst this
      have := ints_of q2 e2
      subst this
      refine op_ltT (by have := G.units; omega) pins s σ H _ _ v u Q I rx ry ⟨a, b, _, _, rfl, rfl, s1.t, s2.t, ?_⟩
      rw [lexLt_ltL]
      exact q.ok rh _ (by simp [Rep])
    · exact False.elim q
  · exact False.elim q
include G in
theorem r_gt : OpR X (compareOp .Gt) (rB X.K W cmpGt) := by
  intro pins s σ H x y v u Q I rx ry hh
  obtain ⟨dx, dy, h, mu, rh, r1, r2, q⟩ := hh
  unfold cmpGt at q
  split at q
  · simp only [Rep] at r1 r2
    subst r1 r2
    exact op_gt pins s σ H _ _ v u Q I rx ry ⟨_, _, rfl, rfl, q.ok rh _ (by simp [Rep])⟩
  · rename_i xs ys
    split at q
    · rename_i ms ns e3 e4
      by_cases hl : ms.length = ns.length
      case neg => rw [if_neg hl] at q; exact False.elim q
      rw [if_pos hl] at q
      have t1 : toP 66 h (.tup xs) = some (.tuple (ms.map PyData.int)) := by rw [toP, toP_ints _ _ e3]; rfl
      have t2 : toP 66 h (.tup ys) = some (.tuple (ns.map PyData.int)) := by rw [toP, toP_ints _ _ e4]; rfl
      obtain ⟨as, ra⟩ := Dp.reads I _ _ _ (dp_of rh _ _ _ _ r1 t1) rx
      obtain ⟨bs, rb⟩ := Dp.reads I _ _ _ (dp_of rh _ _ _ _ r2 t2) ry
      have tk := toks_ints ms ns (by omega)
      have tk2 := toks_ints ns ms (by omega)
      refine PySem.W.gt_data ra rb (by rw [PySem.W.alike]; exact tk.1) (by simp) (by
        have := depth_ints ms
        have u := G.units
        simp only [PyData.depth]
        omega) ?_
      rw [PySem.W.dataLt_tuple, tk2.2]
      exact ⟨.bl _, H, I, rfl, q.ok rh _ (by simp [Rep])⟩
    · exact False.elim q
  · exact False.elim q
theorem valV_dct {kvs : List (Key × V)} {ks : List Int} (e : kvs.map (·.1) = ks.map Sum.inl) (i : Int) : (valV kvs (.inl i)).isSome = decide (i ∈ ks) := by
  induction kvs generalizing ks with
  | nil =>
    cases ks with
    | nil => simp [valV]
    | cons k ks => simp at e
  | cons p kvs ih =>
    cases ks with
    | nil => simp at e
    | cons k ks =>
      simp only [List.map_cons, List.cons.injEq] at e
      obtain ⟨e1, e2⟩ := e
      by_cases h : i = k
      · subst h
        rw [valV_pos e1]; simp
      · rw [valV_neg (by rw [e1]; intro z; exact h (Sum.inl.inj z).symm), ih e2]
        simp [h]
theorem valV_lk {K : Fr} {mu : List Addr} {H : Hp} {kvs : List (Key × V)} {ks : List Int} {ds : List D} {i : Int} {d : D} (e : kvs.map (·.1) = ks.map Sum.inl) (r : Reps K mu H ds (kvs.map (·.2))) (l : lkD ks ds i = some d) : ∃ v, valV kvs (.inl i) = some v ∧ Rep K mu H d v := by
  induction kvs generalizing ks ds with
  | nil =>
    cases ks with
    | nil => cases ds <;> simp [lkD] at l
    | cons k ks => simp at e
  | cons p kvs ih =>
    cases ks with
    | nil => simp at e
    | cons k ks =>
      simp only [List.map_cons, List.cons.injEq] at e
      obtain ⟨e1, e2⟩ := e
      cases ds with
      | nil => simp [lkD] at l
      | cons d' ds =>
        simp only [List.map_cons, Reps, List.cons.injEq] at r
        obtain ⟨w, ws, ⟨rfl, rfl⟩, rw', rs⟩ := r
        simp only [lkD] at l
        by_cases h : k = i
        · subst h
          rw [if_pos rfl] at l
          cases l
          exact ⟨_, valV_pos e1, rw'⟩
        · rw [if_neg h] at l
          rw [valV_neg (by rw [e1]; intro z; exact h (Sum.inl.inj z))]
          exact ih e2 rs l
theorem eqX_cases (h : Hh) (x y : D) : (∃ a b, x = .str a ∧ y = .str b ∧ eqX h x y = some (decide (a = b))) ∨ eqX h x y = eqD h x y := by
  unfold eqX
  split
  · exact .inl ⟨_, _, rfl, rfl, rfl⟩
  · exact .inr rfl
include G in
theorem r_cmp (op : Cop) : OpR X (compareOp (copOf op)) (rB X.K W (cmpop op)) := by
  cases op with
  | eq =>
    intro pins s σ H x y v u Q I rx ry hh
    obtain ⟨dx, dy, h, mu, rh, r1, r2, q⟩ := hh
    simp only [cmpop] at q
    rcases eqX_cases h dx dy with ⟨x1, y1, rfl, rfl, ee⟩ | ee
    · rw [ee] at q
      simp only [Rep] at r1 r2
      subst r1 r2
      refine op_eq pins s σ H _ _ v u Q I rx ry ⟨rfl, q.ok rh _ ?_⟩
      simp only [Rep]
      simp
    rw [ee] at q
    cases e : eqD h dx dy with
    | none =>
      rw [e] at q
      exact False.elim q
    | some b =>
      rw [e] at q
      obtain ⟨d, d', a1, a2, a3, a4, rfl⟩ := eqD_of rh r1 r2 e
      exact op_eqD G.units pins s σ H _ _ v u Q I rx ry ⟨d, d', a1, a2, a3, a4, q.ok rh _ (by simp [Rep])⟩
  | ne =>
    intro pins s σ H x y v u Q I rx ry hh
    obtain ⟨dx, dy, h, mu, rh, r1, r2, q⟩ := hh
    simp only [cmpop] at q
    rcases eqX_cases h dx dy with ⟨x1, y1, rfl, rfl, ee⟩ | ee
    · rw [ee] at q
      simp only [Rep] at r1 r2
      subst r1 r2
      refine op_ne pins s σ H _ _ v u Q I rx ry ⟨rfl, q.ok rh _ ?_⟩
      simp only [Rep]
      simp
    rw [ee] at q
    cases e : eqD h dx dy with
    | none =>
      rw [e] at q
      exact False.elim q
    | some b =>
      rw [e] at q
      obtain ⟨d, d', a1, a2, a3, a4, rfl⟩ := eqD_of rh r1 r2 e
      exact op_neD G.units pins s σ H _ _ v u Q I rx ry ⟨d, d', a1, a2, a3, a4, q.ok rh _ (by simp [Rep])⟩
  | lt => exact r_lt G
  | le => exact r_cmpI op_le
  | gt => exact r_gt G
  | ge => exact r_cmpI op_ge
  | is =>
    intro pins s σ H x y v u Q I rx ry hh
    obtain ⟨dx, dy, h, mu, rh, r1, r2, q⟩ := hh
    simp only [cmpop] at q
    split at q
    · simp only [Rep] at r2
      subst r2
      refine op_isN pins s σ H _ _ v u Q I rx ry ⟨rfl, q.ok rh _ ?_⟩
      cases dx <;> simp only [Rep] at r1 ⊢ <;> first | (subst r1; rfl) | (obtain ⟨_, rfl, _⟩ := r1; rfl) | (obtain ⟨_, _, rfl, _⟩ := r1; rfl)
    · split at q
      · simp only [Rep] at r1 r2
        subst r1 r2
        exact op_isBl pins s σ H _ _ v u Q I rx ry ⟨_, _, rfl, rfl, q.ok rh _ (by simp [Rep])⟩
      · exact False.elim q
    · exact False.elim q
  | isnot =>
    intro pins s σ H x y v u Q I rx ry hh
    obtain ⟨dx, dy, h, mu, rh, r1, r2, q⟩ := hh
    simp only [cmpop] at q
    split at q
    · simp only [Rep] at r2
      subst r2
      refine op_notN pins s σ H _ _ v u Q I rx ry ⟨rfl, q.ok rh _ ?_⟩
      cases dx <;> simp only [Rep] at r1 ⊢ <;> first | (subst r1; rfl) | (obtain ⟨_, rfl, _⟩ := r1; rfl) | (obtain ⟨_, _, rfl, _⟩ := r1; rfl)
    · split at q
      · simp only [Rep] at r1 r2
        subst r1 r2
        exact op_notBl pins s σ H _ _ v u Q I rx ry ⟨_, _, rfl, rfl, q.ok rh _ (by simp [Rep])⟩
      · exact False.elim q
    · exact False.elim q
  | «in» =>
    intro pins s σ H x y v u Q I rx ry hh
    obtain ⟨dx, dy, h, mu, rh, r1, r2, q⟩ := hh
    by_cases hd : ∃ ks ds, dy = .dct ks ds
    · obtain ⟨ks, ds, rfl⟩ := hd
      simp only [cmpop] at q
      split at q <;> first | exact False.elim q | skip
      rename_i i
      simp only [Rep] at r1 r2
      subst r1
      obtain ⟨a, rfl, o, kvs, e1, e2, _⟩ := r2
      cases ry
      refine d_in (by have := G.units; omega) I (.inl ⟨kvs, .inl i, .inr ⟨o, e1⟩, rfl, rfl⟩) rx fun s' I' => ⟨.bl _, H, I', rfl, ?_⟩
      rw [valV_dct e2 i]
      exact q.ok rh _ (by simp [Rep])
    by_cases hs : ∃ z, dy = .str z
    · obtain ⟨z, rfl⟩ := hs
      simp only [cmpop] at q
      split at q <;> first | exact False.elim q | skip
      rename_i a
      split at q <;> first | exact False.elim q | skip
      rename_i c ec
      have := signOf_of ec
      subst this
      simp only [Rep] at r1 r2
      exact op_in_sign pins s σ H _ _ v u Q I rx ry ⟨c, z, r1, r2, q.ok rh _ (by simp [Rep])⟩
    replace q : pO X.K W mu H (ofB h (inD h dx dy)) (fun d mu' H' _ => ∀ v, Rep X.K mu' H' d v → Q v H') := by
      cases dy <;> first | exact q | exact (hd ⟨_, _, rfl⟩).elim | exact (hs ⟨_, rfl⟩).elim
    cases e : inD h dx dy with
    | none =>
      rw [e] at q
      exact False.elim q
    | some b =>
      rw [e] at q
      obtain ⟨d, ds, a1, a2, a3, a4, a5, rfl⟩ := inD_of rh r1 r2 e
      obtain ⟨as, p1⟩ := Dp.reads I d x v a1 rx
      have hu : X.A.units + 1 + min (PyData.depthAll ds) d.depth < cLine := by
        have := G.units
        have : min (PyData.depthAll ds) d.depth ≤ d.depth := Nat.min_le_right _ _
        omega
      have hq := q.ok rh (.bl (ds.any fun z => PyData.eqv z d)) (by simp [Rep])
      rcases a2 with a2 | a2
      · obtain ⟨bs, p2⟩ := Dp.reads I _ y u a2 ry
        exact SeqAt.in_list_data p2 p1 (PyData.plainAll_of_canLay0 _ a4) (PyData.plain_of_canLay0 _ a3) hu ⟨.bl _, H, I, rfl, hq⟩
      · obtain ⟨bs, p2⟩ := Dp.reads I _ y u a2 ry
        exact SeqAt.in_tuple_data p2 p1 (PyData.plainAll_of_canLay0 _ a4) (PyData.plain_of_canLay0 _ a3) hu ⟨.bl _, H, I, rfl, hq⟩
  | notin =>
    intro pins s σ H x y v u Q I rx ry hh
    obtain ⟨dx, dy, h, mu, rh, r1, r2, q⟩ := hh
    by_cases hd : ∃ ks ds, dy = .dct ks ds
    · obtain ⟨ks, ds, rfl⟩ := hd
      simp only [cmpop] at q
      split at q <;> first | exact False.elim q | skip
      rename_i i
      simp only [Rep] at r1 r2
      subst r1
      obtain ⟨a, rfl, o, kvs, e1, e2, _⟩ := r2
      cases ry
      refine d_notIn (by have := G.units; omega) I (.inl ⟨kvs, .inl i, .inr ⟨o, e1⟩, rfl, rfl⟩) rx fun s' I' => ⟨.bl _, H, I', rfl, ?_⟩
      rw [valV_dct e2 i]
      exact q.ok rh _ (by simp [Rep])
    by_cases hs : ∃ z, dy = .str z
    · obtain ⟨z, rfl⟩ := hs
      simp only [cmpop] at q
      split at q <;> first | exact False.elim q | skip
      rename_i a
      split at q <;> first | exact False.elim q | skip
      rename_i c ec
      have := signOf_of ec
      subst this
      simp only [Rep] at r1 r2
      exact op_notIn_sign pins s σ H _ _ v u Q I rx ry ⟨c, z, r1, r2, q.ok rh _ (by simp [Rep])⟩
    replace q : pO X.K W mu H (ofB h ((inD h dx dy).map not)) (fun d mu' H' _ => ∀ v, Rep X.K mu' H' d v → Q v H') := by
      cases dy <;> first | exact q | exact (hd ⟨_, _, rfl⟩).elim | exact (hs ⟨_, rfl⟩).elim
    cases e : inD h dx dy with
    | none =>
      rw [e] at q
      exact False.elim q
    | some b =>
      rw [e] at q
      obtain ⟨d, ds, a1, a2, a3, a4, a5, rfl⟩ := inD_of rh r1 r2 e
      obtain ⟨as, p1⟩ := Dp.reads I d x v a1 rx
      have hu : X.A.units + 1 + min (PyData.depthAll ds) d.depth < cLine := by
        have := G.units
        have : min (PyData.depthAll ds) d.depth ≤ d.depth := Nat.min_le_right _ _
        omega
      have hq := q.ok rh (.bl (!ds.any fun z => PyData.eqv z d)) (by simp [Rep])
      rcases a2 with a2 | a2
      · obtain ⟨bs, p2⟩ := Dp.reads I _ y u a2 ry
        exact SeqAt.notIn_list_data p2 p1 (PyData.plainAll_of_canLay0 _ a4) (PyData.plain_of_canLay0 _ a3) hu ⟨.bl _, H, I, rfl, hq⟩
      · obtain ⟨bs, p2⟩ := Dp.reads I _ y u a2 ry
        exact SeqAt.notIn_tuple_data p2 p1 (PyData.plainAll_of_canLay0 _ a4) (PyData.plain_of_canLay0 _ a3) hu ⟨.bl _, H, I, rfl, hq⟩

/-! ### calls of built-ins -/
theorem reps1 {K : Fr} {mu : List Addr} {H : Hp} {d : D} {vs : List V} (r : Reps K mu H [d] vs) : ∃ v, vs = [v] ∧ Rep K mu H d v := by
  simp only [Reps] at r
  obtain ⟨w, ws, rfl, r, rfl⟩ := r
  exact ⟨w, rfl, r⟩
theorem reps2 {K : Fr} {mu : List Addr} {H : Hp} {d e : D} {vs : List V} (r : Reps K mu H [d, e] vs) : ∃ v w, vs = [v, w] ∧ Rep K mu H d v ∧ Rep K mu H e w := by
  simp only [Reps] at r
  obtain ⟨w, ws, rfl, r, w', ws', rfl, r', rfl⟩ := r
  exact ⟨w, w', rfl, r, r'⟩
theorem c_abs : CallR X (.builtin "abs") (rC X.K W fAbs) := by
  intro pins s σ H xs us Q I r hh
  obtain ⟨ds, h, mu, rh, rs, q⟩ := hh
  unfold fAbs at q
  split at q <;> first | exact False.elim q | skip
  obtain ⟨v, rfl, r1⟩ := reps1 rs
  simp only [Rep] at r1
  subst r1
  exact call_abs pins s σ H _ us Q I r ⟨_, rfl, q.ok rh _ (by simp [Rep])⟩
theorem c_len : CallR X (.builtin "len") (rC X.K W fLen) := by
  intro pins s σ H xs us Q I r hh
  obtain ⟨ds, h, mu, rh, rs, q⟩ := hh
  unfold fLen at q
  split at q
  · obtain ⟨v, rfl, r1⟩ := reps1 rs
    obtain ⟨hz, q⟩ := pO.need q
    simp only [Rep] at r1
    subst r1
    exact call_len_str pins s σ H _ us Q I r ⟨_, rfl, hz, q.ok rh _ (by simp [Rep])⟩
  · obtain ⟨v, rfl, r1⟩ := reps1 rs
    split at q
    · rename_i e
      obtain ⟨a, ws, rfl, s1, q1⟩ := seqOf_of rh r1 e
      refine call_len_seq pins s σ H _ us Q I r ⟨_, ws, rfl, s1, ?_⟩
      rw [← q1.length]
      exact q.ok rh _ (by simp [Rep])
    · exact False.elim q
  · exact False.elim q
theorem c_int : CallR X (.type "int") (rC X.K W fInt) := by
  intro pins s σ H xs us Q I r hh
  obtain ⟨ds, h, mu, rh, rs, q⟩ := hh
  unfold fInt at q
  split at q
  · obtain ⟨v, rfl, r1⟩ := reps1 rs
    simp only [Rep] at r1
    subst r1
    exact call_int1 pins s σ H _ us Q I r (.inl ⟨_, rfl, q.ok rh _ (by simp [Rep])⟩)
  · obtain ⟨v, rfl, r1⟩ := reps1 rs
    simp only [Rep] at r1
    subst r1
    exact call_int1 pins s σ H _ us Q I r (.inr ⟨_, rfl, q.ok rh _ (by simp [Rep])⟩)
  · obtain ⟨v, rfl, r1⟩ := reps1 rs
    split at q <;> first | exact False.elim q | skip
    rename_i hz
    split at q <;> first | exact False.elim q | skip
    rename_i n en
    simp only [Rep] at r1
    subst r1
    exact call_int_str pins s σ H _ us Q I r ⟨_, n, rfl, en, hz, q.ok rh _ (by simp [Rep])⟩
  · exact False.elim q
theorem c_str : CallR X (.type "str") (rC X.K W fStr) := by
  intro pins s σ H xs us Q I r hh
  obtain ⟨ds, h, mu, rh, rs, q⟩ := hh
  unfold fStr at q
  split at q
  · obtain ⟨v, rfl, r1⟩ := reps1 rs
    split at q <;> first | exact False.elim q | skip
    rename_i hz
    simp only [Rep] at r1
    subst r1
    exact call_str_int pins s σ H _ us Q I r ⟨_, rfl, hz, q.ok rh _ (by simp only [Rep])⟩
  · obtain ⟨v, rfl, r1⟩ := reps1 rs
    simp only [Rep] at r1
    subst r1
    exact SkE.call_str_str pins s σ H _ us Q I r ⟨_, rfl, q.ok rh _ (by simp [Rep])⟩
  · exact False.elim q
theorem bools_of {K : Fr} {mu : List Addr} {H : Hp} : ∀ {ds : List D} {ws : List V} {bs : List Bool}, Reps K mu H ds ws → boolsOf ds = some bs → ws = bs.map V.bl
  | [], ws, ns, r, e => by
    simp only [boolsOf, Option.some.injEq, Reps] at e r
    subst e
    subst r
    rfl
  | d :: ds, ws, ns, r, e => by
    cases d <;> simp only [boolsOf, reduceCtorEq, Option.map_eq_some_iff] at e
    obtain ⟨ms, e, rfl⟩ := e
    simp only [Reps, Rep] at r
    obtain ⟨w, us, rfl, rfl, rs⟩ := r
    rw [bools_of rs e]
    rfl
theorem strs_of {K : Fr} {mu : List Addr} {H : Hp} : ∀ {ds : List D} {ws : List V} {bs : List Str}, Reps K mu H ds ws → strsOf ds = some bs → ws = bs.map V.str
  | [], ws, ns, r, e => by
    simp only [strsOf, Option.some.injEq, Reps] at e r
    subst e
    subst r
    rfl
  | d :: ds, ws, ns, r, e => by
    cases d <;> simp only [strsOf, reduceCtorEq, Option.map_eq_some_iff] at e
    obtain ⟨ms, e, rfl⟩ := e
    simp only [Reps, Rep] at r
    obtain ⟨w, us, rfl, rfl, rs⟩ := r
    rw [strs_of rs e]
    rfl
theorem reps_strs {K : Fr} {mu : List Addr} {H : Hp} : ∀ ns : List Str, Reps K mu H (ns.map D.str) (ns.map V.str)
  | [] => by simp [Reps]
  | n :: ns => by
    simp only [List.map_cons, Reps]
    exact ⟨_, _, rfl, by simp [Rep], reps_strs ns⟩
include G in
theorem c_all : CallR X (.builtin "all") (rC X.K W fAll) := by
  intro pins s σ H xs us Q I r hh
  obtain ⟨ds, h, mu, rh, rs, q⟩ := hh
  unfold fAll at q
  split at q <;> first | exact False.elim q | skip
  split at q <;> first | exact False.elim q | skip
  rename_i e1
  split at q <;> first | exact False.elim q | skip
  rename_i e2
  obtain ⟨v, rfl, r1⟩ := reps1 rs
  obtain ⟨a, ws, rfl, s1, q1⟩ := seqL_of rh r1 e1
  have := bools_of q1 e2
  subst this
  exact cr_all G.calm pins s σ H _ us Q I r ⟨a, _, rfl, s1, q.ok rh _ (by simp [Rep])⟩
theorem kit_tab (K : Fr) : ∀ a ∈ ["NoneType", "bool", "int", "str", "tuple", "list", "dict"], ∀ t ∈ ["int", "bool", "str", "tuple", "list", "dict"], kitB a t = some (a == t || (a == "bool" && t == "int")) := by decide +kernel
theorem seqT_ty {K : Fr} {H : Hp} {a : Addr} {ws : List V} (h : SqT K H a ws) : TyX K H (.ref a) (.type "tuple") := by
  rcases h with (h | ⟨o, h⟩) | ⟨o, its, n, h1, h2, _⟩
  · exact .base (.tup h)
  · exact .fTuple h
  · exact .kTuple h1 h2
theorem seqL_ty {K : Fr} {H : Hp} {a : Addr} {ws : List V} (h : SqL K H a ws) : TyX K H (.ref a) (.type "list") := by
  rcases h with (h | ⟨o, h⟩) | ⟨o, its, n, h1, h2, _⟩
  · exact .base (.lst h)
  · exact .base (.frz h)
  · exact .kList h1 h2
theorem ty_of {K : Fr} {mu : List Addr} {H : Hp} {h : Hh} {d : D} {v : V} {n : String} (rh : RelH K mu H h) (r : Rep K mu H d v) (e : tyOf d = some n) : TyX K H v (.type n) ∧ n ∈ ["NoneType", "bool", "int", "str", "tuple", "list", "dict"] := by
  cases d with
  | non => simp only [tyOf, Option.some.injEq, Rep] at e r; subst e; subst r; exact ⟨.base .non, by decide⟩
  | bl b => simp only [tyOf, Option.some.injEq, Rep] at e r; subst e; subst r; exact ⟨.base (.bl _), by decide⟩
  | int b => simp only [tyOf, Option.some.injEq, Rep] at e r; subst e; subst r; exact ⟨.base (.int _), by decide⟩
  | str b => simp only [tyOf, Option.some.injEq, Rep] at e r; subst e; subst r; exact ⟨.base (.str _), by decide⟩
  | ty b => cases e
  | dct ks ds =>
    cases e
    obtain ⟨a, rfl, o, kvs, e1, _⟩ := r
    exact ⟨.fDict e1, by decide⟩
  | obj n => cases e
  | tup ds =>
    cases e
    obtain ⟨a, ws, rfl, s1, q1⟩ := r
    exact ⟨seqT_ty s1.t, by decide⟩
  | frz ds =>
    cases e
    obtain ⟨a, ws, rfl, s1, q1⟩ := seqL_of (h := h) rh r rfl
    exact ⟨seqL_ty s1, by decide⟩
  | ref m =>
    cases e
    simp only [Rep] at r
    obtain ⟨a, rfl, em, ws, el⟩ := r
    exact ⟨seqL_ty (.inl (.inl el)), by decide⟩
theorem c_isi : CallR X (.builtin "isinstance") (rC X.K W fIsi) := by
  intro pins s σ H xs us Q I r hh
  obtain ⟨ds, h, mu, rh, rs, q⟩ := hh
  unfold fIsi at q
  split at q <;> first | exact False.elim q | skip
  rename_i d t
  obtain ⟨v, w, rfl, r1, r2⟩ := reps2 rs
  simp only [Rep] at r2
  subst r2
  unfold isInst at q
  cases e : tyOf d with
  | none =>
    rw [e] at q
    exact False.elim q
  | some n =>
    rw [e] at q
    simp only at q
    split at q
    · rename_i ht
      obtain ⟨ty, hn⟩ := ty_of rh r1 e
      exact call_isi pins s σ H _ us Q I r ⟨v, .ty t, _, _, _, rfl, .ty t, ty, kit_ty (kit_tab X.K n hn t ht), q.ok rh _ (by simp [Rep])⟩
    · exact False.elim q
include G in
theorem c_sum : CallR X (.builtin "sum") (rC X.K W fSum) := by
  intro pins s σ H xs us Q I r hh
  obtain ⟨ds, h, mu, rh, rs, q⟩ := hh
  unfold fSum at q
  split at q <;> first | exact False.elim q | skip
  split at q <;> first | exact False.elim q | skip
  rename_i e1
  split at q <;> first | exact False.elim q | skip
  rename_i e2
  obtain ⟨v, rfl, r1⟩ := reps1 rs
  obtain ⟨a, ws, rfl, s1, q1⟩ := seqL_of rh r1 e1
  have := ints_of q1 e2
  subst this
  exact cr_sum G.calm pins s σ H _ us Q I r ⟨a, _, rfl, s1, q.ok rh _ (by simp [Rep])⟩
theorem c_list : CallR X (.type "list") (rC X.K W fList) := by
  intro pins s σ H xs us Q I r hh
  obtain ⟨ds, h, mu, rh, rs, q⟩ := hh
  unfold fList at q
  split at q <;> first | exact False.elim q | skip
  split at q <;> first | exact False.elim q | skip
  rename_i e1
  obtain ⟨v, rfl, r1⟩ := reps1 rs
  obtain ⟨a, ws, rfl, s1, q1⟩ := seqOf_of rh r1 e1
  exact call_list_of pins s σ H _ us Q I r ⟨a, ws, rfl, s1, (mkL_of rh q1 q).2⟩
theorem c_tuple : CallR X (.type "tuple") (rC X.K W fTuple) := by
  intro pins s σ H xs us Q I r hh
  obtain ⟨ds, h, mu, rh, rs, q⟩ := hh
  unfold fTuple at q
  split at q <;> first | exact False.elim q | skip
  rename_i d
  split at q <;> first | exact False.elim q | skip
  rename_i xs' e1
  obtain ⟨v, rfl, r1⟩ := reps1 rs
  cases d with
  | tup es =>
    simp only [seqOf, Option.some.injEq] at e1
    subst e1
    have r1' := r1
    simp only [Rep] at r1
    obtain ⟨a, ws, rfl, s1, q1⟩ := r1
    exact call_tuple_N pins s σ H _ us Q I r ⟨a, ws, rfl, .inr ⟨s1.t, q.ok rh _ r1'⟩⟩
  | frz es =>
    obtain ⟨a, ws, rfl, s1, q1⟩ := seqL_of (h := h) (ds := xs') rh r1 (by simpa [seqL, seqOf] using e1)
    exact call_tuple_N pins s σ H _ us Q I r ⟨a, ws, rfl, .inl ⟨s1, mkT_of rh q1 q⟩⟩
  | ref n =>
    obtain ⟨a, ws, rfl, s1, q1⟩ := seqL_of (h := h) (ds := xs') rh r1 (by simpa [seqL, seqOf] using e1)
    exact call_tuple_N pins s σ H _ us Q I r ⟨a, ws, rfl, .inl ⟨s1, mkT_of rh q1 q⟩⟩
  | _ => simp [seqOf] at e1
include G in
theorem c_max : CallR X (.builtin "max") (rC X.K W fMax) := by
  intro pins s σ H xs us Q I r hh
  obtain ⟨ds, h, mu, rh, rs, q⟩ := hh
  unfold fMax at q
  split at q <;> first | exact False.elim q | skip
  · obtain ⟨v, w, rfl, r1, r2⟩ := reps2 rs
    simp only [Rep] at r1 r2
    subst r1 r2
    exact call_max2 G.calm pins s σ H _ us Q I r ⟨_, _, rfl, q.ok rh _ (by simp [Rep])⟩
  · split at q <;> first | exact False.elim q | skip
    rename_i e1
    split at q <;> first | exact False.elim q | skip
    rename_i e2
    split at q <;> first | exact False.elim q | skip
    rename_i m e3
    obtain ⟨v, rfl, r1⟩ := reps1 rs
    obtain ⟨a, ws, rfl, s1, q1⟩ := seqL_of rh r1 e1
    have := ints_of q1 e2
    subst this
    obtain ⟨hm, hle⟩ := List.max?_eq_some_iff.mp e3
    refine cr_max G.calm pins s σ H _ us Q I r ⟨a, _, rfl, s1, List.length_pos_of_mem hm, fun m' hm' hle' => ?_⟩
    have e : m' = m := by
      have a1 := hle m' hm'
      have a2 := hle' m hm
      omega
    rw [e]
    exact q.ok rh _ (by simp [Rep])
include G in
theorem c_min : CallR X (.builtin "min") (rC X.K W fMin) := by
  intro pins s σ H xs us Q I r hh
  obtain ⟨ds, h, mu, rh, rs, q⟩ := hh
  unfold fMin at q
  split at q <;> first | exact False.elim q | skip
  obtain ⟨v, w, rfl, r1, r2⟩ := reps2 rs
  simp only [Rep] at r1 r2
  subst r1 r2
  exact call_min2 G.calm pins s σ H _ us Q I r ⟨_, _, rfl, q.ok rh _ (by simp [Rep])⟩

theorem reps_ints {K : Fr} {mu : List Addr} {H : Hp} : ∀ ns : List Int, Reps K mu H (ns.map D.int) (ns.map V.int)
  | [] => by simp [Reps]
  | n :: ns => by
    simp only [List.map_cons, Reps]
    exact ⟨_, _, rfl, by simp [Rep], reps_ints ns⟩
theorem prs_of {K : Fr} {mu : List Addr} {H : Hp} : ∀ {xs : List D} {ws : List V} {ps : List (Int × Int)}, Reps K mu H xs ws → pairsOf xs = some ps → ps.length = ws.length ∧ ∀ (i : Nat) (p : Int × Int) (v : V), ps[i]? = some p → ws[i]? = some v → ∃ t : Addr, v = V.ref t ∧ SqN K H t [.int p.1, .int p.2]
  | [], ws, ps, r, e => by
    simp only [Reps, pairsOf, Option.some.injEq] at r e
    subst r e
    exact ⟨rfl, fun i p v h => by simp at h⟩
  | x :: xs, ws, ps, r, e => by
    simp only [Reps] at r
    obtain ⟨w, ws, rfl, r, rs⟩ := r
    unfold pairsOf at e
    split at e
    · rename_i p qs e1 e2
      cases e
      obtain ⟨l, g⟩ := prs_of rs e2
      refine ⟨by simp [l], fun i p' v h1 h2 => ?_⟩
      cases i with
      | zero =>
        simp only [List.getElem?_cons_zero, Option.some.injEq] at h1 h2
        subst h1 h2
        unfold pairOf at e1
        split at e1
        · cases e1
          simp only [Rep, Reps] at r
          obtain ⟨t, us, rfl, st, w1, us1, rfl, rfl, w2, us2, rfl, rfl, rfl⟩ := r
          exact ⟨t, rfl, st⟩
        · cases e1
      | succ i => exact g i p' v (by simpa using h1) (by simpa using h2)
    · cases e
open Classical in
noncomputable def kOf (K : Fr) (H : Hp) (v : V) : Int × Int := if h : ∃ p : Int × Int, ∃ t : Addr, v = V.ref t ∧ SqN K H t [.int p.1, .int p.2] then Classical.choose h else (0, 0)
theorem kOf_spec {K : Fr} {H : Hp} {v : V} {p : Int × Int} {t : Addr} (e : v = .ref t) (st : SqN K H t [.int p.1, .int p.2]) : ∃ t, v = .ref t ∧ SqN K H t [.int (kOf K H v).1, .int (kOf K H v).2] := by
  have h : ∃ p : Int × Int, ∃ t : Addr, v = V.ref t ∧ SqN K H t [.int p.1, .int p.2] := ⟨p, t, e, st⟩
  unfold kOf
  rw [dif_pos h]
  exact Classical.choose_spec h
/-- what sorted does of pairs: of a list or a tuple -/
theorem pairs_go {mu : List Addr} {H : Hp} {h : Hh} {pins : List (Addr × Obj)} {s : Shared} {σ : L2.St} {Q : VK} {ws : List V} {ds : List D} {ps : List (Int × Int)} (I : Inv X pins σ H s) (rh : RelH X.K mu H h) (q1 : Reps X.K mu H ds ws) (e3 : pairsOf ds = some ps)
    (q : pO X.K W mu H (mkL ((ps.mergeSort leP).map fun p => D.tup [.int p.1, .int p.2]) h) (fun d mu' H' _ => ∀ v, Rep X.K mu' H' d v → Q v H')) :
    (∀ x ∈ ws, ∃ t, x = V.ref t ∧ SqN X.K H t [.int (kOf X.K H x).1, .int (kOf X.K H x).2]) ∧ ∀ ys p, SrtO.Srtd (ltP (kOf X.K H)) ys → SrtO.Stb (ltP (kOf X.K H)) ys ws → H p = none → Q (.ref p) (upd H p (.lst ys)) := by
    obtain ⟨hl, g⟩ := prs_of q1 e3
    have at_ : ∀ (i : Nat) (v : V), ws[i]? = some v → ∃ p, ps[i]? = some p ∧ ∃ t, v = .ref t ∧ SqN X.K H t [.int p.1, .int p.2] := fun i v hv => by
      have hi : i < ps.length := by rw [hl]; exact (List.getElem?_eq_some_iff.mp hv).1
      exact ⟨_, List.getElem?_eq_getElem hi, g i _ v (List.getElem?_eq_getElem hi) hv⟩
    have hx : ∀ x ∈ ws, ∃ t, x = V.ref t ∧ SqN X.K H t [.int (kOf X.K H x).1, .int (kOf X.K H x).2] := fun x hx => by
      obtain ⟨i, hi⟩ := List.mem_iff_getElem?.mp hx
      obtain ⟨p, _, t, e, st⟩ := at_ i x hi
      exact kOf_spec e st
    have hk : ws.map (kOf X.K H) = ps := by
      refine List.ext_getElem? fun i => ?_
      rw [List.getElem?_map]
      cases hw : ws[i]? with
      | none =>
        have : ws.length ≤ i := List.getElem?_eq_none_iff.mp hw
        exact (List.getElem?_eq_none (by omega)).symm
      | some v =>
        obtain ⟨p, hp, t, e, st⟩ := at_ i v hw
        obtain ⟨t', e', st'⟩ := kOf_spec e st
        rw [e] at e'
        cases e'
        have := I.tuple_inj st.t st'.t
        simp only [List.cons.injEq, V.int.injEq, and_true] at this
        rw [hp]
        exact congrArg some (Prod.ext this.1.symm this.2.symm)
    refine ⟨hx, fun ys p h1 h2 hn => ?_⟩
    have e4 : ys.map (kOf X.K H) = ps.mergeSort leP := by
      refine leP_sort ps _ ?_ ?_
      · rw [← hk]; exact h2.perm.map _
      · exact List.pairwise_map.mpr h1
    have hy : ∀ y ∈ ys, ∃ t, y = V.ref t ∧ SqN X.K H t [.int (kOf X.K H y).1, .int (kOf X.K H y).2] := fun y m => hx y (h2.perm.mem_iff.mp m)
    have hr : ∀ ys : List V, (∀ y ∈ ys, ∃ t, y = V.ref t ∧ SqN X.K H t [.int (kOf X.K H y).1, .int (kOf X.K H y).2]) → Reps X.K mu H ((ys.map (kOf X.K H)).map fun p => D.tup [.int p.1, .int p.2]) ys := fun ys => by
      induction ys with
      | nil => intro _; simp [Reps]
      | cons y ys ih =>
        intro hy
        simp only [List.map_cons, Reps]
        obtain ⟨t, e, st⟩ := hy y (by simp)
        refine ⟨y, ys, rfl, ?_, ih fun z hz => hy z (by simp [hz])⟩
        simp only [Rep, Reps]
        exact ⟨t, _, e, st, _, _, rfl, rfl, _, _, rfl, rfl, rfl⟩
    have hr' := hr ys hy
    rw [e4] at hr'
    exact (mkL_of rh hr' q).2 p hn
include G in
theorem c_sorted : CallR X (.builtin "sorted") (rC X.K W fSorted) := by
  intro pins s σ H xs us Q I r hh
  obtain ⟨ds, h, mu, rh, rs, q⟩ := hh
  unfold fSorted at q
  split at q <;> first | exact False.elim q | skip
  rename_i d
  obtain ⟨v, rfl, r1⟩ := reps1 rs
  split at q
  · rename_i e1
    obtain ⟨a, ws, rfl, s1, q1⟩ := seqL_of rh r1 e1
    split at q
    · rename_i ns e2
      have := ints_of q1 e2
      subst this
      refine cr_sortedI pins s σ H _ us Q I r ⟨a, _, rfl, s1, fun ns' p hp hs hn => ?_⟩
      rw [leI_sort _ _ hp hs]
      exact (mkL_of rh (reps_ints _) q).2 p hn
    · split at q <;> first | exact False.elim q | skip
      rename_i ps e3
      obtain ⟨hx, go⟩ := pairs_go I rh q1 e3 q
      exact cr_sortedQ pins s σ H _ us Q I r ⟨a, ws, kOf X.K H, rfl, s1, fun x m => (hx x m).imp fun t h => ⟨h.1, h.2.t⟩, go⟩
  · split at q <;> first | exact False.elim q | skip
    split at q <;> first | exact False.elim q | skip
    rename_i ps e3
    simp only [Rep] at r1
    obtain ⟨a, ws, rfl, s1, q1⟩ := r1
    obtain ⟨hx, go⟩ := pairs_go I rh q1 e3 q
    exact cr_sortedR pins s σ H _ us Q I r ⟨a, ws, kOf X.K H, rfl, s1.t, fun x m => (hx x m).imp fun t h => ⟨h.1, h.2.t⟩, go⟩
include G in
theorem c_repr : CallR X (.builtin "repr") (rC X.K W fRepr) := by
  intro pins s σ H xs us Q I r hh
  obtain ⟨ds, h, mu, rh, rs, q⟩ := hh
  unfold fRepr at q
  split at q <;> first | exact False.elim q | skip
  rename_i d
  split at q <;> first | exact False.elim q | skip
  rename_i p e1
  split at q <;> first | exact False.elim q | skip
  rename_i hb
  simp only [Bool.and_eq_true, decide_eq_true_eq] at hb
  obtain ⟨v, rfl, r1⟩ := reps1 rs
  have hsh := hb.1.1
  unfold SeqAt.shaped at hsh
  simp only [Bool.and_eq_true, decide_eq_true_eq] at hsh
  exact call_reprD G.guards G.units5 pins s σ H _ us Q I r ⟨v, p, rfl, dp_of rh _ _ _ _ r1 e1, hsh.1, hsh.2, hb.1.2, hb.2, q.ok rh _ (by simp [Rep])⟩
theorem c_never {f : Value} : CallR X f (rC X.K W fun _ _ => .stuck) := by
  intro pins s σ H xs us Q I r hh
  obtain ⟨ds, h, mu, rh, rs, q⟩ := hh
  exact False.elim q

/-- a built-in by its name -/
inductive BiKind where | fn (id : String) | ty (n : String)
def biOf : Bi → Str × BiKind
  | .abs => ("abs", .fn "abs")
  | .len => ("len", .fn "len")
  | .int => ("int", .ty "int")
  | .isinst => ("isinstance", .fn "isinstance")
  | .sum => ("sum", .fn "sum")
  | .list => ("list", .ty "list")
  | .tuple => ("tuple", .ty "tuple")
  | .max => ("max", .fn "max")
  | .min => ("min", .fn "min")
  | .range => ("range", .ty "range")
  | .enumerate => ("enumerate", .ty "enumerate")
  | .zip => ("zip", .ty "zip")
  | .sorted => ("sorted", .fn "sorted")
  | .repr => ("repr", .fn "repr")
  | .str => ("str", .ty "str")
  | .all => ("all", .fn "all")
variable {es : List Expr} {e : Expr} {ms : Env → Hh → Out (List D)} {p pos : Pos}
include G in
theorem s_bi (b : Bi) (hg : Gl X (biOf b).1) (hm : X.mg (biOf b).1 = none) (ha : PA X (e :: es) (tA X.K W ms))
    (he : starEach (e :: es) X.env = (false, eval e X.env) :: starEach es X.env) (hpl : (backTo pos (starEach es X.env)).any (·.1) = false) :
    PE X (.Call (.Name (biOf b).1 p) (e :: es) [] pos) (tE X.K W fun env h => (ms env h).bind (evB b)) := by
  cases b
  · exact weakE (pe_callB c_abs hg hm (by decide +kernel) ha (he := he) (hpl := hpl)) fun _ _ _ q => tCB_of q
  · exact weakE (pe_callB c_len hg hm (by decide +kernel) ha (he := he) (hpl := hpl)) fun _ _ _ q => tCB_of q
  · exact weakE (pe_callTy c_int hg hm (by decide +kernel) ha (he := he) (hpl := hpl)) fun _ _ _ q => tCB_of q
  · exact weakE (pe_callB c_isi hg hm (by decide +kernel) ha (he := he) (hpl := hpl)) fun _ _ _ q => tCB_of q
  · exact weakE (pe_callB (c_sum G) hg hm (by decide +kernel) ha (he := he) (hpl := hpl)) fun _ _ _ q => tCB_of q
  · exact weakE (pe_callTy c_list hg hm (by decide +kernel) ha (he := he) (hpl := hpl)) fun _ _ _ q => tCB_of q
  · exact weakE (pe_callTy c_tuple hg hm (by decide +kernel) ha (he := he) (hpl := hpl)) fun _ _ _ q => tCB_of q
  · exact weakE (pe_callB (c_max G) hg hm (by decide +kernel) ha (he := he) (hpl := hpl)) fun _ _ _ q => tCB_of q
  · exact weakE (pe_callB (c_min G) hg hm (by decide +kernel) ha (he := he) (hpl := hpl)) fun _ _ _ q => tCB_of q
  · exact weakE (pe_callTy (T := "range") c_never hg hm (by decide +kernel) ha (he := he) (hpl := hpl)) fun _ _ _ q => tCB_of q
  · exact weakE (pe_callTy (T := "enumerate") c_never hg hm (by decide +kernel) ha (he := he) (hpl := hpl)) fun _ _ _ q => tCB_of q
  · exact weakE (pe_callTy (T := "zip") c_never hg hm (by decide +kernel) ha (he := he) (hpl := hpl)) fun _ _ _ q => tCB_of q
  · exact weakE (pe_callB (c_sorted G) hg hm (by decide +kernel) ha (he := he) (hpl := hpl)) fun _ _ _ q => tCB_of q
  · exact weakE (pe_callB (c_repr G) hg hm (by decide +kernel) ha (he := he) (hpl := hpl)) fun _ _ _ q => tCB_of q
  · exact weakE (pe_callTy c_str hg hm (by decide +kernel) ha (he := he) (hpl := hpl)) fun _ _ _ q => tCB_of q
  · exact weakE (pe_callB (c_all G) hg hm (by decide +kernel) ha (he := he) (hpl := hpl)) fun _ _ _ q => tCB_of q
end
end Ip

/-! Ip, part D: expressions, comprehensions, loops, statements. -/
namespace Ip
open PySem PySem.Spec PyProof.Rows L2

section
variable {X : Cx} {W : EX} {ma mb mc : Env → Hh → Out D} {ms : Env → Hh → Out (List D)} {a b c e : Expr} {es : List Expr} {pos : Pos}

/-! ### expressions -/
theorem s_var {i : Nat} {x : Str} (hN : X.N[i]? = some x) (hv : Vis X.env.scope x) (hd : (x == ("__debug__" : Str)) = false) (hcd : (x == ("__classdict__" : Str)) = false) {C : CallT} : PE X (.Name x pos) (tE X.K W (ev C (.var i))) :=
  weakE (pe_var hN hv hd hcd) fun sg H Q q => by
    obtain ⟨env, h, mu, re, rh, q⟩ := q
    simp only [ev] at q
    split at q
    · rename_i d e
      obtain ⟨v, e1, r⟩ := re.at_ i d e
      exact ⟨v, e1, q.ok rh v r⟩
    · exact False.elim q
theorem s_con {d : D} {v : V} {m : Env → Hh → Out D} (h : PE X e (tC v)) (hr : ∀ mu H, Rep X.K mu H d v) (hm : ∀ env h, m env h = .ok d h) : PE X e (tE X.K W m) :=
  weakE h fun sg H Q q => by
    obtain ⟨env, h, mu, re, rh, q⟩ := q
    rw [hm] at q
    exact q.ok rh v (hr mu H)
theorem s_nil : PA X [] (tA X.K W fun _ h => .ok [] h) := weakA pa_nil fun sg H Q q => by
  obtain ⟨env, h, mu, re, rh, q⟩ := q
  exact q.ok rh [] (by simp [Reps])
theorem s_cons (ha : PE X e (tE X.K W ma)) (hr : PA X es (tA X.K W ms)) (hs : starEach (e :: es) X.env = (false, eval e X.env) :: starEach es X.env) :
    PA X (e :: es) (tA X.K W fun env h => (ma env h).bind fun x h1 => (ms env h1).bind fun xs h2 => .ok (x :: xs) h2) :=
  weakA (pa_cons ha hr hs) fun _ _ _ q => tCons_of q
theorem s_tup {k : Nat} (h : PA X es (tA X.K W ms)) : PE X (.Tuple es k pos) (tE X.K W fun env h => (ms env h).bind fun ds h1 => need (ds.length ≤ sizeLine) (.ok (.tup ds) h1)) :=
  weakE (pe_tupN h) fun sg H Q q => by
    obtain ⟨env, h, mu, re, rh, q⟩ := q
    refine ⟨env, h, mu, re, rh, q.bind.mono fun ds mu1 H1 h1 x1 r1 q1 vs rs => ?_⟩
    obtain ⟨hz, q1⟩ := pO.need q1
    exact ⟨by rw [← rs.length]; exact hz, mkT_of r1 rs q1⟩
theorem s_lst (h : PA X es (tA X.K W ms)) : PE X (.List es pos) (tE X.K W fun env h => (ms env h).bind fun ds h1 => mkL ds h1) :=
  weakE (pe_lst h) fun sg H Q q => by
    obtain ⟨env, h, mu, re, rh, q⟩ := q
    exact ⟨env, h, mu, re, rh, q.bind.mono fun ds mu1 H1 h1 x1 r1 q1 vs rs => mkL_of r1 rs q1⟩
theorem s_bin (G : Good X) {op : Bop} (ha : PE X a (tE X.K W ma)) (hb : PE X b (tE X.K W mb)) : PE X (.BinOp a (opOf op) b pos) (tE X.K W fun env h => (ma env h).bind fun x h1 => (mb env h1).bind fun y h2 => binop op x y h2) :=
  weakE (pe_op (r_bin G op) ha hb) fun _ _ _ q => tOp_of q
theorem s_neg (ha : PE X a (tE X.K W ma)) : PE X (.UnaryOp .USub a pos) (tE X.K W fun env h => (ma env h).bind fun x h1 => match x with | .int i => .ok (.int (-i)) h1 | _ => .stuck) :=
  weakE (pe_un un_neg ha) fun sg H Q q => by
    obtain ⟨env, h, mu, re, rh, q⟩ := q
    refine ⟨env, h, mu, re, rh, q.bind.mono fun d mu1 H1 h1 x1 r1 q1 v rv => ?_⟩
    split at q1
    · simp only [Rep] at rv
      subst rv
      exact ⟨_, rfl, q1.ok r1 _ (by simp [Rep])⟩
    · exact False.elim q1
theorem s_cmp (G : Good X) {op : Cop} (ha : PE X a (tE X.K W ma)) (hb : PE X b (tE X.K W mb)) (hm : behindInMarks (copOf op) b = false) :
    PE X (.Compare a [copOf op] [b] pos) (tE X.K W fun env h => (ma env h).bind fun x h1 => (mb env h1).bind fun y h2 => cmpop op x y h2) :=
  weakE (pe_cmpR (r_cmp G op) ha hb hm) fun _ _ _ q => tOp_of q
/-- an outcome that is a truth -/
theorem asB_of {K : Fr} {mu : List Addr} {H : Hp} {h : Hh} {d : D} {v : V} {R : Bool → List Addr → Hp → Hh → Prop} (rh : RelH K mu H h) (r : Rep K mu H d v) (q : pO K W mu H (asB d h) R) : ∃ k, v = .bl k ∧ R k mu H h := by
  unfold asB at q
  split at q
  · simp only [Rep] at r
    exact ⟨_, r, q.ok rh⟩
  · exact False.elim q
theorem s_cmpT (G : Good X) {op : Cop} (ha : PE X a (tE X.K W ma)) (hb : PE X b (tE X.K W mb)) (hm : behindInMarks (copOf op) b = false) :
    PT X (.Compare a [copOf op] [b] pos) (tT X.K W fun env h => ((ma env h).bind fun x h1 => (mb env h1).bind fun y h2 => cmpop op x y h2).bind asB) :=
  weakT (pt_cmpR (r_cmp G op) ha hb hm) fun sg H Q q => by
    show tOp _ _ _ sg H _
    refine tOp_of ?_
    obtain ⟨env, h, mu, re, rh, q⟩ := q
    exact ⟨env, h, mu, re, rh, q.bind.mono fun d mu1 H1 h1 x1 r1 q1 v rv => asB_of r1 rv q1⟩
theorem s_val {m : Env → Hh → Out D} (h : PE X e (tE X.K W m)) (he : ∀ whole, isTrue e X.env whole = (do let v ← whole; standAt e.pos; holding [v] (truthy v))) : PT X e (tT X.K W fun env h => (m env h).bind asB) :=
  weakT (pt_val h he) fun sg H Q q => by
    obtain ⟨env, h, mu, re, rh, q⟩ := q
    exact ⟨env, h, mu, re, rh, q.bind.mono fun d mu1 H1 h1 x1 r1 q1 v rv => asB_of r1 rv q1⟩
theorem s_and (ha : PE X a (tE X.K W ma)) {rest : List Expr} (hb : PE X (.BoolOp .And (b :: rest) pos) (tE X.K W mb)) :
    PE X (.BoolOp .And (a :: b :: rest) pos) (tE X.K W fun env h => (ma env h).bind fun x h1 => (asB x h1).bind fun c h2 => if c = true then mb env h2 else .ok (.bl false) h2) :=
  weakE (pe_and ha hb) fun sg H Q q => by
    obtain ⟨env, h, mu, re, rh, q⟩ := q
    refine ⟨env, h, mu, re, rh, q.bind.mono fun d mu1 H1 h1 x1 r1 q1 v rv => ?_⟩
    obtain ⟨k, rfl, q2⟩ := asB_of r1 rv q1.bind
    refine ⟨k, rfl, ?_⟩
    cases k with
    | true => rw [if_pos rfl] at q2 ⊢; exact ⟨env, h1, mu1, re.mono x1, r1, q2⟩
    | false => rw [if_neg Bool.false_ne_true] at q2 ⊢; exact q2.ok r1 _ (by simp [Rep])
theorem s_or (ha : PE X a (tE X.K W ma)) {rest : List Expr} (hb : PE X (.BoolOp .Or (b :: rest) pos) (tE X.K W mb)) :
    PE X (.BoolOp .Or (a :: b :: rest) pos) (tE X.K W fun env h => (ma env h).bind fun x h1 => (asB x h1).bind fun c h2 => if c = true then .ok (.bl true) h2 else mb env h2) :=
  weakE (pe_or ha hb) fun sg H Q q => by
    obtain ⟨env, h, mu, re, rh, q⟩ := q
    refine ⟨env, h, mu, re, rh, q.bind.mono fun d mu1 H1 h1 x1 r1 q1 v rv => ?_⟩
    obtain ⟨k, rfl, q2⟩ := asB_of r1 rv q1.bind
    refine ⟨k, rfl, ?_⟩
    cases k with
    | true => rw [if_pos rfl] at q2 ⊢; exact q2.ok r1 _ (by simp [Rep])
    | false => rw [if_neg Bool.false_ne_true] at q2 ⊢; exact ⟨env, h1, mu1, re.mono x1, r1, q2⟩
theorem s_not (ha : PE X a (tE X.K W ma)) : PE X (.UnaryOp .Not a pos) (tE X.K W fun env h => (ma env h).bind fun x h1 => (asB x h1).bind fun c h2 => .ok (.bl (!c)) h2) :=
  weakE (pe_not ha) fun sg H Q q => by
    obtain ⟨env, h, mu, re, rh, q⟩ := q
    refine ⟨env, h, mu, re, rh, q.bind.mono fun d mu1 H1 h1 x1 r1 q1 v rv => ?_⟩
    obtain ⟨k, rfl, q2⟩ := asB_of r1 rv q1.bind
    exact ⟨k, rfl, q2.ok r1 _ (by simp [Rep])⟩
variable {ta tb tc : Env → Hh → Out Bool}
theorem s_andT (ha : PT X a (tT X.K W ta)) {rest : List Expr} (hb : PW X (.BoolOp .And (b :: rest) pos) (tT X.K W tb)) :
    PW X (.BoolOp .And (a :: b :: rest) pos) (tT X.K W fun env h => (ta env h).bind fun c h2 => if c = true then tb env h2 else .ok false h2) :=
  ⟨fun whole pins s sg H Q I q => (pw_and ha hb).run whole pins s sg H Q I (by
    obtain ⟨env, h, mu, re, rh, q⟩ := q
    refine ⟨env, h, mu, re, rh, q.bind.mono fun k mu1 H1 h1 x1 r1 q2 => ?_⟩
    cases k with
    | true => rw [if_pos rfl] at q2 ⊢; exact ⟨env, h1, mu1, re.mono x1, r1, q2⟩
    | false => rw [if_neg Bool.false_ne_true] at q2 ⊢; exact q2.ok r1)⟩
theorem s_orT (ha : PT X a (tT X.K W ta)) {rest : List Expr} (hb : PW X (.BoolOp .Or (b :: rest) pos) (tT X.K W tb)) :
    PW X (.BoolOp .Or (a :: b :: rest) pos) (tT X.K W fun env h => (ta env h).bind fun c h2 => if c = true then .ok true h2 else tb env h2) :=
  ⟨fun whole pins s sg H Q I q => (pw_or ha hb).run whole pins s sg H Q I (by
    obtain ⟨env, h, mu, re, rh, q⟩ := q
    refine ⟨env, h, mu, re, rh, q.bind.mono fun k mu1 H1 h1 x1 r1 q2 => ?_⟩
    cases k with
    | true => rw [if_pos rfl] at q2 ⊢; exact q2.ok r1
    | false => rw [if_neg Bool.false_ne_true] at q2 ⊢; exact ⟨env, h1, mu1, re.mono x1, r1, q2⟩)⟩
theorem s_notT (ha : PT X a (tT X.K W ta)) : PT X (.UnaryOp .Not a pos) (tT X.K W fun env h => (ta env h).bind fun c h2 => .ok (!c) h2) :=
  weakT (pt_not ha) fun sg H Q q => by
    obtain ⟨env, h, mu, re, rh, q⟩ := q
    exact ⟨env, h, mu, re, rh, q.bind.mono fun k mu1 H1 h1 x1 r1 q2 => q2.ok r1⟩
theorem s_ite (hc : PT X c (tT X.K W tc)) (ha : PE X a (tE X.K W ma)) (hb : PE X b (tE X.K W mb)) : PE X (.IfExp c a b pos) (tE X.K W fun env h => (tc env h).bind fun k h2 => if k = true then ma env h2 else mb env h2) :=
  weakE (pe_ifExp hc ha hb) fun sg H Q q => by
    obtain ⟨env, h, mu, re, rh, q⟩ := q
    refine ⟨env, h, mu, re, rh, q.bind.mono fun k mu1 H1 h1 x1 r1 q2 => ?_⟩
    cases k with
    | true => rw [if_pos rfl] at q2 ⊢; exact ⟨env, h1, mu1, re.mono x1, r1, q2⟩
    | false => rw [if_neg Bool.false_ne_true] at q2 ⊢; exact ⟨env, h1, mu1, re.mono x1, r1, q2⟩
/-- a < b < c -/
theorem tChain_of {o1 o2 : Cop} {sg : L2.St} {H : Hp} {Q : VK} (h : tE X.K W (fun env h => (ma env h).bind fun x h1 => (mb env h1).bind fun y h2 => (cmpop o1 x y h2).bind fun t h3 => (asB t h3).bind fun k h4 =>
      if k = true then (mc env h4).bind fun z h5 => cmpop o2 y z h5 else .ok (.bl false) h4) sg H Q) :
    tChain (rB X.K W (cmpop o1)) (rB X.K W (cmpop o2)) (tE X.K W ma) (tE X.K W mb) (tE X.K W mc) sg H Q := by
  obtain ⟨env, h, mu, re, rh, q⟩ := h
  refine ⟨env, h, mu, re, rh, q.bind.mono fun x mu1 H1 h1 x1 r1 q1 v rv => ?_⟩
  refine ⟨env, h1, mu1, re.mono x1, r1, q1.bind.mono fun y mu2 H2 h2 x2 r2 q2 u ru => ?_⟩
  refine ⟨x, y, h2, mu2, r2, rv.mono x2, ru, q2.bind.mono fun t mu3 H3 h3 x3 r3 q3 z rz => ?_⟩
  obtain ⟨k, rfl, q4⟩ := asB_of r3 rz q3.bind
  refine ⟨k, rfl, ?_⟩
  cases k with
  | true =>
    rw [if_pos rfl] at q4 ⊢
    refine ⟨env, h3, mu3, ((re.mono x1).mono x2).mono x3, r3, q4.bind.mono fun z' mu4 H4 h4 x4 r4 q5 w rw' => ?_⟩
    exact ⟨y, z', h4, mu4, r4, (ru.mono x3).mono x4, rw', q5⟩
  | false => rw [if_neg Bool.false_ne_true] at q4 ⊢; exact q4.ok r3 _ (by simp [Rep])

/-! ### subscripts -/
theorem ix_of (G : Good X) : IxR X (rB X.K W getIx) := by
  intro value slice pins s σ H x y v u Q I rx ry hh hs
  obtain ⟨dx, dy, h, mu, rh, r1, r2, q⟩ := hh
  unfold getIx at q
  split at q <;> first | exact False.elim q | skip
  rename_i k
  split at q
  · rename_i ks ds
    split at q <;> first | exact False.elim q | skip
    rename_i d e2
    simp only [Rep] at r1 r2
    subst r2
    obtain ⟨a, rfl, o, kvs, e1, ek, rs⟩ := r1
    obtain ⟨w, lw, rw'⟩ := valV_lk ek rs e2
    have g : DGet H a (.int k) (some w) := .inl ⟨kvs, .inl k, .inr ⟨o, e1⟩, rfl, lw.symm⟩
    cases rx
    exact tail_any (dict_typeIs I g) PySem.F.slot_dict_getitem.lookup (d_getItem (by have := G.units; omega) I g ry fun w' s' I' r' => ⟨w, H, I', r', q.ok rh w rw'⟩) hs
  · rename_i z
    split at q <;> first | exact False.elim q | skip
    rename_i hz
    split at q <;> first | exact False.elim q | skip
    rename_i c ec
    simp only [Rep] at r1 r2
    subst r1 r2
    exact ix_str value slice pins s σ H _ _ v u Q I rx ry ⟨z, k, c, rfl, rfl, hz, ec, q.ok rh _ (by simp [Rep])⟩ hs
  split at q <;> first | exact False.elim q | skip
  rename_i ds e1
  split at q <;> first | exact False.elim q | skip
  rename_i d e2
  simp only [Rep] at r2
  subst r2
  obtain ⟨a, ws, rfl, s1, q1⟩ := seqOf_of rh r1 e1
  have key : ∃ w, atI ws k = some w ∧ Rep X.K mu H d w := by
    unfold atI at e2 ⊢
    rw [← q1.length]
    cases e3 : ixN ds.length k with
    | none => rw [e3] at e2; cases e2
    | some j =>
      rw [e3] at e2
      exact q1.get e2
  obtain ⟨w, e4, rw'⟩ := key
  rcases s1 with s1 | s1
  · exact ix_list value slice pins s σ H _ _ v u Q I rx ry ⟨a, ws, _, w, rfl, rfl, s1, e4, q.ok rh w rw'⟩ hs
  · exact ix_tup value slice pins s σ H _ _ v u Q I rx ry ⟨a, ws, _, w, rfl, rfl, s1, e4, q.ok rh w rw'⟩ hs
theorem s_ix (G : Good X) (ha : PE X a (tE X.K W ma)) (hb : PE X b (tE X.K W mb)) (hs : PlainIx b) : PE X (.Subscript a b pos) (tE X.K W fun env h => (ma env h).bind fun x h1 => (mb env h1).bind fun y h2 => getIx x y h2) :=
  weakE (pe_ix (ix_of G) ha hb hs) fun _ _ _ q => tOp_of q
def rSl (K : Fr) (W : EX) : V → Option Int → Option Int → Hp → VK → Prop := fun x lo hi H Q => ∃ d h mu, RelH K mu H h ∧ Rep K mu H d x ∧ pO K W mu H (slD d lo hi h) (fun d mu' H' _ => ∀ v, Rep K mu' H' d v → Q v H')
theorem cut_reps {K : Fr} {mu : List Addr} {H : Hp} {ds : List D} {ws : List V} (r : Reps K mu H ds ws) (lo hi : Option Int) : Reps K mu H (cutD ds lo hi) (cutV ws lo hi) := by
  unfold cutD cutV
  rw [← r.length]
  exact (r.drop _).take _
theorem sl_of : SlR X (rSl X.K W) := by
  intro pins s σ H x v vl vu lo hi sl Q I rx hs pl pu hh
  obtain ⟨d, h, mu, rh, r1, q⟩ := hh
  unfold slD at q
  split at q
  · simp only [Rep] at r1
    obtain ⟨a, ws, rfl, s1, q1⟩ := r1
    refine sl_tupN pins s σ H _ v vl vu lo hi sl Q I rx hs pl pu ⟨a, ws, rfl, s1.t, fun hw => ?_, fun hw => mkT_of rh (cut_reps q1 lo hi) q⟩
    refine q.ok rh _ ?_
    simp only [Rep]
    refine ⟨a, ws, rfl, s1, ?_⟩
    unfold cutD
    rw [q1.length, hw.1, hw.2, List.drop_zero, Nat.sub_zero, ← q1.length, List.take_length]
    exact q1
  · obtain ⟨a, ws, rfl, s1, q1⟩ := seqL_of (h := h) rh r1 rfl
    exact sl_list pins s σ H _ v vl vu lo hi sl Q I rx hs pl pu ⟨a, ws, rfl, s1, (mkL_of rh (cut_reps q1 lo hi) q).2⟩
  · split at q
    · rename_i e1
      obtain ⟨a, ws, rfl, m, h1, q1⟩ := ref_of rh r1 e1
      exact sl_list pins s σ H _ v vl vu lo hi sl Q I rx hs pl pu ⟨a, ws, rfl, .inl (.inl h1), (mkL_of rh (cut_reps q1 lo hi) q).2⟩
    · exact False.elim q
  · rename_i z
    split at q <;> first | exact False.elim q | skip
    rename_i hz
    simp only [Rep] at r1
    subst r1
    exact sl_str pins s σ H _ v vl vu lo hi sl Q I rx hs pl pu ⟨z, rfl, hz, q.ok rh _ (by simp [Rep])⟩
  · exact False.elim q
/-- a slice's part -/
def tP (K : Fr) (W : EX) (m : Env → Hh → Out (Option Int)) : TO := fun sg H Q => ∃ env h mu, RelEnv K mu H env sg ∧ RelH K mu H h ∧ pO K W mu H (m env h) fun o _ H' _ => Q o H'
theorem s_poN : PO X none (tP X.K W fun _ h => .ok none h) := ⟨fun pins s sg H Q I q => po_none.run pins s sg H Q I (by
  obtain ⟨env, h, mu, re, rh, q⟩ := q
  exact q.ok rh)⟩
theorem s_poS (ha : PE X a (tE X.K W ma)) : PO X (some a) (tP X.K W fun env h => (ma env h).bind partOf) := by
  refine ⟨fun pins s sg H Q I q => ?_⟩
  rw [evalPart_some]
  have q' : tE X.K W ma sg H (fun x H1 => ∃ o, ((x = .non ∧ o = none) ∨ ∃ i, x = .int i ∧ o = some i) ∧ Q o H1) := by
    obtain ⟨env, h, mu, re, rh, q⟩ := q
    refine ⟨env, h, mu, re, rh, q.bind.mono fun d mu1 H1 h1 x1 r1 q1 v rv => ?_⟩
    unfold partOf at q1
    split at q1
    · simp only [Rep] at rv
      exact ⟨none, .inl ⟨rv, rfl⟩, q1.ok r1⟩
    · simp only [Rep] at rv
      exact ⟨_, .inr ⟨_, rv, rfl⟩, q1.ok r1⟩
    · exact False.elim q1
  refine thn (ha.run pins s sg H _ I q') fun u s1 ⟨x, H1, I1, r1, q1⟩ => ?_
  obtain ⟨o, e, q⟩ := q1
  rcases e with ⟨rfl, rfl⟩ | ⟨i, rfl, rfl⟩
  · cases r1
    exact ⟨none, H1, I1, .none, q⟩
  · obtain ⟨t, rfl⟩ := r1
    exact ⟨some i, H1, I1, .int i t, q⟩
theorem s_sl {lo hi : Option Expr} {p2 : Pos} {ml mh : Env → Hh → Out (Option Int)} (ha : PE X a (tE X.K W ma)) (hl : PO X lo (tP X.K W ml)) (hh : PO X hi (tP X.K W mh)) :
    PE X (.Subscript a (.Slice lo hi none p2) pos) (tE X.K W fun env h => (ma env h).bind fun x h1 => (ml env h1).bind fun l h2 => (mh env h2).bind fun u h3 => slD x l u h3) :=
  weakE (pe_slice sl_of ha hl hh) fun sg H Q q => by
    obtain ⟨env, h, mu, re, rh, q⟩ := q
    refine ⟨env, h, mu, re, rh, q.bind.mono fun x mu1 H1 h1 x1 r1 q1 v rv => ?_⟩
    refine ⟨env, h1, mu1, re.mono x1, r1, q1.bind.mono fun l mu2 H2 h2 x2 r2 q2 => ?_⟩
    refine ⟨env, h2, mu2, (re.mono x1).mono x2, r2, q2.bind.mono fun u mu3 H3 h3 x3 r3 q3 => ?_⟩
    exact ⟨x, h3, mu3, r3, (rv.mono x2).mono x3, q3⟩

theorem pick_reps {K : Fr} {mu : List Addr} {H : Hp} {ds : List D} {ws : List V} (r : Reps K mu H ds ws) (lo hi st : Option Int) : Reps K mu H (pickD ds lo hi st) (pickL ws lo hi st) := by
  unfold pickD pickL
  rw [r.length]
  generalize sliceRange _ _ _ = q
  induction q with
  | nil => simp [Reps]
  | cons i q ih =>
    simp only [List.filterMap_cons]
    cases e1 : ds[i]? with
    | none =>
      have e2 : ws[i]? = none := by
        have hl := r.length
        have := List.getElem?_eq_none_iff.mp e1
        exact List.getElem?_eq_none (by omega)
      rw [e2]
      exact ih
    | some d =>
      obtain ⟨v, e2, rv⟩ := r.get e1
      rw [e2]
      simp only [Reps]
      exact ⟨v, _, rfl, rv, ih⟩
theorem Reps.rev : ∀ {K : Fr} {mu : List Addr} {H : Hp} {ds : List D} {ws : List V}, Reps K mu H ds ws → Reps K mu H ds.reverse ws.reverse
  | K, mu, H, [], ws, r => by
    simp only [Reps] at r
    subst r
    simp [Reps]
  | K, mu, H, d :: ds, ws, r => by
    simp only [Reps] at r
    obtain ⟨w, us, rfl, q, rs⟩ := r
    simp only [List.reverse_cons]
    exact (Reps.rev rs).append (Reps.one q)
theorem s_slS {lo hi : Option Expr} {st : Expr} {p2 : Pos} {ml mh mz : Env → Hh → Out (Option Int)} (ha : PE X a (tE X.K W ma)) (hl : PO X lo (tP X.K W ml)) (hh : PO X hi (tP X.K W mh)) (hz : PO X (some st) (tP X.K W mz)) :
    PE X (.Subscript a (.Slice lo hi (some st) p2) pos) (tE X.K W fun env h => (ma env h).bind fun x h1 => (ml env h1).bind fun l h2 => (mh env h2).bind fun u h3 => (mz env h3).bind fun z h4 => slSD x l u z h4) :=
  weakE (pe_sliceS ha hl hh hz) fun sg H Q q => by
    obtain ⟨env, h, mu, re, rh, q⟩ := q
    refine ⟨env, h, mu, re, rh, q.bind.mono fun x mu1 H1 h1 x1 r1 q1 v rv => ?_⟩
    refine ⟨env, h1, mu1, re.mono x1, r1, q1.bind.mono fun l mu2 H2 h2 x2 r2 q2 => ?_⟩
    refine ⟨env, h2, mu2, (re.mono x1).mono x2, r2, q2.bind.mono fun u mu3 H3 h3 x3 r3 q3 => ?_⟩
    refine ⟨env, h3, mu3, ((re.mono x1).mono x2).mono x3, r3, q3.bind.mono fun z mu4 H4 h4 x4 r4 q4 => ?_⟩
    unfold slSD at q4
    split at q4 <;> first | exact False.elim q4 | skip
    rename_i ds e1
    obtain ⟨h0, q4⟩ := pO.need q4
    obtain ⟨p, ws, rfl, s1, rs⟩ := seqL_of r4 (((rv.mono x2).mono x3).mono x4) e1
    exact ⟨h0, p, ws, rfl, s1, (mkL_of r4 (pick_reps rs l u z) q4).2⟩
/-- list(reversed(x)) -/
theorem s_lrev {p p2 pos2 : Pos} (hc : X.calm = true) (hg : Gl X "list") (hm : X.mg "list" = none) (hg2 : Gl X "reversed") (hm2 : X.mg "reversed" = none) (ha : PE X a (tE X.K W ma)) (hs : starEach [a] X.env = (false, eval a X.env) :: starEach [] X.env)
    (hs2 : starEach [.Call (.Name "reversed" p2) [a] [] pos2] X.env = (false, eval (.Call (.Name "reversed" p2) [a] [] pos2) X.env) :: starEach [] X.env := by rfl) :
    PE X (.Call (.Name "list" p) [.Call (.Name "reversed" p2) [a] [] pos2] [] pos) (tE X.K W fun env h => (ma env h).bind fLrev) :=
  weakE (pe_listRev hc hg hm hg2 hm2 ha hs hs2) fun sg H Q q => by
    obtain ⟨env, h, mu, re, rh, q⟩ := q
    refine ⟨env, h, mu, re, rh, q.bind.mono fun d mu1 H1 h1 x1 r1 q1 v rv => ?_⟩
    unfold fLrev at q1
    split at q1 <;> first | exact False.elim q1 | skip
    rename_i ds e1
    obtain ⟨p, ws, rfl, s1, rs⟩ := seqL_of r1 rv e1
    exact ⟨p, ws, rfl, s1, (mkL_of r1 rs.rev q1).2⟩

theorem reps_int_eq {K : Fr} {mu : List Addr} {H : Hp} : ∀ {ns : List Int} {ws : List V}, Reps K mu H (ns.map D.int) ws → ws = ns.map V.int
  | [], ws, r => by simpa [Reps] using r
  | n :: ns, ws, r => by
    simp only [List.map_cons, Reps] at r
    obtain ⟨w, us, rfl, rw', rs⟩ := r
    simp only [Rep] at rw'
    rw [rw', reps_int_eq rs, List.map_cons]
/-- len(set(x)), x a list of the same tuple of ints -/
theorem same_keys {K : Fr} {mu : List Addr} {H : Hp} (ns : List Int) : ∀ {k : Nat} {ws : List V}, Reps K mu H (List.replicate k (.tup (ns.map D.int))) ws → ∃ ks : List (Addr × List Int), ws = ks.map (fun p => V.ref p.1) ∧ ks.length = k ∧ ∀ p ∈ ks, p.2 = ns ∧ SqT K H p.1 (p.2.map V.int)
  | 0, ws, r => by
    simp only [List.replicate_zero, Reps] at r
    subst r
    exact ⟨[], rfl, rfl, by simp⟩
  | k + 1, ws, r => by
    simp only [List.replicate_succ, Reps] at r
    obtain ⟨w, us, rfl, rw', rs⟩ := r
    obtain ⟨ks, rfl, e2, e3⟩ := same_keys ns rs
    simp only [Rep] at rw'
    obtain ⟨t, xs, rfl, st, rx⟩ := rw'
    have := reps_int_eq rx
    subst this
    exact ⟨(t, ns) :: ks, rfl, by simp [e2], by
      intro p hp
      rcases List.mem_cons.mp hp with e | e
      · subst e; exact ⟨rfl, st.t⟩
      · exact e3 p e⟩
theorem one_left {ns : List Int} : ∀ {L : List (Addr × List Int)}, L ≠ [] → (∀ p ∈ L, p.2 = ns) → (L.map (·.2)).Nodup → L.length = 1
  | [], h, _, _ => absurd rfl h
  | [_], _, _, _ => rfl
  | p :: p' :: r, _, hin, nd => by
    exfalso
    have a1 := hin p (by simp)
    have a2 := hin p' (by simp)
    simp [a1, a2] at nd
theorem s_lset {p p2 pos2 : Pos} (hc : X.calm = true) (hu : X.A.units + 64 < cLine) (hg : Gl X "len") (hm : X.mg "len" = none) (hg2 : Gl X "set") (hm2 : X.mg "set" = none) (ha : PE X a (tE X.K W ma)) (hs : starEach [a] X.env = (false, eval a X.env) :: starEach [] X.env) :
    PE X (.Call (.Name "len" p) [.Call (.Name "set" p2) [a] [] pos2] [] pos) (tE X.K W fun env h => (ma env h).bind fLset) := by
  refine ⟨fun pins s σ H Q I h => ?_⟩
  obtain ⟨env, h, mu, re, rh, q⟩ := h
  refine Call_ (ld_blt I hg hm PySem.boot_len ?_)
  refine PyProof.Rows.callWith_builtin1 (PyProof.Rows.args_cons ?_ rfl) rfl rfl
  refine Call_ (ld_blt I hg2 hm2 PyProof.Rows.boot_set ?_)
  refine PyProof.Rows.callWith_type1 (PyProof.Rows.args_cons (thn (ha.run pins s σ H (fun v H1 => (∃ (l : Addr) (ns : List Int), v = V.ref l ∧ SqL X.K H1 l (ns.map V.int) ∧ ns.length < 63 ∧ Q (.int ((ns.foldl PyProof.Rows.step_dedup []).length : Nat)) H1) ∨ ∃ (l : Addr) (ks : List (Addr × List Int)) (ns : List Int), v = V.ref l ∧ SqL X.K H1 l (ks.map fun p => V.ref p.1) ∧ (∀ p ∈ ks, p.2 = ns ∧ SqT X.K H1 p.1 (p.2.map V.int)) ∧ 0 < ks.length ∧ ks.length < 64 ∧ Q (.int 1) H1) I
    ⟨env, h, mu, re, rh, q.bind.mono fun d mu1 H1 h1 x1 r1 q1 v rv => ?_⟩) fun v s1 ⟨x, H1, I1, r1, q1⟩ => PyProof.Rows.args_nil ?_) hs) hs rfl
  · unfold fLset at q1
    split at q1
    · rename_i ns e1
      obtain ⟨hk, q1⟩ := pO.need q1
      rw [Option.bind_eq_some_iff] at e1
      obtain ⟨xs, e1, e2⟩ := e1
      obtain ⟨p, ws, rfl, s1, rs⟩ := seqL_of r1 rv e1
      have := ints_of rs e2
      subst this
      exact .inl ⟨p, ns, rfl, s1, hk, q1.ok r1 _ (by simp [Rep])⟩
    · obtain ⟨⟨ns, k, e1, hk⟩, q1⟩ := pO.need q1
      obtain ⟨p, ws, rfl, s1, rs⟩ := seqL_of r1 rv e1
      obtain ⟨ks, rfl, e2, e3⟩ := same_keys ns rs
      exact .inr ⟨p, ks, ns, rfl, s1, e3, by omega, by omega, q1.ok r1 _ (by simp [Rep])⟩
  rcases q1 with q1 | q1
  · obtain ⟨l, ns, rfl, hl, h63, q1⟩ := q1
    cases r1
    obtain ⟨its, rv, pl, hz⟩ := I1.list hl
    have hlen : its.toArray.size = ns.length := by rw [List.size_toArray, ← rv.length, List.length_map]
    refine PySem.call_set_list (I1.ok.hd hc) pl.isList (by simpa using intsAre_of rv) (by rw [hlen]; unfold scanBound; omega) fun h' tk hS hk => ?_
    refine PyProof.Rows.args_nil ?_
    have em : PyProof.Rows.firstMet (fun i => ns.getD i 0) its.toArray.size = ns.foldl PyProof.Rows.step_dedup [] := by
      rw [hlen]
      unfold PyProof.Rows.firstMet
      congr 1
      apply List.ext_getElem
      · simp
      · intro i h1 h2
        simp [List.getD_eq_getElem?_getD, List.getElem?_eq_getElem (by simpa using h2)]
    rw [em] at hS
    have hle : (ns.foldl PyProof.Rows.step_dedup []).length ≤ ns.length := by
      rw [← em, ← hlen]
      exact PyProof.Rows.firstMet_length_le _ _
    obtain ⟨o, es, ep, t, ho, hex, hd, _, _, _, hf, hn⟩ := hS
    have I2 : L2.Inv X pins σ H1 { s1 with heap := h', toks := tk } := I1.kept fun b o e => hk b o (Heap.lt_size e) e
    exact call_len_set ho hex hd hf (by rw [hn]; omega) ⟨.int _, H1, I2.tok _, ⟨_, by rw [hn]⟩, q1⟩
  · obtain ⟨l, ks, ns, rfl, hl, hk, h0, h64, q1⟩ := q1
    cases r1
    obtain ⟨its, rv, pl, hz⟩ := I1.list hl
    refine call_set_tups (P := X.prog) (w := X.w) ks (I1.ok.hd hc) pl.isList (by simpa using refs_of_vals rv) (fun p hp => I1.isT (hk p hp).2) h64 (by omega) fun h' tk L es ep t R g k => ?_
    refine PyProof.Rows.args_nil ?_
    have I2 : L2.Inv X pins σ H1 { s1 with heap := h', toks := tk } := I1.kept k
    obtain ⟨o, ho, hex, hd⟩ := R.ob
    have hsz := SetTR.size (s := { s1 with heap := h', toks := tk }) R
    have hfit := SetTR.fits (s := { s1 with heap := h', toks := tk }) R
    have one : L.length = 1 := by
      have hin : ∀ p ∈ L, p.2 = ns := fun p hp => (hk p (List.mem_of_mem_take (g.sub p hp))).1
      have nd := R.nd
      have hne : L ≠ [] := by
        intro e
        obtain ⟨p, hp⟩ := List.exists_mem_of_length_pos h0
        have := g.all p (by rw [List.take_length]; exact hp)
        rw [e] at this
        simp at this
      exact one_left hne hin nd
    refine call_len_set ho hex hd hfit (by rw [hsz, one]; decide) ⟨.int 1, H1, I2.tok _, ⟨_, by rw [hsz, one]; rfl⟩, q1⟩

/-- sorted(set(x)), x a text -/
theorem s_sset {p p2 pos2 : Pos} (hc : X.calm = true) (hg : Gl X "sorted") (hm : X.mg "sorted" = none) (hg2 : Gl X "set") (hm2 : X.mg "set" = none) (ha : PE X a (tE X.K W ma)) (hs : starEach [a] X.env = (false, eval a X.env) :: starEach [] X.env) :
    PE X (.Call (.Name "sorted" p) [.Call (.Name "set" p2) [a] [] pos2] [] pos) (tE X.K W fun env h => (ma env h).bind fSset) :=
  weakE (pe_sset hc hg hm hg2 hm2 ha hs) fun sg H Q q => by
    obtain ⟨env, h, mu, re, rh, q⟩ := q
    refine ⟨env, h, mu, re, rh, q.bind.mono fun d mu1 H1 h1 x1 r1 q1 v rv => ?_⟩
    unfold fSset at q1
    split at q1 <;> first | exact False.elim q1 | skip
    rename_i z
    obtain ⟨hz, q1⟩ := pO.need q1
    simp only [Rep] at rv
    subst rv
    have e1 : ((letters z).map fun c => (D.str ⟨#[c]⟩)) = ((letters z).map Ip.sg).map D.str := by rw [List.map_map]; rfl
    have e2 : ((letters z).map fun c => (V.str ⟨#[c]⟩)) = ((letters z).map Ip.sg).map V.str := by rw [List.map_map]; rfl
    rw [e1] at q1
    refine ⟨z, rfl, hz, ?_⟩
    rw [e2]
    exact (mkL_of r1 (reps_strs _) q1).2
/-! ### texts with parts -/
theorem s_fmt {p2 : Pos} (ha : PE X a (tE X.K W ma)) : PE X (.FormattedValue a (-1) none p2) (tE X.K W fun env h => (ma env h).bind fFmt) :=
  weakE (pe_fmt ha) fun sg H Q q => by
    obtain ⟨env, h, mu, re, rh, q⟩ := q
    refine ⟨env, h, mu, re, rh, q.bind.mono fun d mu1 H1 h1 x1 r1 q1 v rv => ?_⟩
    unfold fFmt at q1
    split at q1
    · split at q1 <;> first | exact False.elim q1 | skip
      rename_i hz
      simp only [Rep] at rv
      exact .inl ⟨_, rv, hz, q1.ok r1 _ (by simp [Rep])⟩
    · split at q1 <;> first | exact False.elim q1 | skip
      rename_i hz
      simp only [Rep] at rv
      exact .inr ⟨_, rv, hz, q1.ok r1 _ (by simp only [Rep])⟩
    · exact False.elim q1
theorem tJs_of {C : CallT} : ∀ (ts : List Ex) (acc : Str) (sg : L2.St) (H : Hp) (Q : VK), tE X.K W (fun env h => evJ C ts acc env h) sg H Q → tJs (ts.map fun t => tE X.K W (ev C t)) acc sg H fun out H1 => Q (.str out) H1
  | [], acc, sg, H, Q, q => by
    obtain ⟨env, h, mu, re, rh, q⟩ := q
    simp only [evJ] at q
    exact q.ok rh _ (by simp [Rep])
  | t :: ts, acc, sg, H, Q, q => by
    obtain ⟨env, h, mu, re, rh, q⟩ := q
    simp only [evJ] at q
    refine ⟨env, h, mu, re, rh, q.bind.mono fun d mu1 H1 h1 x1 r1 q1 v rv => ?_⟩
    unfold glueD at q1
    split at q1 <;> first | exact False.elim q1 | skip
    rename_i y
    split at q1 <;> first | exact False.elim q1 | skip
    rename_i hz
    simp only [Rep] at rv
    exact ⟨y, rv, hz, tJs_of ts _ sg H1 Q ⟨env, h1, mu1, re.mono x1, r1, q1⟩⟩
theorem s_fstr {C : CallT} {v1 v2 : Expr} {rest : List Expr} {ts : List Ex} (h : PJ X (v1 :: v2 :: rest) (ts.map fun t => tE X.K W (ev C t))) : PE X (.JoinedStr (v1 :: v2 :: rest) pos) (tE X.K W (ev C (.fstr ts))) :=
  weakE (pe_joined h) fun sg H Q q => tJs_of ts Str.empty sg H Q (by
    obtain ⟨env, h, mu, re, rh, q⟩ := q
    simp only [ev] at q
    exact ⟨env, h, mu, re, rh, q⟩)
/-! ### methods -/
def rM (K : Fr) (W : EX) (f : D → List D → Hh → Out D) : V → List V → Hp → VK → Prop := fun x vs H Q => ∃ d ds h mu, RelH K mu H h ∧ Rep K mu H d x ∧ Reps K mu H ds vs ∧ pO K W mu H (f d ds h) (fun d mu' H' _ => ∀ v, Rep K mu' H' d v → Q v H')
theorem m_append : MtR X "list.append" (rM X.K W mAppend) := by
  intro pins s σ H x xs v us Q I rx rs hh
  obtain ⟨d, ds, h, mu, rh, r1, r2, q⟩ := hh
  unfold mAppend at q
  split at q <;> first | exact False.elim q | skip
  split at q <;> first | exact False.elim q | skip
  rename_i e1
  obtain ⟨hz, q⟩ := pO.need q
  obtain ⟨w, rfl, rw'⟩ := reps1 r2
  obtain ⟨a, ws, rfl, m, h1, q1⟩ := ref_of rh r1 e1
  refine mt_append pins s σ H _ _ v us Q I rx rs ⟨a, ws, w, rfl, rfl, h1, by rw [← q1.length]; exact hz, ?_⟩
  exact q mu _ (Ext.setL (List.mem_of_getElem? m) h1 rfl) (rh.setL m h1 (q1.append (Reps.one rw'))) _ (by simp [Rep])
theorem ref_ty {K : Fr} {mu : List Addr} {H : Hp} {h : Hh} {n : Nat} {v : V} (rh : RelH K mu H h) (r : Rep K mu H (.ref n) v) : tyV K "list" v H := by
  simp only [Rep] at r
  obtain ⟨a, rfl, em, ws, el⟩ := r
  exact .inl ⟨rfl, _, .inl (.inl el)⟩
theorem tBM_of {f : D → List D → Hh → Out D} {m : Mt} (hok : ∀ x, mtOk m x → ∃ n, x = .ref n) {sg : L2.St} {H : Hp} {Q : VK} (h : tE X.K W (fun env h => (ma env h).bind fun x h1 => need (mtOk m x) ((ms env h1).bind fun ds h2 => f x ds h2)) sg H Q) :
    tBM X.K "list" (rM X.K W f) (tE X.K W ma) (tA X.K W ms) sg H Q := by
  obtain ⟨env, h, mu, re, rh, q⟩ := h
  refine ⟨env, h, mu, re, rh, q.bind.mono fun x mu1 H1 h1 x1 r1 q1 v rv => ?_⟩
  obtain ⟨hn, q1⟩ := pO.need q1
  obtain ⟨n, rfl⟩ := hok x hn
  refine ⟨ref_ty r1 rv, env, h1, mu1, re.mono x1, r1, q1.bind.mono fun ds mu2 H2 h2 x2 r2 q2 us rus => ?_⟩
  exact ⟨.ref n, ds, h2, mu2, r2, Rep.mono x2 _ _ rv, rus, q2⟩
theorem m_extend : MtR X "list.extend" (rM X.K W mExtend) := by
  intro pins s σ H x xs v us Q I rx rs hh
  obtain ⟨d, ds, h, mu, rh, r1, r2, q⟩ := hh
  unfold mExtend at q
  split at q <;> first | exact False.elim q | skip
  split at q <;> first | exact False.elim q | skip
  rename_i e1 e2
  obtain ⟨hz, q⟩ := pO.need q
  obtain ⟨w, rfl, rw'⟩ := reps1 r2
  obtain ⟨a, ws, rfl, m, h1, q1⟩ := ref_of rh r1 e1
  obtain ⟨a', ws', rfl, m', h2, q2⟩ := ref_of rh rw' e2
  refine mt_extend pins s σ H _ _ v us Q I rx rs ⟨a, a', ws, ws', rfl, rfl, h1, h2, by rw [← q1.length, ← q2.length]; exact hz, ?_⟩
  exact q mu _ (Ext.setL (List.mem_of_getElem? m) h1 rfl) (rh.setL m h1 (q1.append q2)) _ (by simp [Rep])
/-- a method of a list alone; of a text alone -/
def rMR (K : Fr) (W : EX) (f : D → List D → Hh → Out D) : V → List V → Hp → VK → Prop := fun x vs H Q => ∃ n ds h mu, RelH K mu H h ∧ Rep K mu H (.ref n) x ∧ Reps K mu H ds vs ∧ pO K W mu H (f (.ref n) ds h) (fun d mu' H' _ => ∀ v, Rep K mu' H' d v → Q v H')
def rMS (K : Fr) (W : EX) (f : D → List D → Hh → Out D) : V → List V → Hp → VK → Prop := fun x vs H Q => ∃ z ds h mu, RelH K mu H h ∧ Rep K mu H (.str z) x ∧ Reps K mu H ds vs ∧ pO K W mu H (f (.str z) ds h) (fun d mu' H' _ => ∀ v, Rep K mu' H' d v → Q v H')
theorem m_countS : MtR X "str.count" (rMS X.K W mCount) := by
  intro pins s σ H x xs v us Q I rx rs hh
  obtain ⟨z, ds, h, mu, rh, r1, r2, q⟩ := hh
  obtain ⟨b, rfl⟩ : ∃ b, ds = [.str b] := by
    rcases ds with _ | ⟨d, _ | ⟨d2, ds⟩⟩
    · exact False.elim q
    · cases d <;> first | exact ⟨_, rfl⟩ | exact False.elim q
    · cases d <;> exact False.elim q
  simp only [mCount] at q
  obtain ⟨w, rfl, rw'⟩ := reps1 r2
  simp only [Rep] at rw' r1
  subst rw' r1
  exact mt_count pins s σ H _ _ v us Q I rx rs ⟨_, _, rfl, rfl, q.ok rh _ (by simp [Rep])⟩
theorem m_join : MtR X "str.join" (rMS X.K W mJoin) := by
  intro pins s σ H x xs v us Q I rx rs hh
  obtain ⟨z, ds, h, mu, rh, r1, r2, q⟩ := hh
  unfold mJoin at q
  split at q <;> first | exact False.elim q | skip
  rename_i a d he
  cases he
  split at q <;> first | exact False.elim q | skip
  rename_i xs' e1
  split at q <;> first | exact False.elim q | skip
  rename_i ys e2
  split at q <;> first | exact False.elim q | skip
  rename_i hz
  obtain ⟨w, rfl, rw'⟩ := reps1 r2
  obtain ⟨p, ws, rfl, s1, q1⟩ := seqOf_of rh rw' e1
  have := strs_of q1 e2
  subst this
  simp only [Rep] at r1
  subst r1
  exact mt_join pins s σ H _ _ v us Q I rx rs ⟨_, p, ys, rfl, rfl, s1, hz, q.ok rh _ (by simp [Rep])⟩
theorem m_split : MtR X "str.split" (rMS X.K W mSplit) := by
  intro pins s σ H x xs v us Q I rx rs hh
  obtain ⟨z, ds, h, mu, rh, r1, r2, q⟩ := hh
  unfold mSplit at q
  split at q <;> first | exact False.elim q | skip
  rename_i a b he
  cases he
  obtain ⟨hz, q⟩ := pO.need q
  obtain ⟨w, rfl, rw'⟩ := reps1 r2
  simp only [Rep] at rw' r1
  subst rw' r1
  exact mt_split pins s σ H _ _ v us Q I rx rs ⟨_, _, rfl, rfl, hz.1, hz.2, (mkL_of rh (reps_strs _) q).2⟩
theorem m_count : MtR X "list.count" (rMR X.K W mCount) := by
  intro pins s σ H x xs v us Q I rx rs hh
  obtain ⟨n, ds, h, mu, rh, r1, r2, q⟩ := hh
  obtain ⟨k, rfl⟩ : ∃ k, ds = [.int k] := by
    rcases ds with _ | ⟨d, _ | ⟨d2, ds⟩⟩
    · exact False.elim q
    · cases d <;> first | exact ⟨_, rfl⟩ | exact False.elim q
    · cases d <;> exact False.elim q
  simp only [mCount] at q
  split at q <;> first | exact False.elim q | skip
  rename_i e1
  split at q <;> first | exact False.elim q | skip
  rename_i e2
  obtain ⟨w, rfl, rw'⟩ := reps1 r2
  simp only [Rep] at rw'
  subst rw'
  obtain ⟨a, ws, rfl, m, h1, q1⟩ := ref_of rh r1 e1
  have := ints_of q1 e2
  subst this
  exact mt_lcount pins s σ H _ _ v us Q I rx rs ⟨a, _, _, rfl, rfl, .inl (.inl h1), q.ok rh _ (by simp [Rep])⟩
theorem m_popAt : MtR X "list.pop" (rM X.K W mPopAt) := by
  intro pins s σ H x xs v us Q I rx rs hh
  obtain ⟨d, ds, h, mu, rh, r1, r2, q⟩ := hh
  unfold mPopAt at q
  split at q <;> first | exact False.elim q | skip
  split at q <;> first | exact False.elim q | skip
  rename_i e1
  obtain ⟨hz, q⟩ := pO.need q
  split at q <;> first | exact False.elim q | skip
  rename_i k e2
  split at q <;> first | exact False.elim q | skip
  rename_i e3
  obtain ⟨w, rfl, rw'⟩ := reps1 r2
  simp only [Rep] at rw'
  subst rw'
  obtain ⟨a, ws, rfl, m, h1, q1⟩ := ref_of rh r1 e1
  obtain ⟨y, e4, ry⟩ := q1.get e3
  refine mt_popAt pins s σ H _ _ v us Q I rx rs ⟨a, ws, _, _, y, rfl, rfl, h1, hz.1, hz.2, by rw [← q1.length]; exact e2, e4, ?_⟩
  have x1 : Ext mu H mu (upd H a (.lst (ws.eraseIdx k))) := Ext.setL (List.mem_of_getElem? m) h1 rfl
  exact q mu _ x1 (rh.setL m h1 (q1.erase _)) _ (Rep.mono x1 _ _ ry)
theorem eraseIdx_map' {α β : Type} (f : α → β) : ∀ (xs : List α) (i : Nat), (xs.map f).eraseIdx i = (xs.eraseIdx i).map f
  | [], i => by simp
  | x :: xs, 0 => by simp
  | x :: xs, i + 1 => by simp [eraseIdx_map' f xs i]
theorem idxOf_first {ns : List Int} {k : Int} {j : Nat} (hj : j < ns.idxOf k) (e : ns[j]? = some k) : False := by
  have h := List.not_of_lt_findIdx (p := (· == k)) (xs := ns) hj
  obtain ⟨hl, e2⟩ := List.getElem?_eq_some_iff.mp e
  simp [e2] at h
theorem m_insert : MtR X "list.insert" (rM X.K W mInsert) := by
  intro pins s σ H x xs v us Q I rx rs hh
  obtain ⟨d, ds, h, mu, rh, r1, r2, q⟩ := hh
  unfold mInsert at q
  split at q <;> first | exact False.elim q | skip
  split at q <;> first | exact False.elim q | skip
  rename_i e1
  obtain ⟨hz, q⟩ := pO.need q
  obtain ⟨w1, w2, rfl, ri, rw'⟩ := reps2 r2
  simp only [Rep] at ri
  subst ri
  obtain ⟨a, ws, rfl, m, h1, q1⟩ := ref_of rh r1 e1
  refine mt_insert pins s σ H _ _ v us Q I rx rs ⟨a, ws, _, w2, rfl, rfl, h1, by rw [← q1.length]; exact hz.1, hz.2.1, hz.2.2, ?_⟩
  exact q mu _ (Ext.setL (List.mem_of_getElem? m) h1 rfl) (rh.setL m h1 (((q1.take _).append (Reps.one rw')).append (q1.drop _))) _ (by simp [Rep])
theorem m_remove : MtR X "list.remove" (rM X.K W mRemove) := by
  intro pins s σ H x xs v us Q I rx rs hh
  obtain ⟨d, ds, h, mu, rh, r1, r2, q⟩ := hh
  unfold mRemove at q
  split at q <;> first | exact False.elim q | skip
  rename_i n k
  split at q <;> first | exact False.elim q | skip
  rename_i e1
  split at q <;> first | exact False.elim q | skip
  rename_i ns e2
  obtain ⟨hk, q⟩ := pO.need q
  obtain ⟨w, rfl, rw'⟩ := reps1 r2
  simp only [Rep] at rw'
  subst rw'
  obtain ⟨a, ws, rfl, m, h1, q1⟩ := ref_of rh r1 e1
  have ew := ints_of q1 e2
  subst ew
  have hlt : ns.idxOf _ < ns.length := List.idxOf_lt_length_iff.mpr hk
  refine mt_remove pins s σ H _ _ v us Q I rx rs ⟨a, ns, _, ns.idxOf _, rfl, rfl, h1, by rw [List.getElem?_eq_getElem hlt, List.getElem_idxOf], fun j hj e => ?_, ?_⟩
  · exact idxOf_first hj e
  · have := q1.erase (ns.idxOf k)
    rw [eraseIdx_map'] at this
    exact q mu _ (Ext.setL (List.mem_of_getElem? m) h1 rfl) (rh.setL m h1 this) _ (by simp [Rep])
theorem findIdx_of {ps : List PyData} {d : PyData} (h : ps.findIdx (fun z => PyData.eqv z d) < ps.length) : ∃ z, ps[ps.findIdx (fun z => PyData.eqv z d)]? = some z ∧ PyData.eqv z d = true ∧ ∀ (m : Nat) (z' : PyData), m < ps.findIdx (fun z => PyData.eqv z d) → ps[m]? = some z' → PyData.eqv z' d = false := by
  refine ⟨_, List.getElem?_eq_getElem h, List.findIdx_getElem (w := h), fun m z' hm e => ?_⟩
  have hl : m < ps.length := by omega
  have := List.not_of_lt_findIdx hm
  rw [List.getElem?_eq_getElem hl] at e
  cases e
  simpa using this
theorem m_indexL (G : Good X) : MtR X "list.index" (fun x vs H Q => ∃ n ds h mu, RelH X.K mu H h ∧ Rep X.K mu H (.ref n) x ∧ Reps X.K mu H ds vs ∧ pO X.K W mu H (mIndex (.ref n) ds h) (fun d mu' H' _ => ∀ v, Rep X.K mu' H' d v → Q v H')) := by
  intro pins s σ H x xs v us Q I rx rs hh
  obtain ⟨n, ds, h, mu, rh, r1, r2, q⟩ := hh
  unfold mIndex at q
  split at q <;> first | exact False.elim q | skip
  obtain ⟨w, rfl, rw'⟩ := reps1 r2
  split at q
  · rename_i ps p e1 e2
    split at q <;> first | exact False.elim q | skip
    rename_i hb
    simp only [Bool.and_eq_true, decide_eq_true_eq] at hb
    obtain ⟨z, z1, z2, z3⟩ := findIdx_of hb.2
    have d1 := dp_of rh _ _ _ _ r1 e1
    cases d1 with
    | lst hs ha => exact mt_indexD G.units5 pins s σ H _ _ v us Q I rx rs ⟨_, w, p, ps, _, z, rfl, rfl, .lst hs ha, dp_of rh _ _ _ _ rw' e2, hb.1.1, hb.1.2, z1, z2, z3, q.ok rh _ (by simp [Rep])⟩
  · rename_i ps p e1 e2
    simp only [toP] at e1
    split at e1
    · simp only [Option.map_eq_some_iff, reduceCtorEq, and_false, exists_false] at e1
    · cases e1
  · exact False.elim q
theorem m_indexT (G : Good X) : MtR X "tuple.index" (fun x vs H Q => ∃ es ds h mu, RelH X.K mu H h ∧ Rep X.K mu H (.tup es) x ∧ Reps X.K mu H ds vs ∧ pO X.K W mu H (mIndex (.tup es) ds h) (fun d mu' H' _ => ∀ v, Rep X.K mu' H' d v → Q v H')) := by
  intro pins s σ H x xs v us Q I rx rs hh
  obtain ⟨n, ds, h, mu, rh, r1, r2, q⟩ := hh
  unfold mIndex at q
  split at q <;> first | exact False.elim q | skip
  obtain ⟨w, rfl, rw'⟩ := reps1 r2
  split at q
  · rename_i ps p e1 e2
    simp only [toP, Option.map_eq_some_iff, reduceCtorEq, and_false, exists_false] at e1
  · rename_i ps p e1 e2
    split at q <;> first | exact False.elim q | skip
    rename_i hb
    simp only [Bool.and_eq_true, decide_eq_true_eq] at hb
    obtain ⟨z, z1, z2, z3⟩ := findIdx_of hb.2
    have d1 := dp_of rh _ _ _ _ r1 e1
    cases d1 with
    | tup hs ha => exact mt_indexT G.units5 pins s σ H _ _ v us Q I rx rs ⟨_, w, p, ps, _, z, rfl, rfl, .tup hs ha, dp_of rh _ _ _ _ rw' e2, hb.1.1, hb.1.2, z1, z2, z3, q.ok rh _ (by simp [Rep])⟩
  · exact False.elim q
/-- a method by its name -/
def mtOf : Mt → Str
  | .append => "append"
  | .extend => "extend"
  | .popAt => "pop"
  | .count => "count"
  | .insert => "insert"
  | .remove => "remove"
  | .index => "index"
  | .join => "join"
  | .split => "split"
theorem tBMS_of {f : D → List D → Hh → Out D} {m : Mt} (hok : ∀ x, mtOk m x → ∃ z, x = .str z) {sg : L2.St} {H : Hp} {Q : VK} (h : tE X.K W (fun env h => (ma env h).bind fun x h1 => need (mtOk m x) ((ms env h1).bind fun ds h2 => f x ds h2)) sg H Q) :
    tBM X.K "str" (rMS X.K W f) (tE X.K W ma) (tA X.K W ms) sg H Q := by
  obtain ⟨env, h, mu, re, rh, q⟩ := h
  refine ⟨env, h, mu, re, rh, q.bind.mono fun x mu1 H1 h1 x1 r1 q1 v rv => ?_⟩
  obtain ⟨hn, q1⟩ := pO.need q1
  obtain ⟨z, rfl⟩ := hok x hn
  have rv' := rv
  simp only [Rep] at rv
  subst rv
  refine ⟨rfl, env, h1, mu1, re.mono x1, r1, q1.bind.mono fun ds mu2 H2 h2 x2 r2 q2 us rus => ?_⟩
  exact ⟨z, ds, h2, mu2, r2, Rep.mono x2 _ _ rv', rus, q2⟩
theorem orE {t t' : TE} (h : PE X e t) (h' : PE X e t') : PE X e (fun sg H Q => t sg H Q ∨ t' sg H Q) :=
  ⟨fun pins s sg H Q I q => q.elim (h.run pins s sg H Q I) (h'.run pins s sg H Q I)⟩
theorem s_mt (G : Good X) {m : Mt} {apos cpos : Pos} {o : Expr} (hl : es.length < 28)
    (ho : PE X o (tE X.K W ma)) (ha : PA X (e :: es) (tA X.K W ms)) (hbase : attributeBase o (mtOf m) X.env (eval o X.env) = eval o X.env)
    (hfew : (backTo cpos (starEach (e :: es) X.env)).all (fun x => !x.1) = true)
    (hline : (apos.endLine == cpos.line) = true) (hs : starEach (e :: es) X.env = (false, eval e X.env) :: starEach es X.env) (hplain : (backTo cpos (starEach es X.env)).any (·.1) = false) :
    PE X (.Call (.Attribute o (mtOf m) apos) (e :: es) [] cpos) (tE X.K W fun env h => (ma env h).bind fun x h1 => need (mtOk m x) ((ms env h1).bind fun ds h2 => evM m x ds h2)) := by
  have hfew' : ((backTo cpos (starEach (e :: es) X.env)).all (fun x => !x.1) && (backToKw cpos (keywordEach [] X.env)).all (fun x => x.1.isSome)
      && decide ((e :: es).length + ([] : List Keyword).length + (if ([] : List Keyword).isEmpty then 0 else 1) < 30)) = true := by
    rw [hfew]
    simp [keywordEach, backToKw]
    omega
  cases m with
  | append => exact weakE (pe_bm PySem.F.plainAttrs_list PySem.F.slot_list_append PySem.F.type_list_append m_append ho ha (hbase := hbase) (hfew := hfew') (hline := hline) (hs := hs) (hplain := hplain)) fun _ _ _ q => tBM_of (m := .append) (fun x hx => hx) q
  | extend => exact weakE (pe_bm PySem.F.plainAttrs_list PySem.F.slot_list_extend PySem.F.type_list_extend m_extend ho ha (hbase := hbase) (hfew := hfew') (hline := hline) (hs := hs) (hplain := hplain)) fun _ _ _ q => tBM_of (m := .extend) (fun x hx => hx) q
  | popAt => exact weakE (pe_bm PySem.F.plainAttrs_list PySem.F.slot_list_pop PySem.F.type_list_pop m_popAt ho ha (hbase := hbase) (hfew := hfew') (hline := hline) (hs := hs) (hplain := hplain)) fun _ _ _ q => tBM_of (m := .popAt) (fun x hx => hx) q
  | count =>
    refine weakE (orE (pe_bm PySem.F.plainAttrs_list PySem.F.slot_list_count PySem.F.type_list_count (m_count (W := W)) ho ha (hbase := hbase) (hfew := hfew') (hline := hline) (hs := hs) (hplain := hplain))
      (pe_bm PySem.F.plainAttrs_str PySem.F.slot_str_count PySem.F.type_str_count (m_countS (W := W)) ho ha (hbase := hbase) (hfew := hfew') (hline := hline) (hs := hs) (hplain := hplain))) fun sg H Q q => ?_
    obtain ⟨env, h, mu, re, rh, q⟩ := q
    have q := q.bind
    cases e : ma env h with
    | stuck =>
      rw [e] at q
      exact False.elim q
    | exn c h' =>
      rw [e] at q
      refine .inl ⟨env, h, mu, re, rh, ?_⟩
      rw [e]
      exact q
    | ok d h' =>
      rw [e] at q
      by_cases hd : ∃ n, d = .ref n
      · obtain ⟨n, rfl⟩ := hd
        refine .inl ⟨env, h, mu, re, rh, ?_⟩
        rw [e]
        intro mu1 H1 x1 r1 v rv
        obtain ⟨_, q1⟩ := pO.need (q mu1 H1 x1 r1)
        refine ⟨ref_ty r1 rv, env, h', mu1, re.mono x1, r1, q1.bind.mono fun ds mu2 H2 h2 x2 r2 q2 us rus => ?_⟩
        exact ⟨n, ds, h2, mu2, r2, Rep.mono x2 _ _ rv, rus, q2⟩
      · refine .inr ⟨env, h, mu, re, rh, ?_⟩
        rw [e]
        intro mu1 H1 x1 r1 v rv
        obtain ⟨hn, q1⟩ := pO.need (q mu1 H1 x1 r1)
        rcases hn with hn | ⟨z, rfl⟩
        · exact absurd hn hd
        · have rv' := rv
          simp only [Rep] at rv
          subst rv
          refine ⟨rfl, env, h', mu1, re.mono x1, r1, q1.bind.mono fun ds mu2 H2 h2 x2 r2 q2 us rus => ?_⟩
          exact ⟨z, ds, h2, mu2, r2, Rep.mono x2 _ _ rv', rus, q2⟩
  | join => exact weakE (pe_bm PySem.F.plainAttrs_str PySem.F.slot_str_join PySem.F.type_str_join m_join ho ha (hbase := hbase) (hfew := hfew') (hline := hline) (hs := hs) (hplain := hplain)) fun _ _ _ q => tBMS_of (m := .join) (fun x hx => hx) q
  | split => exact weakE (pe_bm PySem.F.plainAttrs_str PySem.F.slot_str_split PySem.F.type_str_split m_split ho ha (hbase := hbase) (hfew := hfew') (hline := hline) (hs := hs) (hplain := hplain)) fun _ _ _ q => tBMS_of (m := .split) (fun x hx => hx) q
  | insert => exact weakE (pe_bm PySem.F.plainAttrs_list PySem.F.slot_list_insert PySem.F.type_list_insert m_insert ho ha (hbase := hbase) (hfew := hfew') (hline := hline) (hs := hs) (hplain := hplain)) fun _ _ _ q => tBM_of (m := .insert) (fun x hx => hx) q
  | remove => exact weakE (pe_bm PySem.F.plainAttrs_list PySem.F.slot_list_remove PySem.F.type_list_remove m_remove ho ha (hbase := hbase) (hfew := hfew') (hline := hline) (hs := hs) (hplain := hplain)) fun _ _ _ q => tBM_of (m := .remove) (fun x hx => hx) q
  | index =>
    refine weakE (orE (pe_bm PySem.F.plainAttrs_list PySem.F.slot_list_index PySem.F.type_list_index (m_indexL (W := W) G) ho ha (hbase := hbase) (hfew := hfew') (hline := hline) (hs := hs) (hplain := hplain))
      (pe_bmT PySem.F.plainAttrs_tuple PySem.F.slot_tuple_index PySem.F.type_tuple_index (m_indexT (W := W) G) ho ha hbase hfew' hline hs hplain)) fun sg H Q q => ?_
    obtain ⟨env, h, mu, re, rh, q⟩ := q
    have q := q.bind
    cases e : ma env h with
    | stuck =>
      rw [e] at q
      exact False.elim q
    | exn c h' =>
      rw [e] at q
      refine .inl ⟨env, h, mu, re, rh, ?_⟩
      rw [e]
      exact q
    | ok d h' =>
      rw [e] at q
      by_cases hd : ∃ n, d = .ref n
      · obtain ⟨n, rfl⟩ := hd
        refine .inl ⟨env, h, mu, re, rh, ?_⟩
        rw [e]
        intro mu1 H1 x1 r1 v rv
        obtain ⟨_, q1⟩ := pO.need (q mu1 H1 x1 r1)
        refine ⟨ref_ty r1 rv, env, h', mu1, re.mono x1, r1, q1.bind.mono fun ds mu2 H2 h2 x2 r2 q2 us rus => ?_⟩
        exact ⟨n, ds, h2, mu2, r2, Rep.mono x2 _ _ rv, rus, q2⟩
      · refine .inr ⟨env, h, mu, re, rh, ?_⟩
        rw [e]
        intro mu1 H1 x1 r1 v rv
        obtain ⟨hn, q1⟩ := pO.need (q mu1 H1 x1 r1)
        rcases hn with hn | ⟨es, rfl⟩
        · exact absurd hn hd
        · have rv' := rv
          simp only [Rep] at rv
          obtain ⟨a, ws, rfl, s1, rs⟩ := rv
          refine ⟨⟨a, ws, rfl, s1.t, s1.noD⟩, env, h', mu1, re.mono x1, r1, q1.bind.mono fun ds mu2 H2 h2 x2 r2 q2 us rus => ?_⟩
          exact ⟨es, ds, h2, mu2, r2, Rep.mono x2 _ _ rv', rus, q2⟩
/-! methods without arguments -/
def rM0 (K : Fr) (W : EX) (f : D → Hh → Out D) : V → List V → Hp → VK → Prop := fun x vs H Q => vs = [] ∧ ∃ d h mu, RelH K mu H h ∧ Rep K mu H d x ∧ pO K W mu H (f d h) (fun d mu' H' _ => ∀ v, Rep K mu' H' d v → Q v H')
theorem dropLast_reps {K : Fr} {mu : List Addr} {H : Hp} {ds : List D} {ws : List V} (r : Reps K mu H ds ws) : Reps K mu H ds.dropLast ws.dropLast := by
  rw [List.dropLast_eq_take, List.dropLast_eq_take, r.length]
  exact r.take _
theorem m_pop0 : MtR X "list.pop" (rM0 X.K W (evM0 .pop)) := by
  intro pins s σ H x xs v us Q I rx rs hh
  obtain ⟨rfl, d, h, mu, rh, r1, q⟩ := hh
  simp only [evM0] at q
  split at q <;> first | exact False.elim q | skip
  split at q <;> first | exact False.elim q | skip
  rename_i e1
  split at q <;> first | exact False.elim q | skip
  rename_i y e2
  obtain ⟨a, ws, rfl, m, h1, q1⟩ := ref_of rh r1 e1
  obtain ⟨w, e3, rw'⟩ := q1.get e2
  refine mt_pop pins s σ H _ _ v us Q I rx rs ⟨a, ws, w, rfl, rfl, h1, by rw [← q1.length]; exact e3, ?_⟩
  have x1 : Ext mu H mu (upd H a (.lst ws.dropLast)) := Ext.setL (List.mem_of_getElem? m) h1 rfl
  exact q mu _ x1 (rh.setL m h1 (dropLast_reps q1)) _ (Rep.mono x1 _ _ rw')
theorem m_reverse : MtR X "list.reverse" (rM0 X.K W (evM0 .reverse)) := by
  intro pins s σ H x xs v us Q I rx rs hh
  obtain ⟨rfl, d, h, mu, rh, r1, q⟩ := hh
  simp only [evM0] at q
  split at q <;> first | exact False.elim q | skip
  split at q <;> first | exact False.elim q | skip
  rename_i e1
  obtain ⟨a, ws, rfl, m, h1, q1⟩ := ref_of rh r1 e1
  refine mt_reverse pins s σ H _ _ v us Q I rx rs ⟨a, ws, rfl, rfl, h1, ?_⟩
  exact q mu _ (Ext.setL (List.mem_of_getElem? m) h1 rfl) (rh.setL m h1 q1.rev) _ (by simp [Rep])
theorem m_clear : MtR X "list.clear" (rM0 X.K W (evM0 .clear)) := by
  intro pins s σ H x xs v us Q I rx rs hh
  obtain ⟨rfl, d, h, mu, rh, r1, q⟩ := hh
  simp only [evM0] at q
  split at q <;> first | exact False.elim q | skip
  split at q <;> first | exact False.elim q | skip
  rename_i e1
  obtain ⟨a, ws, rfl, m, h1, q1⟩ := ref_of rh r1 e1
  refine mt_clear pins s σ H _ _ v us Q I rx rs ⟨a, ws, rfl, rfl, h1, ?_⟩
  exact q mu _ (Ext.setL (List.mem_of_getElem? m) h1 rfl) (rh.setL m h1 (ds := []) (by simp [Reps])) _ (by simp [Rep])
def mt0Of : Mt0 → Str
  | .pop => "pop"
  | .reverse => "reverse"
  | .clear => "clear"
theorem tBM0_of {m : Mt0} {sg : L2.St} {H : Hp} {Q : VK} (h : tE X.K W (fun env h => (ma env h).bind fun x h1 => evM0 m x h1) sg H Q) : tBM0 X.K "list" (rM0 X.K W (evM0 m)) (tE X.K W ma) sg H Q := by
  obtain ⟨env, h, mu, re, rh, q⟩ := h
  refine ⟨env, h, mu, re, rh, q.bind.mono fun x mu1 H1 h1 x1 r1 q1 v rv => ?_⟩
  have key : ∃ n, x = .ref n := by
    cases x <;> first | exact ⟨_, rfl⟩ | (cases m <;> exact False.elim q1)
  obtain ⟨n, rfl⟩ := key
  exact ⟨ref_ty r1 rv, rfl, .ref n, h1, mu1, r1, rv, q1⟩
theorem s_mt0 {m : Mt0} {apos cpos : Pos} {o : Expr} (ho : PE X o (tE X.K W ma)) (hbase : attributeBase o (mt0Of m) X.env (eval o X.env) = eval o X.env) (hline : (apos.endLine == cpos.line) = true) :
    PE X (.Call (.Attribute o (mt0Of m) apos) [] [] cpos) (tE X.K W fun env h => (ma env h).bind fun x h1 => evM0 m x h1) := by
  cases m with
  | pop => exact weakE (pe_bm0 PySem.F.plainAttrs_list PySem.F.slot_list_pop PySem.F.type_list_pop m_pop0 ho (hbase := hbase) (hline := hline)) fun _ _ _ q => tBM0_of q
  | reverse => exact weakE (pe_bm0 PySem.F.plainAttrs_list PySem.F.slot_list_reverse PySem.F.type_list_reverse m_reverse ho (hbase := hbase) (hline := hline)) fun _ _ _ q => tBM0_of q
  | clear => exact weakE (pe_bm0 PySem.F.plainAttrs_list PySem.F.slot_list_clear PySem.F.type_list_clear m_clear ho (hbase := hbase) (hline := hline)) fun _ _ _ q => tBM0_of q

/-! ### what is walked -/
def JOk (K : Fr) (mu0 : List Addr) (H0 : Hp) (x : Its) (J : It) : Prop := ∃ G Y, Walk J x.1.length G Y ∧
  (∀ mu H h, Ext mu0 H0 mu H → RelH K mu H h → chkOk x.2 h → G H) ∧
  ∀ mu H h i v H', Ext mu0 H0 mu H → RelH K mu H h → chkOk x.2 h → Y i H v H' → ∃ d, x.1[i]? = some d ∧ Ext mu H mu H' ∧ RelH K mu H' h ∧ Rep K mu H' d v
def tI (K : Fr) (W : EX) (m : Env → Hh → Out Its) : TI := fun sg H R => ∃ env h mu, RelEnv K mu H env sg ∧ RelH K mu H h ∧ pO K W mu H (m env h) fun x mu' H' _ => ∀ J, JOk K mu' H' x J → R J H'
theorem weakI {tg it : Expr} {t t' : TI} (h : PI X tg it t) (f : ∀ sg H R, t' sg H R → t sg H R) : PI X tg it t' := ⟨fun pins s sg H R I q => h.run pins s sg H R I (f _ _ _ q)⟩
theorem orI {tg it : Expr} {t t' : TI} (h : PI X tg it t) (h' : PI X tg it t') : PI X tg it (fun sg H R => t sg H R ∨ t' sg H R) :=
  ⟨fun pins s sg H R I q => q.elim (h.run pins s sg H R I) (h'.run pins s sg H R I)⟩

theorem chk_one {h : Hh} {n : Nat} {ds : List D} (c : chkOk [(n, ds)] h) : h[n]? = some (.lst ds) := c _ (List.mem_singleton.mpr rfl)
/-- a list that is walked: where it stands now -/
theorem refL_now {K : Fr} {mu0 mu : List Addr} {H0 H : Hp} {h : Hh} {n : Nat} {a : Addr} {ds : List D} (m : mu0[n]? = some a) (x : Ext mu0 H0 mu H) (r : RelH K mu H h) (c : h[n]? = some (.lst ds)) : ∃ ws, SqL K H a ws ∧ Reps K mu H ds ws := by
  obtain ⟨ws, e, q⟩ := r.obj n _ a c (x.get m)
  exact ⟨ws, .inl (.inl e), q⟩
theorem frz_now {K : Fr} {mu0 mu : List Addr} {H0 H : Hp} {a : Addr} {ds : List D} (r : Rep K mu0 H0 (.frz ds) (.ref a)) (x : Ext mu0 H0 mu H) : ∃ ws, SqL K H a ws ∧ Reps K mu H ds ws := by
  have r' := Rep.mono x _ _ r
  simp only [Rep] at r'
  obtain ⟨b, ws, e, s, q⟩ := r'
  cases e
  refine ⟨ws, ?_, q⟩
  rcases s with ⟨o, s⟩ | s
  · exact .inl (.inr ⟨o, s⟩)
  · exact .inr s
theorem tup_now {K : Fr} {mu0 mu : List Addr} {H0 H : Hp} {a : Addr} {ds : List D} (r : Rep K mu0 H0 (.tup ds) (.ref a)) (x : Ext mu0 H0 mu H) : ∃ ws, SqT K H a ws ∧ Reps K mu H ds ws := by
  have r' := Rep.mono x _ _ r
  simp only [Rep] at r'
  obtain ⟨b, ws, e, s, q⟩ := r'
  cases e
  exact ⟨ws, s.t, q⟩
/-- J walks a list whose items are ds as long as c holds -/
theorem jok_list {K : Fr} {mu0 : List Addr} {H0 : Hp} {a : Addr} {ds : List D} {chk : List (Nat × List D)} (now : ∀ mu H h, Ext mu0 H0 mu H → RelH K mu H h → chkOk chk h → ∃ ws, SqL K H a ws ∧ Reps K mu H ds ws) : JOk K mu0 H0 (ds, chk) (Itl K a) := by
  refine ⟨fun H => ∃ ws, SqL K H a ws ∧ ws.length = ds.length, fun i H v H' => H' = H ∧ ∀ ws, SqL K H a ws → ws[i]? = some v,
    ⟨fun i H hi q => ?_, fun H q => ?_, fun i H v H' _ _ y => ⟨y.1, y.2⟩⟩, fun mu H h x r c => ?_, fun mu H h i v H' x r c y => ?_⟩
  · obtain ⟨ws, q, e⟩ := q
    exact ⟨ws, ws[i]'(by rw [e]; exact hi), q, List.getElem?_eq_getElem _⟩
  · obtain ⟨ws, q, e⟩ := q
    exact ⟨ws, q, Nat.le_of_eq e⟩
  · obtain ⟨ws, q, rs⟩ := now mu H h x r c
    exact ⟨ws, q, rs.length.symm⟩
  · obtain ⟨ws, q, rs⟩ := now mu H h x r c
    obtain ⟨rfl, y⟩ := y
    have e := y ws q
    have hi : i < ds.length := by
      rw [rs.length]
      exact (List.getElem?_eq_some_iff.mp e).1
    obtain ⟨w, e1, rw'⟩ := rs.get (List.getElem?_eq_getElem hi)
    rw [e] at e1
    cases e1
    exact ⟨ds[i], List.getElem?_eq_getElem hi, Ext.refl, r, rw'⟩
theorem jok_tup {K : Fr} {mu0 : List Addr} {H0 : Hp} {a : Addr} {ds : List D} {chk : List (Nat × List D)} (now : ∀ mu H h, Ext mu0 H0 mu H → RelH K mu H h → chkOk chk h → ∃ ws, SqT K H a ws ∧ Reps K mu H ds ws) : JOk K mu0 H0 (ds, chk) (Itt K a) := by
  refine ⟨fun H => ∃ ws, SqT K H a ws ∧ ws.length = ds.length, fun i H v H' => H' = H ∧ ∀ ws, SqT K H a ws → ws[i]? = some v,
    ⟨fun i H hi q => ?_, fun H q => ?_, fun i H v H' _ _ y => ⟨y.1, y.2⟩⟩, fun mu H h x r c => ?_, fun mu H h i v H' x r c y => ?_⟩
  · obtain ⟨ws, q, e⟩ := q
    exact ⟨ws, ws[i]'(by rw [e]; exact hi), q, List.getElem?_eq_getElem _⟩
  · obtain ⟨ws, q, e⟩ := q
    exact ⟨ws, q, Nat.le_of_eq e⟩
  · obtain ⟨ws, q, rs⟩ := now mu H h x r c
    exact ⟨ws, q, rs.length.symm⟩
  · obtain ⟨ws, q, rs⟩ := now mu H h x r c
    obtain ⟨rfl, y⟩ := y
    have e := y ws q
    have hi : i < ds.length := by
      rw [rs.length]
      exact (List.getElem?_eq_some_iff.mp e).1
    obtain ⟨w, e1, rw'⟩ := rs.get (List.getElem?_eq_getElem hi)
    rw [e] at e1
    cases e1
    exact ⟨ds[i], List.getElem?_eq_getElem hi, Ext.refl, r, rw'⟩
theorem rangeD_get {lo : Int} {n i : Nat} (h : i < n) : (rangeD lo n)[i]? = some (.int (lo + (i : Nat))) := by
  unfold rangeD
  rw [List.getElem?_map, List.getElem?_range h]
  rfl
theorem rangeD_length {lo : Int} {n : Nat} : (rangeD lo n).length = n := by unfold rangeD; simp
theorem jok_range {K : Fr} {mu0 : List Addr} {H0 : Hp} {lo : Int} {n : Nat} : JOk K mu0 H0 (rangeD lo n, []) (Itr lo n) := by
  refine ⟨fun _ => True, fun i H v H' => i < n ∧ H' = H ∧ v = .int (lo + i), ⟨fun i H hi _ => ?_, fun H _ => ?_, fun i H v H' hi _ y => ?_⟩, fun _ _ _ _ _ _ => trivial, fun mu H h i v H' x r c y => ?_⟩
  · rw [rangeD_length] at hi; exact hi
  · rw [rangeD_length]; exact Nat.le_refl _
  · rw [rangeD_length] at hi; exact ⟨hi, y⟩
  · obtain ⟨hi, rfl, rfl⟩ := y
    exact ⟨_, rangeD_get hi, Ext.refl, r, by simp [Rep]⟩

theorem jok_keys {K : Fr} {mu0 : List Addr} {H0 : Hp} {a : Addr} {o : Obj} {kvs : List (Key × V)} {ks : List Int} (ek : kvs.map (·.1) = ks.map Sum.inl) (ha : H0 a = some (.frz o (.dK kvs))) : JOk K mu0 H0 (ks.map D.int, []) (Itk a o kvs) := by
  have el : kvs.length = ks.length := by have := congrArg List.length ek; simpa using this
  refine ⟨fun H => H a = some (.frz o (.dK kvs)), fun i H v H' => H' = H ∧ ∃ k v', kvs[i]? = some (k, v') ∧ v = kV k,
    ⟨fun i H hi q => ⟨q, by rw [el]; simpa using hi⟩, fun H q => ⟨q, by rw [el]; simp⟩, fun i H v H' _ _ y => y⟩, fun mu H h x r c => x.keep _ _ ha (.inr rfl), fun mu H h i v H' x r c y => ?_⟩
  obtain ⟨rfl, k, v', e, rfl⟩ := y
  have e1 : (kvs.map (·.1))[i]? = some k := by rw [List.getElem?_map, e]; rfl
  rw [ek, List.getElem?_map, Option.map_eq_some_iff] at e1
  obtain ⟨j, e2, rfl⟩ := e1
  exact ⟨.int j, by rw [List.getElem?_map, e2]; rfl, Ext.refl, r, by simp [Rep, kV]⟩
theorem jok_str {K : Fr} {mu0 : List Addr} {H0 : Hp} {z : Str} : JOk K mu0 H0 (signs z, []) (L2.Its z) := by
  have el : (signs z).length = z.cps.size := by simp [signs]
  refine ⟨_, _, by rw [el]; exact walk_str, fun _ _ _ _ _ _ => trivial, fun mu H h i v H' x r c y => ?_⟩
  obtain ⟨rfl, k, e, rfl⟩ := y
  refine ⟨.str ⟨#[k]⟩, ?_, Ext.refl, r, by simp [Rep]⟩
  unfold signs
  rw [List.getElem?_map, Array.getElem?_toList, e]; rfl
/-- a list or tuple that is walked -/
theorem s_itSeq {tg : Expr} (ha : PE X a (tE X.K W ma)) : PI X tg a (tI X.K W fun env h => (ma env h).bind itSeq) :=
  weakI (orI (orI (orI (pi_list ha) (pi_tup ha)) (pi_keys ha)) (pi_str ha)) fun sg H R q => by
    obtain ⟨env, h, mu, re, rh, q⟩ := q
    have q := q.bind
    cases e : ma env h with
    | stuck =>
      rw [e] at q
      exact False.elim q
    | exn c h' =>
      rw [e] at q
      refine .inl (.inl (.inl ⟨env, h, mu, re, rh, ?_⟩))
      rw [e]
      exact q
    | ok d h' =>
      rw [e] at q
      cases d with
      | tup ds =>
        refine .inl (.inl (.inr ⟨env, h, mu, re, rh, ?_⟩))
        rw [e]
        intro mu1 H1 x1 r1 v rv
        have q1 := (q mu1 H1 x1 r1).ok r1
        have rv' := rv
        simp only [Rep] at rv
        obtain ⟨p, ws, rfl, s1, rs⟩ := rv
        exact ⟨p, rfl, ⟨ws, s1.t⟩, q1 _ (jok_tup fun mu H h x r c => tup_now rv' x)⟩
      | frz ds =>
        refine .inl (.inl (.inl ⟨env, h, mu, re, rh, ?_⟩))
        rw [e]
        intro mu1 H1 x1 r1 v rv
        have q1 := (q mu1 H1 x1 r1).ok r1
        obtain ⟨p, ws, rfl, s1, rs⟩ := seqL_of (h := h') r1 rv rfl
        exact ⟨p, rfl, ⟨ws, s1⟩, q1 _ (jok_list fun mu H h x r c => frz_now rv x)⟩
      | ref n =>
        refine .inl (.inl (.inl ⟨env, h, mu, re, rh, ?_⟩))
        rw [e]
        intro mu1 H1 x1 r1 v rv
        have q1 := q mu1 H1 x1 r1
        simp only [itSeq] at q1
        split at q1
        · rename_i ds e2
          have q2 := q1.ok r1
          obtain ⟨p, ws, rfl, m, h1, rs⟩ := ref_of r1 rv e2
          exact ⟨p, rfl, ⟨ws, .inl (.inl h1)⟩, q2 _ (jok_list fun mu H h x r c => refL_now m x r (chk_one c))⟩
        · exact False.elim q1
      | dct ks ds =>
        refine .inl (.inr ⟨env, h, mu, re, rh, ?_⟩)
        rw [e]
        intro mu1 H1 x1 r1 v rv
        have q1 := (q mu1 H1 x1 r1).ok r1
        simp only [Rep] at rv
        obtain ⟨p, rfl, o, kvs, e1, ek, rs⟩ := rv
        exact ⟨p, o, rfl, .inl ⟨kvs, e1, q1 _ (jok_keys ek e1)⟩⟩
      | str z =>
        refine .inr ⟨env, h, mu, re, rh, ?_⟩
        rw [e]
        intro mu1 H1 x1 r1 v rv
        have q1 := (q mu1 H1 x1 r1).ok r1
        simp only [Rep] at rv
        subst rv
        exact ⟨z, rfl, q1 _ jok_str⟩
      | _ =>
        refine .inl (.inl (.inl ⟨env, h, mu, re, rh, ?_⟩))
        rw [e]
        intro mu1 H1 x1 r1 v rv
        exact False.elim (q mu1 H1 x1 r1)
/-- one argument, two arguments -/
abbrev one1 (ma : Env → Hh → Out D) : Env → Hh → Out (List D) := fun env h => (ma env h).bind fun x h1 => (Out.ok [] h1).bind fun xs h2 => .ok (x :: xs) h2
abbrev two2 (ma mb : Env → Hh → Out D) : Env → Hh → Out (List D) := fun env h => (ma env h).bind fun x h1 => (one1 mb env h1).bind fun xs h2 => .ok (x :: xs) h2
theorem one_of {α : Type} {K : Fr} {mu : List Addr} {H : Hp} {f : List D → Hh → Out α} {env : Env} {h : Hh} {R : α → List Addr → Hp → Hh → Prop} (q : pO K W mu H ((one1 ma env h).bind f) R) :
    pO K W mu H (one1 ma env h) (fun ds mu' H' h' => ∃ d, ds = [d] ∧ pO K W mu' H' (f [d] h') R) := by
  cases e : ma env h with
  | ok d h' =>
    simp only [one1, e, Out.bind_ok] at q ⊢
    exact fun mu1 H1 x1 r1 => ⟨d, rfl, pO.ext (o := f [d] h') q x1⟩
  | _ => simp only [one1, e, Out.bind_exn, Out.bind_stuck] at q ⊢; exact q
theorem two_of {α : Type} {K : Fr} {mu : List Addr} {H : Hp} {f : List D → Hh → Out α} {env : Env} {h : Hh} {R : α → List Addr → Hp → Hh → Prop} (q : pO K W mu H ((two2 ma mb env h).bind f) R) :
    pO K W mu H (two2 ma mb env h) (fun ds mu' H' h' => ∃ d d', ds = [d, d'] ∧ pO K W mu' H' (f [d, d'] h') R) := by
  cases e : ma env h with
  | ok d h' =>
    cases e2 : mb env h' with
    | ok d' h'' =>
      simp only [two2, one1, e, e2, Out.bind_ok] at q ⊢
      exact fun mu1 H1 x1 r1 => ⟨d, d', rfl, pO.ext (o := f [d, d'] h'') q x1⟩
    | _ => simp only [two2, one1, e, e2, Out.bind_ok, Out.bind_exn, Out.bind_stuck] at q ⊢; exact q
  | _ => simp only [two2, e, Out.bind_exn, Out.bind_stuck] at q ⊢; exact q
theorem tb1 {α : Type} {K : Fr} {mu : List Addr} {H : Hp} {f : List D → Hh → Out α} {env : Env} {h : Hh} {R : α → List Addr → Hp → Hh → Prop} (q : pO K W mu H ((one1 ma env h).bind f) R) :
    pO K W mu H (ma env h) (fun d mu' H' h' => pO K W mu' H' (f [d] h') R) := by
  cases e : ma env h with
  | ok d h' =>
    simp only [one1, e, Out.bind_ok] at q ⊢
    exact fun mu1 H1 x1 r1 => pO.ext (o := f [d] h') q x1
  | _ => simp only [one1, e, Out.bind_exn, Out.bind_stuck] at q ⊢; exact q
theorem tb2 {α : Type} {K : Fr} {mu : List Addr} {H : Hp} {f : List D → Hh → Out α} {env : Env} {h : Hh} {R : α → List Addr → Hp → Hh → Prop} (q : pO K W mu H ((two2 ma mb env h).bind f) R) :
    pO K W mu H (ma env h) (fun d mu' H' h' => pO K W mu' H' (mb env h') (fun d' mu2 H2 h2 => pO K W mu2 H2 (f [d, d'] h2) R)) := by
  cases e : ma env h with
  | ok d h' =>
    simp only [two2, one1, e, Out.bind_ok] at q ⊢
    refine fun mu1 H1 x1 r1 => ?_
    cases e2 : mb env h' with
    | ok d' h'' =>
      simp only [e2, Out.bind_ok] at q ⊢
      exact fun mu2 H2 x2 r2 => pO.ext (o := f [d, d'] h'') (pO.ext (o := f [d, d'] h'') q x1) x2
    | _ => simp only [e2, Out.bind_exn, Out.bind_stuck] at q ⊢; first | exact q.ext x1 | exact q
  | _ => simp only [two2, e, Out.bind_exn, Out.bind_stuck] at q ⊢; exact q
theorem s_itRange1 {tg : Expr} {p : Pos} (hg : Gl X "range") (hm : X.mg "range" = none) (ha : PE X a (tE X.K W ma)) (hs : starEach [a] X.env = [(false, eval a X.env)]) :
    PI X tg (.Call (.Name "range" p) [a] [] pos) (tI X.K W fun env h => (one1 ma env h).bind (itB .range)) :=
  weakI (pi_range1 hg hm (s_cons ha s_nil hs) (hs := hs)) fun sg H R q => by
    obtain ⟨env, h, mu, re, rh, q⟩ := q
    refine ⟨env, h, mu, re, rh, (one_of q).mono fun ds mu1 H1 h1 x1 r1 q1 vs rs => ?_⟩
    obtain ⟨d, rfl, q1⟩ := q1
    simp only [itB, itRange] at q1
    split at q1
    · rename_i e1
      cases e1
      obtain ⟨hz, q1⟩ := pO.need q1
      obtain ⟨v, rfl, rv⟩ := reps1 rs
      simp only [Rep] at rv
      subst rv
      exact ⟨_, rfl, hz.1, hz.2, q1.ok r1 _ jok_range⟩
    · rename_i e1
      cases e1
    · exact False.elim q1
theorem s_itRange2 {tg : Expr} {p : Pos} (hg : Gl X "range") (hm : X.mg "range" = none) (ha : PE X a (tE X.K W ma)) (hb : PE X b (tE X.K W mb)) (ns : starEach [b] X.env = [(false, eval b X.env)])
    (hs : starEach [a, b] X.env = [(false, eval a X.env), (false, eval b X.env)]) :
    PI X tg (.Call (.Name "range" p) [a, b] [] pos) (tI X.K W fun env h => (two2 ma mb env h).bind (itB .range)) :=
  weakI (pi_range2 hg hm (s_cons ha (s_cons hb s_nil ns) (by rw [hs, ns])) (hs := hs) (hs2 := ns)) fun sg H R q => by
    obtain ⟨env, h, mu, re, rh, q⟩ := q
    refine ⟨env, h, mu, re, rh, (two_of q).mono fun ds mu1 H1 h1 x1 r1 q1 vs rs => ?_⟩
    obtain ⟨d, d', rfl, q1⟩ := q1
    simp only [itB, itRange] at q1
    split at q1
    · rename_i e1
      cases e1
    · rename_i e1
      cases e1
      obtain ⟨hz, q1⟩ := pO.need q1
      obtain ⟨v, w, rfl, rv, rw'⟩ := reps2 rs
      simp only [Rep] at rv rw'
      subst rv rw'
      exact ⟨_, _, rfl, hz, q1.ok r1 _ jok_range⟩
    · exact False.elim q1

/-- list(range(..)) -/
theorem rgV_of {K : Fr} {mu : List Addr} {H : Hp} (lo : Int) (n : Nat) : Reps K mu H (rangeD lo n) ((List.range n).map fun i => V.int (lo + (i : Nat))) := by
  unfold rangeD
  induction (List.range n) with
  | nil => simp [Reps]
  | cons i is ih =>
    simp only [List.map_cons, Reps]
    exact ⟨_, _, rfl, by simp [Rep], ih⟩
theorem lrange_of {K : Fr} {mu : List Addr} {H : Hp} {h : Hh} {lo hi : Int} {Q : VK} {x : Its} (rh : RelH K mu H h) (h1 : -(2 ^ 62) ≤ lo ∧ lo < 2 ^ 62 ∧ -(2 ^ 62) ≤ hi ∧ hi < 2 ^ 62) (q : pO K W mu H (mkL (rangeD lo (hi - lo).toNat) h) (fun d mu' H' _ => ∀ v, Rep K mu' H' d v → Q v H')) :
    RgOk lo hi ∧ ∀ p, H p = none → Q (.ref p) (upd H p (.lst (rgV lo hi))) := by
  have := mkL_of rh (rgV_of (K := K) (mu := mu) (H := H) lo (hi - lo).toNat) q
  refine ⟨⟨h1.1, h1.2.1, h1.2.2.1, h1.2.2.2, ?_⟩, this.2⟩
  have hl := this.1
  rw [List.length_map, List.length_range, sizeLine_eq] at hl
  omega
theorem s_lrange1 {p p2 pos2 : Pos} (hc : X.calm = true) (hg : Gl X "list") (hm : X.mg "list" = none) (hg2 : Gl X "range") (hm2 : X.mg "range" = none) (ha : PE X a (tE X.K W ma)) (hs : starEach [a] X.env = [(false, eval a X.env)]) :
    PE X (.Call (.Name "list" p) [.Call (.Name "range" p2) [a] [] pos2] [] pos) (tE X.K W fun env h => (one1 ma env h).bind fLrange) :=
  weakE (pe_listRg hc hg hm (prg_1 hg2 hm2 ha hs) rfl) fun sg H Q q => by
    obtain ⟨env, h, mu, re, rh, q⟩ := q
    refine ⟨env, h, mu, re, rh, (tb1 q).mono fun d mu1 H1 h1 x1 r1 q1 v rv => ?_⟩
    unfold fLrange itRange at q1
    split at q1
    · rename_i e1
      cases e1
      simp only [Rep] at rv
      subst rv
      obtain ⟨hz, q2⟩ := pO.need q1.bind
      exact ⟨_, rfl, lrange_of (x := (rangeD 0 0, [])) r1 ⟨by omega, by omega, hz.1, hz.2⟩ (by simpa using q2.ok r1)⟩
    · rename_i e1
      cases e1
    · exact False.elim q1
theorem s_lrange2 {p p2 pos2 : Pos} (hc : X.calm = true) (hg : Gl X "list") (hm : X.mg "list" = none) (hg2 : Gl X "range") (hm2 : X.mg "range" = none) (ha : PE X a (tE X.K W ma)) (hb : PE X b (tE X.K W mb)) (ns : starEach [b] X.env = [(false, eval b X.env)])
    (hs : starEach [a, b] X.env = (false, eval a X.env) :: starEach [b] X.env) :
    PE X (.Call (.Name "list" p) [.Call (.Name "range" p2) [a, b] [] pos2] [] pos) (tE X.K W fun env h => (two2 ma mb env h).bind fLrange) :=
  weakE (pe_listRg hc hg hm (prg_2 hg2 hm2 ha hb hs ns (by rw [ns]; rfl)) rfl) fun sg H Q q => by
    obtain ⟨env, h, mu, re, rh, q⟩ := q
    refine ⟨env, h, mu, re, rh, (tb2 q).mono fun d mu1 H1 h1 x1 r1 q1 v rv => ?_⟩
    refine ⟨env, h1, mu1, re.mono x1, r1, q1.mono fun d2 mu2 H2 h2 x2 r2 q2 v2 rv2 => ?_⟩
    unfold fLrange itRange at q2
    split at q2
    · rename_i e1
      cases e1
    · rename_i e1
      cases e1
      have rv' := rv.mono x2
      simp only [Rep] at rv' rv2
      subst rv' rv2
      obtain ⟨hz, q3⟩ := pO.need q2.bind
      exact ⟨_, _, rfl, rfl, lrange_of (x := (rangeD 0 0, [])) r2 hz (by simpa using q3.ok r2)⟩
    · exact False.elim q2

/-! ### targets -/
def tG (K : Fr) (W : EX) (m : D → Env → Hh → Out Env) : TG := fun v sg H Q => ∃ d env h mu, Rep K mu H d v ∧ RelEnv K mu H env sg ∧ RelH K mu H h ∧ pO K W mu H (m d env h) fun env' mu' H' _ => ∀ sg', RelEnv K mu' H' env' sg' → Q sg' H'
theorem weakG {tg : Expr} {t t' : TG} (h : PG X tg t) (f : ∀ v sg H Q, t' v sg H Q → t v sg H Q) : PG X tg t' := ⟨fun pins s sg H v u Q I r q => h.run pins s sg H v u Q I r (f _ _ _ _ q)⟩
theorem RelEnv.set {K : Fr} {mu : List Addr} {H : Hp} {env : Env} {sg : L2.St} {i : Nat} {d : D} {v : V} (r : RelEnv K mu H env sg) (q : Rep K mu H d v) : RelEnv K mu H (env.set i (some d)) (sg.set i (some v)) := by
  refine ⟨by simp [r.len], fun j d' e => ?_⟩
  by_cases hj : i = j
  · subst hj
    have hl : i < env.length := by
      have := (List.getElem?_eq_some_iff.mp e).1
      simpa using this
    rw [List.getElem?_set_self hl] at e
    cases e
    exact ⟨v, by rw [List.getElem?_set_self (by rw [← r.len]; exact hl)], q⟩
  · rw [List.getElem?_set_ne hj] at e ⊢
    exact r.at_ j d' e
theorem wipe_set {i : Nat} {v : Option V} : ∀ {own : List Nat} {sg : L2.St}, i ∈ own → L2.wipe (sg.set i v) own = L2.wipe sg own
  | [], _, h => by cases h
  | j :: js, sg, h => by
    unfold L2.wipe
    by_cases hj : i ∈ js
    · rw [wipe_set hj]
    · rcases List.mem_cons.mp h with e | h
      · subst e
        have key : ∀ (js : List Nat) (sg : L2.St), i ∉ js → L2.wipe (sg.set i v) js = (L2.wipe sg js).set i v := by
          intro js
          induction js with
          | nil => intro sg _; rfl
          | cons k ks ih =>
            intro sg hk
            simp only [List.mem_cons, not_or] at hk
            unfold L2.wipe
            rw [ih sg hk.2, List.set_comm _ _ hk.1]
        rw [key js sg hj, List.set_set]
      · exact absurd h hj
/-- a target of names of the block's own: what they stored is wiped again -/
def OwnT (tg : Ex) (own : List Nat) : Prop := match tg with
  | .var i => i ∈ own
  | .tup [.var i, .var j] => i ∈ own ∧ j ∈ own
  | .tup [.var i, .var j, .var k] => i ∈ own ∧ j ∈ own ∧ k ∈ own
  | _ => False
/-- names alone: what asgN stores -/
def tN (K : Fr) (tg : Ex) : TG := fun v sg H Q => ∃ d env env' mu, Rep K mu H d v ∧ RelEnv K mu H env sg ∧ asgN tg d env = some env' ∧ ∀ sg', RelEnv K mu H env' sg' → (∀ own, OwnT tg own → L2.wipe sg' own = L2.wipe sg own) → Q sg' H
theorem s_gname {i : Nat} {x : Str} (G : Good X) (hi : X.N[i]? = some x) (hx : Loc X.env.scope x ∧ (X.fn x = true ∨ X.env.scope.names.lookup x = some .local)) : PG X (.Name x pos) (tN X.K (.var i)) :=
  weakG (pg_name G.nd hi hx.1 (hf := hx.2)) fun v sg H Q q => by
    obtain ⟨d, env, env', mu, rd, re, e, q⟩ := q
    simp only [asgN, Option.some.injEq] at e
    subst e
    exact q _ (re.set rd) fun own ho => wipe_set ho
theorem s_gtup2 {i j : Nat} {x y : Str} {k : Nat} {p p2 : Pos} (G : Good X) (hi : X.N[i]? = some x) (hx : Loc X.env.scope x ∧ (X.fn x = true ∨ X.env.scope.names.lookup x = some .local)) (hj : X.N[j]? = some y) (hy : Loc X.env.scope y ∧ (X.fn y = true ∨ X.env.scope.names.lookup y = some .local)) :
    PG X (.Tuple [.Name x p, .Name y p2] k pos) (tN X.K (.tup [.var i, .var j])) :=
  weakG (pg_tup G.calm (pgs_cons (pg_name G.nd hi hx.1 (hf := hx.2)) (pgs_cons (pg_name G.nd hj hy.1 (hf := hy.2)) pgs_nil))) fun v sg H Q q => by
    obtain ⟨d, env, env', mu, rd, re, e, q⟩ := q
    cases d with
    | tup ds =>
      rcases ds with _ | ⟨d, _ | ⟨d', _ | ⟨d'', ds⟩⟩⟩ <;> simp only [asgN, reduceCtorEq, Option.some.injEq] at e
      subst e
      simp only [Rep] at rd
      obtain ⟨a, ws, rfl, s1, rs⟩ := rd
      obtain ⟨v1, v2, rfl, r1, r2⟩ := reps2 rs
      exact ⟨a, _, rfl, s1.t, rfl, v1, _, rfl, v2, _, rfl, rfl, q _ ((re.set r1).set r2) fun own ho => by rw [wipe_set ho.2, wipe_set ho.1]⟩
    | _ => simp [asgN] at e
theorem s_gtup3 {i j l : Nat} {x y z : Str} {k : Nat} {p p2 p3 : Pos} (G : Good X) (hi : X.N[i]? = some x) (hx : Loc X.env.scope x ∧ (X.fn x = true ∨ X.env.scope.names.lookup x = some .local)) (hj : X.N[j]? = some y) (hy : Loc X.env.scope y ∧ (X.fn y = true ∨ X.env.scope.names.lookup y = some .local)) (hl : X.N[l]? = some z) (hz : Loc X.env.scope z ∧ (X.fn z = true ∨ X.env.scope.names.lookup z = some .local)) :
    PG X (.Tuple [.Name x p, .Name y p2, .Name z p3] k pos) (tN X.K (.tup [.var i, .var j, .var l])) :=
  weakG (pg_tup G.calm (pgs_cons (pg_name G.nd hi hx.1 (hf := hx.2)) (pgs_cons (pg_name G.nd hj hy.1 (hf := hy.2)) (pgs_cons (pg_name G.nd hl hz.1 (hf := hz.2)) pgs_nil)))) fun v sg H Q q => by
    obtain ⟨d, env, env', mu, rd, re, e, q⟩ := q
    cases d with
    | tup ds =>
      rcases ds with _ | ⟨d, _ | ⟨d', _ | ⟨d'', _ | ⟨d3, ds⟩⟩⟩⟩ <;> simp only [asgN, reduceCtorEq, Option.some.injEq] at e
      subst e
      simp only [Rep, Reps] at rd
      obtain ⟨a, ws, rfl, s1, v1, _, rfl, r1, v2, _, rfl, r2, v3, _, rfl, r3, rfl⟩ := rd
      exact ⟨a, _, rfl, s1.t, rfl, v1, _, rfl, v2, _, rfl, v3, _, rfl, rfl, q _ (((re.set r1).set r2).set r3) fun own ho => by rw [wipe_set ho.2.2, wipe_set ho.2.1, wipe_set ho.1]⟩
    | _ => simp [asgN] at e
/-- a target of names in a statement -/
theorem s_gN {tg : Expr} {t : Ex} {C : CallT} (h : PG X tg (tN X.K t)) (ht : ∀ o i, t ≠ .ix o i) : PG X tg (tG X.K W (evA C t)) :=
  weakG h fun v sg H Q q => by
    obtain ⟨d, env, h, mu, rd, re, rh, q⟩ := q
    unfold evA at q
    split at q
    · exact absurd rfl (ht _ _)
    · split at q
      · rename_i e
        exact ⟨d, env, _, mu, rd, re, e, fun sg' re' _ => q.ok rh sg' re'⟩
      · exact False.elim q
/-- a store by place -/
theorem set_of {K : Fr} {mu : List Addr} {H : Hp} {h : Hh} {o i v : D} {ov iv vv : V} {Q : Hp → Prop} (rh : RelH K mu H h) (ro : Rep K mu H o ov) (ri : Rep K mu H i iv) (rv : Rep K mu H v vv)
    (q : pO K W mu H (setIx o i v h) fun _ _ H' _ => Q H') : rSetL ov iv vv H Q := by
  unfold setIx at q
  split at q <;> first | exact False.elim q | skip
  split at q <;> first | exact False.elim q | skip
  rename_i e1
  split at q <;> first | exact False.elim q | skip
  rename_i e2
  obtain ⟨a, ws, rfl, m, h1, q1⟩ := ref_of rh ro e1
  simp only [Rep] at ri
  subst ri
  refine ⟨a, ws, _, _, rfl, rfl, h1, by rw [← q1.length]; exact e2, ?_⟩
  exact q mu _ (Ext.setL (List.mem_of_getElem? m) h1 rfl) (rh.setL m h1 (q1.set _ rv))
theorem s_gsub {o i : Expr} {C : CallT} {eo ei : Ex} (ho : PE X o (tE X.K W (ev C eo))) (hi : PE X i (tE X.K W (ev C ei)))
    (hix : ∀ v, assign (.Subscript o i pos) X.env v = (do let ov ← holding [v] (eval o X.env); let iv ← holding [v, ov] (eval i X.env); standAt pos; holding [v, ov, iv] (setItem ov iv v); release [v, ov, iv] [])) : PG X (.Subscript o i pos) (tG X.K W (evA C (.ix eo ei))) :=
  weakG (pg_sub ho hi set_list (ha := hix)) fun v sg H Q q => by
    obtain ⟨d, env, h, mu, rd, re, rh, q⟩ := q
    simp only [evA] at q
    refine ⟨env, h, mu, re, rh, q.bind.mono fun x mu1 H1 h1 x1 r1 q1 ov ro => ?_⟩
    refine ⟨env, h1, mu1, re.mono x1, r1, q1.bind.mono fun k mu2 H2 h2 x2 r2 q2 iv ri => ?_⟩
    exact set_of r2 (ro.mono x2) ri ((rd.mono x1).mono x2) (q2.bind.mono fun _ mu3 H3 h3 x3 r3 q3 => q3.ok r3 _ (((re.mono x1).mono x2).mono x3))

/-! ### statements -/
def FlP (K : Fr) (mu : List Addr) (H : Hp) (Dn : Ends) : Fl → Prop
  | .nx env => ∀ sg, RelEnv K mu H env sg → Dn.nx sg H
  | .bk env => ∀ sg, RelEnv K mu H env sg → Dn.bk sg H
  | .ct env => ∀ sg, RelEnv K mu H env sg → Dn.ct sg H
  | .rt d => ∀ v, Rep K mu H d v → Dn.rt v H
def tS (K : Fr) (W : EX) (m : Env → Hh → Out Fl) : TS := fun Dn sg H => ∃ env h mu, RelEnv K mu H env sg ∧ RelH K mu H h ∧ pO K W mu H (m env h) fun fl mu' H' _ => FlP K mu' H' Dn fl
variable {st : Stmt} {sts : List Stmt} {m m' : Env → Hh → Out Fl}
theorem s_nil_ : PSs X [] (tS X.K W fun env h => .ok (.nx env) h) := weakSs pss_nil fun Dn sg H q => by
  obtain ⟨env, h, mu, re, rh, q⟩ := q
  exact q.ok rh sg re
theorem s_seq (h1 : PS X st (tS X.K W m)) (h2 : PSs X sts (tS X.K W m')) : PSs X (st :: sts) (tS X.K W fun env h => (m env h).bind fun fl h1 => match fl with | .nx e => m' e h1 | o => .ok o h1) :=
  weakSs (pss_cons h1 h2) fun Dn sg H q => by
    obtain ⟨env, h, mu, re, rh, q⟩ := q
    refine ⟨env, h, mu, re, rh, q.bind.mono fun fl mu1 H1 h1 x1 r1 q1 => ?_⟩
    cases fl with
    | nx e => exact fun sg' re' => ⟨e, h1, mu1, re', r1, q1⟩
    | bk e => exact q1.ok r1
    | ct e => exact q1.ok r1
    | rt d => exact q1.ok r1
theorem s_asg {tg : Expr} {g : D → Env → Hh → Out Env} (he : PE X e (tE X.K W ma)) (hg : PG X tg (tG X.K W g)) (hs : swapsWithSole [tg] e pos.line X.env = pure false) (hw : swappedStores [tg] e X.env = pure none) (h1 : (assignEach [tg] X.env).map (·.2) = [assign tg X.env]) :
    PS X (.Assign [tg] e pos) (tS X.K W fun env h => (ma env h).bind fun d h1 => (g d env h1).bind fun e1 h2 => .ok (.nx e1) h2) :=
  weakS (ps_asg he hg hs hw (h1 := h1)) fun Dn sg H q => by
    obtain ⟨env, h, mu, re, rh, q⟩ := q
    refine ⟨env, h, mu, re, rh, q.bind.mono fun d mu1 H1 h1 x1 r1 q1 v rv => ?_⟩
    exact ⟨d, env, h1, mu1, rv, re.mono x1, r1, q1.bind.mono fun e1 mu2 H2 h2 x2 r2 q2 => q2.ok r2⟩
theorem s_par {i j : Nat} {x y : Str} {px py pt : Pos} {kt k2 : Nat} {pt2 : Pos} (G : Good X) (hi : X.N[i]? = some x) (hj : X.N[j]? = some y) (hij : i ≠ j)
    (hx : X.env.scope.names.lookup x = some .local) (hy : X.env.scope.names.lookup y = some .local) (ha : PA X [a, b] (tA X.K W ms))
    (hw : swappedStores [.Tuple [.Name x px, .Name y py] kt pt] (.Tuple [a, b] k2 pt2) X.env = pure (some [x, y]))
    (hs : swapsWithSole [.Tuple [.Name x px, .Name y py] kt pt] (.Tuple [a, b] k2 pt2) pos.line X.env = pure false) {C : CallT} :
    PS X (.Assign [.Tuple [.Name x px, .Name y py] kt pt] (.Tuple [a, b] k2 pt2) pos) (tS X.K W fun env h => ((ms env h).bind fun ds h1 => need (ds.length ≤ sizeLine) (.ok (.tup ds) h1)).bind fun d h1 => (evA C (.tup [.var i, .var j]) d env h1).bind fun e1 h2 => .ok (.nx e1) h2) :=
  weakS (ps_par G.calm G.nd hi hj hij hx hy ha hw hs) fun Dn sg H q => by
    obtain ⟨env, h, mu, re, rh, q⟩ := q
    simp only [bind_assoc] at q
    refine ⟨env, h, mu, re, rh, q.bind.mono fun ds mu1 H1 h1 x1 r1 q1 vs rs => ?_⟩
    obtain ⟨hz, q1⟩ := pO.need q1.bind
    have q2 := q1.ok r1
    unfold evA at q2
    simp only at q2
    rcases ds with _ | ⟨d, _ | ⟨d', _ | ⟨d'', ds⟩⟩⟩ <;> simp only [asgN] at q2 <;> try exact False.elim q2
    obtain ⟨v1, v2, rfl, r1', r2'⟩ := reps2 rs
    refine ⟨v1, v2, rfl, ?_⟩
    exact ((q2.bind.ok r1).ok r1) _ (((re.mono x1).set r1').set r2')
def bopR (op : Bop) : OpR X (binaryOp (opOf op)) (rB X.K W (binop op)) → True := fun _ => trivial
theorem s_expr (he : PE X e (tE X.K W ma)) (hs : swapsWith e none pos.line X.env = pure false) : PS X (.Expr e pos) (tS X.K W fun env h => (ma env h).bind fun _ h1 => .ok (.nx env) h1) :=
  weakS (ps_expr he hs) fun Dn sg H q => by
    obtain ⟨env, h, mu, re, rh, q⟩ := q
    exact ⟨env, h, mu, re, rh, q.bind.mono fun d mu1 H1 h1 x1 r1 q1 v rv => q1.ok r1 _ (re.mono x1)⟩
theorem s_ret (he : PE X e (tE X.K W ma)) : PS X (.Return (some e) pos) (tS X.K W fun env h => (ma env h).bind fun d h1 => .ok (.rt d) h1) :=
  weakS (ps_ret he) fun Dn sg H q => by
    obtain ⟨env, h, mu, re, rh, q⟩ := q
    exact ⟨env, h, mu, re, rh, q.bind.mono fun d mu1 H1 h1 x1 r1 q1 v rv => q1.ok r1 v rv⟩
theorem s_retN : PS X (.Return none pos) (tS X.K W fun _ h => .ok (.rt .non) h) :=
  weakS ps_retN fun Dn sg H q => by
    obtain ⟨env, h, mu, re, rh, q⟩ := q
    exact q.ok rh _ (by simp [Rep])
theorem s_pass : PS X (.Pass pos) (tS X.K W fun env h => .ok (.nx env) h) :=
  weakS ps_pass fun Dn sg H q => by
    obtain ⟨env, h, mu, re, rh, q⟩ := q
    exact q.ok rh sg re
theorem s_brk : PS X (.Break pos) (tS X.K W fun env h => .ok (.bk env) h) :=
  weakS ps_break fun Dn sg H q => by
    obtain ⟨env, h, mu, re, rh, q⟩ := q
    exact q.ok rh sg re
theorem s_cnt : PS X (.Continue pos) (tS X.K W fun env h => .ok (.ct env) h) :=
  weakS ps_continue fun Dn sg H q => by
    obtain ⟨env, h, mu, re, rh, q⟩ := q
    exact q.ok rh sg re
theorem s_if {sa sb : List Stmt} (hc : PT X c (tT X.K W tc)) (ha : PSs X sa (tS X.K W m)) (hb : PSs X sb (tS X.K W m')) : PS X (.If c sa sb pos) (tS X.K W fun env h => (tc env h).bind fun k h1 => if k = true then m env h1 else m' env h1) :=
  weakS (ps_if hc ha hb) fun Dn sg H q => by
    obtain ⟨env, h, mu, re, rh, q⟩ := q
    refine ⟨env, h, mu, re, rh, q.bind.mono fun k mu1 H1 h1 x1 r1 q2 => ?_⟩
    cases k with
    | true => rw [if_pos rfl] at q2 ⊢; exact ⟨env, h1, mu1, re.mono x1, r1, q2⟩
    | false => rw [if_neg Bool.false_ne_true] at q2 ⊢; exact ⟨env, h1, mu1, re.mono x1, r1, q2⟩
end
end Ip

/-! Ip, part E: loops, comprehensions, calls. -/
namespace Ip
open PySem PySem.Spec PyProof.Rows L2
section
variable {X : Cx} {W : EX} {ma mb mc : Env → Hh → Out D} {ms : Env → Hh → Out (List D)} {a b c e : Expr} {es : List Expr} {pos : Pos} {st : Stmt} {sts : List Stmt} {m m' : Env → Hh → Out Fl} {tc : Env → Hh → Out Bool}

/-! ### name op= e -/
theorem ip_add_int : PIp X .Add (rB X.K W addI) := by
  intro pins s σ H x y v u Q I rx ry hh
  obtain ⟨dx, dy, h, mu, rh, r1, r2, q⟩ := hh
  unfold addI at q
  split at q
  · simp only [Rep] at r1 r2
    subst r1 r2
    exact iop_add pins s σ H _ _ v u Q I rx ry ⟨_, _, rfl, rfl, q.ok rh _ (by simp [Rep])⟩
  · exact False.elim q
theorem s_aug {i : Nat} {x : Str} {pos' : Pos} (G : Good X) (hi : X.N[i]? = some x) (hx : Loc X.env.scope x ∧ (X.fn x = true ∨ X.env.scope.names.lookup x = some .local)) (he : PE X e (tE X.K W ma)) :
    PS X (.AugAssign (.Name x pos') .Add e pos) (tS X.K W fun env h => match env[i]? with
      | some (some x) => (ma env h).bind fun y h1 => (addI x y h1).bind fun z h2 => .ok (.nx (env.set i (some z))) h2
      | _ => .stuck) :=
  weakS (ps_aug G.nd hi hx.1 he (ip_add_int (W := W)) (hf := hx.2)) fun Dn sg H q => by
    obtain ⟨env, h, mu, re, rh, q⟩ := q
    simp only at q
    split at q
    · rename_i d e1
      obtain ⟨v, e2, rv⟩ := re.at_ i d e1
      refine ⟨v, e2, env, h, mu, re, rh, q.bind.mono fun y mu1 H1 h1 x1 r1 q1 w rw' => ?_⟩
      refine ⟨d, y, h1, mu1, r1, rv.mono x1, rw', q1.bind.mono fun z mu2 H2 h2 x2 r2 q2 u ru => ?_⟩
      exact q2.ok r2 _ (((re.mono x1).mono x2).set ru)
    · exact False.elim q
theorem get_of : PGet X (rB X.K W getIxL) := by
  intro pins s σ H o i ov iv Q I r1 r2 hh
  obtain ⟨dx, dy, h, mu, rh, r1', r2', q⟩ := hh
  cases dx with
  | ref n =>
    simp only [getIxL] at q
    unfold getIx at q
    split at q <;> first | exact False.elim q | skip
    rename_i k
    simp only at q
    split at q <;> first | exact False.elim q | skip
    rename_i ds e1
    split at q <;> first | exact False.elim q | skip
    rename_i d e2
    simp only [Rep] at r2'
    subst r2'
    have e1' : seqL h (.ref n) = some ds := e1
    obtain ⟨a, ws, rfl, s1, q1⟩ := seqL_of rh r1' e1'
    obtain ⟨t, rfl⟩ := r2
    cases r1
    obtain ⟨its, r, pl, hz⟩ := I.list s1
    have key : ∃ w, atI ws k = some w ∧ Rep X.K mu H d w := by
      unfold atI at e2 ⊢
      rw [← q1.length]
      cases e3 : ixN ds.length k with
      | none => rw [e3] at e2; cases e2
      | some j =>
        rw [e3] at e2
        exact q1.get e2
    obtain ⟨w, e4, rw'⟩ := key
    obtain ⟨j, h1, h2, h3, h4, h5⟩ := atI_get e4
    obtain ⟨u, ew, ru⟩ := r.get h2
    have hl := r.length
    have hn := line63
    have fin : EP X pins σ Q u s := ⟨w, H, I, ru, q.ok rh w rw'⟩
    by_cases h0 : 0 ≤ k
    · have hj : k.toNat = j := by
        rw [seqIndex_of h0 h5] at h1
        exact Option.some.inj h1
      exact wpAny_getItem_list pl.isList h0 (by omega) (by rw [hj]; simpa using ew) fin
    · have hj : (k + (its.toArray.size : Int)).toNat = j := by
        rw [seqIndex_neg (by omega) h4] at h1
        rw [List.size_toArray, ← hl]
        exact Option.some.inj h1
      exact wpAny_getItem_list_neg pl.isList (by omega) (by rw [List.size_toArray] <;> omega) (by omega) (by rw [hj]; simpa using ew) fin
  | _ => exact False.elim q
theorem s_augS {o i : Expr} {mo mi : Env → Hh → Out D} {tpos : Pos} (ho : PE X o (tE X.K W mo)) (hi : PE X i (tE X.K W mi)) (he : PE X e (tE X.K W ma))
    (ha : ∀ ov iv new, augStore i ov iv new = (do holding [new, ov, iv] (setItem ov iv new); release [new, ov, iv] []; pure .next)) :
    PS X (.AugAssign (.Subscript o i tpos) .Add e pos) (tS X.K W fun env h => (mo env h).bind fun x h1 => (mi env h1).bind fun k h2 => (getIxL x k h2).bind fun y h3 => (ma env h3).bind fun z h4 => (addI y z h4).bind fun v h5 =>
      (setIx x k v h5).bind fun _ h6 => .ok (.nx env) h6) :=
  weakS (ps_augS ho hi (get_of (W := W)) he (ip_add_int (W := W)) set_list ha) fun Dn sg H q => by
    obtain ⟨env, h, mu, re, rh, q⟩ := q
    refine ⟨env, h, mu, re, rh, q.bind.mono fun x mu1 H1 h1 x1 r1 q1 ov rx => ?_⟩
    refine ⟨env, h1, mu1, re.mono x1, r1, q1.bind.mono fun k mu2 H2 h2 x2 r2 q2 iv rk => ?_⟩
    refine ⟨x, k, h2, mu2, r2, rx.mono x2, rk, q2.bind.mono fun y mu3 H3 h3 x3 r3 q3 yv ry => ?_⟩
    refine ⟨env, h3, mu3, ((re.mono x1).mono x2).mono x3, r3, q3.bind.mono fun z mu4 H4 h4 x4 r4 q4 zv rz => ?_⟩
    refine ⟨y, z, h4, mu4, r4, ry.mono x4, rz, q4.bind.mono fun w mu5 H5 h5 x5 r5 q5 wv rw' => ?_⟩
    refine set_of r5 ((((rx.mono x2).mono x3).mono x4).mono x5) (((rk.mono x3).mono x4).mono x5) rw' (q5.bind.mono fun _ mu6 H6 h6 x6 r6 q6 => ?_)
    exact q6.ok r6 _ ((((((re.mono x1).mono x2).mono x3).mono x4).mono x5).mono x6)

/-! ### while -/
theorem whN_mono {c : Env → Hh → Out Bool} {b : Env → Hh → Out Fl} : ∀ {n : Nat} {env : Env} {h : Hh}, whN c b n env h ≠ .stuck → whN c b (n + 1) env h = whN c b n env h
  | 0, env, h, q => absurd rfl q
  | n + 1, env, h, q => by
    have ih : ∀ env h, whN c b n env h ≠ .stuck → whN c b (n + 1) env h = whN c b n env h := fun env h => whN_mono
    rw [whN] at q ⊢
    rw [whN]
    cases e : c env h with
    | ok t h1 =>
      rw [e] at q
      simp only [Out.bind_ok] at q ⊢
      cases t with
      | false => rfl
      | true =>
        simp only [if_true] at q ⊢
        cases e2 : b env h1 with
        | ok fl h2 =>
          rw [e2] at q
          simp only [Out.bind_ok] at q ⊢
          cases fl with
          | nx e => exact ih e h2 q
          | ct e => exact ih e h2 q
          | _ => rfl
        | _ => rfl
    | _ => rfl
theorem whN_le {c : Env → Hh → Out Bool} {b : Env → Hh → Out Fl} {n k : Nat} {env : Env} {h : Hh} (q : whN c b n env h ≠ .stuck) : whN c b (n + k) env h = whN c b n env h := by
  induction k with
  | zero => rfl
  | succ k ih =>
    rw [← ih] at q
    rw [← ih]
    exact whN_mono q
theorem whO_of {c : Env → Hh → Out Bool} {b : Env → Hh → Out Fl} {n : Nat} {env : Env} {h : Hh} (q : whN c b n env h ≠ .stuck) : whO c b env h = whN c b n env h := by
  unfold whO
  have H : ∃ n, whN c b n env h ≠ .stuck := ⟨n, q⟩
  rw [dif_pos H]
  have q2 := Classical.choose_spec H
  rcases Nat.le_total n (Classical.choose H) with l | l
  · have e := whN_le (k := Classical.choose H - n) q
    rw [show n + (Classical.choose H - n) = Classical.choose H by omega] at e
    exact e
  · have e := whN_le (k := n - Classical.choose H) q2
    rw [show Classical.choose H + (n - Classical.choose H) = n by omega] at e
    exact e.symm
theorem s_while {body : List Stmt} (hp : PassesOwn (model X.prog X.w) X.A X.env X.xe) (hc : PT X c (tT X.K W tc)) (hb : PSs X body (tS X.K W m)) : PS X (.While c body [] pos) (tS X.K W (whO tc m)) :=
  weakS (ps_while hp hc hb) fun Dn sg H q => by
    obtain ⟨env, h, mu, re, rh, q⟩ := q
    have H0 : ∃ n, whN tc m n env h ≠ .stuck := by
      refine Classical.byContradiction fun z => ?_
      unfold whO at q
      rw [dif_neg z] at q
      exact q
    obtain ⟨n0, hn0⟩ := H0
    rw [whO_of hn0] at q
    refine ⟨fun n sg H => ∃ env h mu, RelEnv X.K mu H env sg ∧ RelH X.K mu H h ∧ pO X.K W mu H (whN tc m n env h) fun fl mu' H' _ => FlP X.K mu' H' Dn fl, ⟨n0, env, h, mu, re, rh, q⟩, ?_⟩
    · rintro n sg H ⟨env, h, mu, re, rh, q⟩
      cases n with
      | zero => exact False.elim q
      | succ n =>
        rw [whN] at q
        refine ⟨env, h, mu, re, rh, q.bind.mono fun k mu1 H1 h1 x1 r1 q1 => ?_⟩
        cases k with
        | false =>
          rw [if_neg Bool.false_ne_true] at q1 ⊢
          exact q1.ok r1 sg (re.mono x1)
        | true =>
          rw [if_pos rfl] at q1 ⊢
          refine ⟨_, fun σ' H' N' => ⟨n, Nat.lt_succ_self n, N'⟩, env, h1, mu1, re.mono x1, r1, q1.bind.mono fun fl mu2 H2 h2 x2 r2 q2 => ?_⟩
          cases fl with
          | nx e => exact fun sg' re' => ⟨e, h2, mu2, re', r2, q2⟩
          | ct e => exact fun sg' re' => ⟨e, h2, mu2, re', r2, q2⟩
          | bk e => exact q2.ok r2
          | rt d => exact q2.ok r2

/-! ### for -/
theorem drop_cons {α : Type} {xs : List α} {i : Nat} {d : α} (e : xs[i]? = some d) : xs.drop i = d :: xs.drop (i + 1) := by
  obtain ⟨hi, rfl⟩ := List.getElem?_eq_some_iff.mp e
  exact List.drop_eq_getElem_cons hi
theorem s_for {tg it : Expr} {body : List Stmt} {mi : Env → Hh → Out Its} {mg : D → Env → Hh → Out Env} (G : Good X) (hp : PassesOwn (model X.prog X.w) X.A X.env X.xe) (hi : PI X tg it (tI X.K W mi)) (hg : PG X tg (tG X.K W mg)) (hb : PSs X body (tS X.K W m))
    (hs : ∀ x, foldedSetIterable it X.env x = pure x) : PS X (.For tg it body [] pos) (tS X.K W fun env h => (mi env h).bind fun x h1 => frL mg m x.2 x.1 env h1) :=
  weakS (ps_for hp G.calm hi hg hb hs) fun Dn sg H q => by
    obtain ⟨env, h, mu, re, rh, q⟩ := q
    refine ⟨env, h, mu, re, rh, q.bind.mono fun x mu1 H1 h1 x1 r1 q1 J hJ => ?_⟩
    obtain ⟨Gd, Y, wk, hG, hY⟩ := hJ
    have chk : ∀ {xs : List D} {env : Env} {h : Hh} {mu : List Addr} {H : Hp} {R}, pO X.K W mu H (frL mg m x.2 xs env h) R → chkOk x.2 h := fun {xs env h mu H R} q => by
      cases xs with
      | nil => rw [frL] at q; exact (pO.need q).1
      | cons y ys => rw [frL] at q; exact (pO.need q).1
    refine for_it wk (fun i sg H => ∃ env h mu, RelEnv X.K mu H env sg ∧ RelH X.K mu H h ∧ Ext mu1 H1 mu H ∧ pO X.K W mu H (frL mg m x.2 (x.1.drop i) env h) fun fl mu' H' _ => FlP X.K mu' H' Dn fl) ?_ ?_ ?_ ?_
    · exact ⟨env, h1, mu1, re.mono x1, r1, Ext.refl, by simpa using q1⟩
    · rintro i sg H hi ⟨env, h, mu, re, rh, xx, q⟩
      exact hG mu H h xx rh (chk q)
    · rintro i v sg H H' hi ⟨env, h, mu, re, rh, xx, q⟩ y
      obtain ⟨d, e, x2, r2, rd⟩ := hY mu H h i v H' xx rh (chk q) y
      rw [drop_cons e, frL] at q
      obtain ⟨_, q⟩ := pO.need q
      have q2 := (pO.ext q x2).bind
      refine ⟨d, env, h, mu, rd, re.mono x2, r2, q2.mono fun e1 mu3 H3 h3 x3 r3 q3 sg' re' => ?_⟩
      refine ⟨e1, h3, mu3, re', r3, q3.bind.mono fun fl mu4 H4 h4 x4 r4 q4 => ?_⟩
      cases fl with
      | nx e => exact fun sg' re' => ⟨e, h4, mu4, re', r4, ((xx.trans x2).trans x3).trans x4, q4⟩
      | ct e => exact fun sg' re' => ⟨e, h4, mu4, re', r4, ((xx.trans x2).trans x3).trans x4, q4⟩
      | bk e => exact q4.ok r4
      | rt d => exact q4.ok r4
    · rintro sg H ⟨env, h, mu, re, rh, xx, q⟩
      rw [List.drop_length, frL] at q
      exact ((pO.need q).2.ok rh) sg re

/-! ### comprehensions -/
theorem RelEnv.wipe {K : Fr} {mu : List Addr} {H : Hp} {env : Env} {sg : L2.St} (r : RelEnv K mu H env sg) : ∀ vs : List Nat, RelEnv K mu H (wipeE env vs) (L2.wipe sg vs)
  | [] => r
  | v :: vs => by
    have ih := RelEnv.wipe r vs
    unfold wipeE L2.wipe
    refine ⟨by simp [ih.len], fun i d e => ?_⟩
    by_cases hv : v = i
    · subst hv
      have hl : v < (wipeE env vs).length := by
        have := (List.getElem?_eq_some_iff.mp e).1
        simpa using this
      rw [List.getElem?_set_self hl] at e
      cases e
    · rw [List.getElem?_set_ne hv] at e ⊢
      exact ih.at_ i d e
/-- an element: a test, then the item -/
abbrev elt1 (me : Env → Hh → Out D) (tg : Ex) (own : List Nat) (env : Env) : D → Hh → Out (Option D) := fun d h => match asgN tg d (wipeE env own) with
  | some env1 => (me env1 h).bind fun y h2 => .ok (some y) h2
  | none => .stuck
abbrev elt2 (mc : Env → Hh → Out Bool) (me : Env → Hh → Out D) (tg : Ex) (own : List Nat) (env : Env) : D → Hh → Out (Option D) := fun d h => match asgN tg d (wipeE env own) with
  | some env1 => (mc env1 h).bind fun k h2 => if k = true then (me env1 h2).bind fun y h3 => .ok (some y) h3 else .ok none h2
  | none => .stuck
theorem wipe_set_none {i : Nat} {sg : L2.St} : ∀ js : List Nat, (L2.wipe (sg.set i none) js) = (L2.wipe sg js).set i none
  | [] => rfl
  | k :: ks => by
    unfold L2.wipe
    rw [wipe_set_none ks]
    by_cases h : i = k
    · subst h
      rfl
    · rw [List.set_comm _ _ h]
theorem wipe_wipe {sg : L2.St} : ∀ vs : List Nat, L2.wipe (L2.wipe sg vs) vs = L2.wipe sg vs
  | [] => rfl
  | v :: vs => by
    have e : L2.wipe sg (v :: vs) = (L2.wipe sg vs).set v none := rfl
    rw [e]
    show (L2.wipe ((L2.wipe sg vs).set v none) vs).set v none = _
    rw [wipe_set_none, wipe_wipe vs, List.set_set]
abbrev W0 : EX := fun _ _ => False
theorem pO.calm {α : Type} {K : Fr} {mu : List Addr} {H : Hp} {o : Out α} {R : α → List Addr → Hp → Hh → Prop} (h : pO K W mu H o.calm R) : pO K W0 mu H o R := by
  cases o with
  | ok a h' => exact h
  | exn c h' => exact False.elim h
  | stuck => exact h
/-- what a block's turn is -/
abbrev eltO (mc : Option (Env → Hh → Out Bool)) (me : Env → Hh → Out D) (tg : Ex) (own : List Nat) (env : Env) : D → Hh → Out (Option D) := match mc with
  | some mc => elt2 mc me tg own env
  | none => elt1 me tg own env
abbrev ttO (K : Fr) : Option (Env → Hh → Out Bool) → TT
  | some mc => tT K W0 mc
  | none => tYes
theorem lcL_calm {f : D → Hh → Out (Option D)} {chk : List (Nat × List D)} : ∀ (xs : List D) (h : Hh) (c : Str) (h' : Hh), lcL f chk xs h ≠ .exn c h'
  | [], h, c, h', e => by
    rw [lcL] at e
    unfold need at e
    split at e <;> cases e
  | x :: xs, h, c, h', e => by
    rw [lcL] at e
    unfold need at e
    split at e
    · cases e1 : f x h with
      | ok o h1 =>
        rw [e1] at e
        simp only [Out.calm_ok, Out.bind_ok] at e
        cases e2 : lcL f chk xs h1 with
        | ok ys h2 => rw [e2] at e; cases e
        | exn c2 h2 => exact lcL_calm xs h1 c2 h2 e2
        | stuck => rw [e2] at e; cases e
      | exn c2 h2 => rw [e1] at e; cases e
      | stuck => rw [e1] at e; cases e
    · cases e
theorem lcL_step {f : D → Hh → Out (Option D)} {chk : List (Nat × List D)} {x : D} {xs ys : List D} {h h' : Hh} (e : lcL f chk (x :: xs) h = .ok ys h') :
    ∃ o h2 ys2, f x h = .ok o h2 ∧ lcL f chk xs h2 = .ok ys2 h' ∧ ys = o.toList ++ ys2 := by
  rw [lcL] at e
  unfold need at e
  split at e
  · cases e1 : f x h with
    | ok o h1 =>
      rw [e1] at e
      simp only [Out.calm_ok, Out.bind_ok] at e
      cases e2 : lcL f chk xs h1 with
      | ok ys2 h2 =>
        rw [e2] at e
        cases e
        exact ⟨o, h1, ys2, rfl, e2, rfl⟩
      | exn c2 h2 => rw [e2] at e; cases e
      | stuck => rw [e2] at e; cases e
    | exn c2 h2 => rw [e1] at e; cases e
    | stuck => rw [e1] at e; cases e
  · cases e
theorem lcL_chk {f : D → Hh → Out (Option D)} {chk : List (Nat × List D)} {xs ys : List D} {h h' : Hh} (e : lcL f chk xs h = .ok ys h') : chkOk chk h := by
  refine Classical.byContradiction fun n => ?_
  cases xs with
  | nil => rw [lcL, need_neg n] at e; cases e
  | cons x xs => rw [lcL, need_neg n] at e; cases e
/-- the reading of a comprehension -/
theorem tLc_of {K : Fr} {own : List Nat} {tg : Ex} {mi : Env → Hh → Out Its} {mc : Option (Env → Hh → Out Bool)} {me : Env → Hh → Out D} {sg : L2.St} {H : Hp} {Q : VK} (ho : OwnT tg own)
    (h : tE K W (fun env h => (mi env h).bind fun x h1 => (lcL (eltO mc me tg own env) x.2 x.1 h1).bind fun ys h2 => mkL ys h2) sg H Q) :
    tLc (tI K W mi) (tN K tg) (ttO K mc) (tE K W0 me) own sg H Q := by
  obtain ⟨env, h, mu, re, rh, q⟩ := h
  refine ⟨env, h, mu, re, rh, q.bind.mono fun x mu1 H1 h1 x1 r1 q1 J hJ => ?_⟩
  obtain ⟨Gd, Y, wk, hG, hY⟩ := hJ
  intro Da hD
  have re1 := re.mono x1
  let R : D → List Addr → Hp → Hh → Prop := fun d mu' H' _ => ∀ v, Rep K mu' H' d v → Q v H'
  let Fin : List D → Hh → Prop := fun ys h' => ys.length ≤ sizeLine ∧ pO K W mu1 H1 (.ok (.ref h'.length) (h' ++ [.lst ys])) R
  let Pv : Nat → Hp → Prop := fun i H => ∃ h mu acc ws ys h', RelH K mu H h ∧ Ext mu1 H1 mu H ∧ H Da = some (.lst ws) ∧ Da ∉ mu ∧ Reps K mu H acc ws ∧
    lcL (eltO mc me tg own env) x.2 (x.1.drop i) h = .ok ys h' ∧ Fin (acc ++ ys) h'
  refine lc_it wk Pv ?_ ?_ ?_ ?_
  · cases e : lcL (eltO mc me tg own env) x.2 x.1 h1 with
    | stuck => rw [e] at q1; exact False.elim q1
    | exn c h' => exact absurd e (lcL_calm _ _ _ _)
    | ok ys h' =>
      rw [e] at q1
      obtain ⟨hz, q1⟩ := pO.need q1
      exact ⟨h1, mu1, [], [], ys, h', r1.new hD, Ext.new hD, upd_same, r1.notin hD, by simp [Reps], by simpa using e, hz, q1⟩
  · rintro i H hi ⟨h, mu, acc, ws, ys, h', rh, xx, hd, nm, ra, e, q⟩
    exact hG mu H h xx rh (lcL_chk e)
  · rintro i v H H' hi ⟨h, mu, acc, ws, ys, h', rh, xx, hd, nm, ra, e, q⟩ y
    obtain ⟨d, e0, x2, r2, rd⟩ := hY mu H h i v H' xx rh (lcL_chk e) y
    rw [drop_cons e0] at e
    obtain ⟨o, h2, ys2, e1, e2, rfl⟩ := lcL_step e
    have hd2 : H' Da = some (.lst ws) := x2.keep _ _ hd (.inl nm)
    have rw1 := ((re1.mono xx).mono x2).wipe own
    have nm2 : ∀ {mu3 : List Addr} {H3 : Hp}, Ext mu H' mu3 H3 → Da ∉ mu3 := fun {mu3 H3} y m => by
      have := y.fresh Da m nm
      rw [hd2] at this
      cases this
    -- nothing is kept of the item
    have skip : ∀ {mu3 : List Addr} {H3 : Hp}, o = none → Ext mu H' mu3 H3 → RelH K mu3 H3 h2 → Pv (i + 1) H3 := fun {mu3 H3} eo x3 r3 => by
      subst eo
      exact ⟨h2, mu3, acc, ws, ys2, h', r3, (xx.trans x2).trans x3, x3.keep _ _ hd2 (.inl nm), nm2 x3, Reps.mono (x2.trans x3) _ _ ra, e2, by simpa using q⟩
    -- the item is put to the list
    have put : ∀ {mu3 : List Addr} {H3 : Hp} {d3 : D} {v3 : V}, o = some d3 → Ext mu H' mu3 H3 → RelH K mu3 H3 h2 → Rep K mu3 H3 d3 v3 →
        ∃ acc', H3 Da = some (.lst acc') ∧ acc'.length < sizeLine ∧ Pv (i + 1) (upd H3 Da (.lst (acc' ++ [v3]))) := fun {mu3 H3 d3 v3} eo x3 r3 rd3 => by
      subst eo
      have hd3 := x3.keep _ _ hd2 (.inl nm)
      have nm3 := nm2 x3
      have ra3 := Reps.mono (x2.trans x3) _ _ ra
      have im : Imm H3 (upd H3 Da (.lst (ws ++ [v3]))) := fun a u hu iu => by
        have : a ≠ Da := fun z => by
          subst z
          rw [hd3] at hu
          cases hu
          cases iu
        rw [upd_ne this]
        exact hu
      have kl : KL H3 (upd H3 Da (.lst (ws ++ [v3]))) := fun a us hu => by
        by_cases z : a = Da
        · subst z
          exact ⟨_, upd_same⟩
        · exact ⟨us, by rw [upd_ne z]; exact hu⟩
      refine ⟨ws, hd3, ?_, h2, mu3, acc ++ [d3], ws ++ [v3], ys2, h', ⟨r3.len, r3.nd, fun n oo a eo m => ?_⟩, ?_, upd_same, nm3, Reps.mono0 (List.prefix_refl _) im kl _ _ (ra3.append (Reps.one rd3)), e2, by simpa using q⟩
      · have := q.1
        rw [← ra.length]
        simp at this
        omega
      · have := r3.obj n oo a eo m
        cases oo with
        | lst ds =>
          obtain ⟨ws', e3, q3⟩ := this
          have ne : a ≠ Da := fun z => by
            subst z
            exact nm3 (List.mem_of_getElem? m)
          exact ⟨ws', by rw [upd_ne ne]; exact e3, Reps.mono0 (List.prefix_refl _) im kl _ _ q3⟩
        | ins c fs =>
          obtain ⟨C, dx, vs, e3, k1, k2, q3⟩ := this
          have ne : a ≠ Da := fun z => by
            subst z
            exact nm3 (List.mem_of_getElem? m)
          exact ⟨C, dx, vs, by rw [upd_ne ne]; exact e3, k1, k2, Reps.mono0 (List.prefix_refl _) im kl _ _ q3⟩
      · have xa := (xx.trans x2).trans x3
        refine ⟨xa.pre, xa.fresh, fun a u hu c => ?_, fun a us hu => ?_⟩
        rotate_left
        · have : a ≠ Da := fun z => by
            subst z
            rw [hD] at hu
            cases hu
          obtain ⟨us', e⟩ := xa.kind a us hu
          exact ⟨us', by rw [upd_ne this]; exact e⟩
        have : a ≠ Da := fun z => by
          subst z
          rw [hD] at hu
          cases hu
        rw [upd_ne this]
        exact xa.keep a u hu c
    cases mc with
    | none =>
      simp only [eltO, elt1] at e1
      split at e1
      · rename_i env1 ea
        refine ⟨d, _, env1, mu, rd, rw1, ea, fun sg' re' hw => ⟨(hw own ho).trans (wipe_wipe own), ?_⟩⟩
        dsimp only [ttO, tYes]
        rw [if_pos rfl]
        refine ⟨env1, h, mu, re', r2, ?_⟩
        cases em : me env1 h with
        | ok y3 h3 =>
          rw [em] at e1
          simp only [Out.bind_ok, Out.ok.injEq] at e1
          obtain ⟨eo, rfl⟩ := e1
          exact fun mu3 H3 x3 r3 v3 rv3 => put eo.symm x3 r3 rv3
        | _ => rw [em] at e1; cases e1
      · cases e1
    | some mc =>
      simp only [eltO, elt2] at e1
      split at e1
      · rename_i env1 ea
        refine ⟨d, _, env1, mu, rd, rw1, ea, fun sg' re' hw => ⟨(hw own ho).trans (wipe_wipe own), ?_⟩⟩
        refine ⟨env1, h, mu, re', r2, ?_⟩
        cases ec : mc env1 h with
        | ok k hc =>
          rw [ec] at e1
          simp only [Out.bind_ok] at e1
          intro mu4 H4 x4 r4
          cases k with
          | true =>
            rw [if_pos rfl] at e1 ⊢
            refine ⟨env1, hc, mu4, re'.mono x4, r4, ?_⟩
            cases em : me env1 hc with
            | ok y3 h3 =>
              rw [em] at e1
              simp only [Out.bind_ok, Out.ok.injEq] at e1
              obtain ⟨eo, rfl⟩ := e1
              exact fun mu3 H3 x3 r3 v3 rv3 => put eo.symm (x4.trans x3) r3 rv3
            | _ => rw [em] at e1; cases e1
          | false =>
            rw [if_neg Bool.false_ne_true] at e1 ⊢
            simp only [Out.ok.injEq] at e1
            obtain ⟨eo, rfl⟩ := e1
            exact skip eo.symm x4 r4
        | _ => rw [ec] at e1; cases e1
      · cases e1
  · rintro H ⟨h, mu, acc, ws, ys, h', rh, xx, hd, nm, ra, e, q⟩
    have ck := lcL_chk e
    rw [List.drop_length, lcL, need_pos ck] at e
    cases e
    have q2 := q.2
    simp only [List.append_nil] at q2
    refine q2 (mu ++ [Da]) H ⟨xx.pre.trans ⟨[Da], rfl⟩, fun a m n => ?_, xx.keep, xx.kind⟩ (rh.adopt hd nm ra) _ ?_
    · rcases List.mem_append.mp m with m | m
      · exact xx.fresh a m n
      · rw [List.mem_singleton.mp m]
        exact hD
    · simp only [Rep]
      refine ⟨Da, rfl, ?_, _, hd⟩
      rw [List.getElem?_append_right (by rw [rh.len]; exact Nat.le_refl _), rh.len]
      simp
end
end Ip

/-! Ip, part P: machine rules for instances of own classes; try whose body raises nothing. -/
namespace Ip
open PySem PySem.Spec PyProof.Rows L2

section
variable {X : Cx} {CX : CXT} {k : Nat} {f C : Addr} {fd : FuncData} {ps : List Str} {sp : Sp} {dvs : List V} {ds : List Value} {E : XK} {x m : Str} {p pos apos : Pos} {e o : Expr} {es : List Expr} {ta : TE} {t : TA}
/-- the tree of a method call, whatever stands before the dot -/
theorem methI {args : List Expr} {Q : Value → Shared → Prop} {s : Shared} (hbase : attributeBase o m X.env (eval o X.env) = eval o X.env)
    (hfew : ((backTo pos (starEach args X.env)).all (fun x => !x.1) && (backToKw pos (keywordEach [] X.env)).all (fun x => x.1.isSome)
      && decide (args.length + ([] : List Keyword).length + (if ([] : List Keyword).isEmpty then 0 else 1) < 30)) = true)
    (hline : (apos.endLine == pos.line) = true)
    (h : wpAny (model X.prog X.w) X.A (eval o X.env) (fun ov s₁ => ∀ pl, wpAny (model X.prog X.w) X.A (getMethod ov m pl) (fun fx s₂ => wpAny (model X.prog X.w) X.A (callWith pos fx.1 fx.2 (backTo pos (starEach args X.env)) (backToKw pos (keywordEach [] X.env))) Q X.xe s₂) X.xe s₁) X.xe s) :
    wpAny (model X.prog X.w) X.A (eval (.Call (.Attribute o m apos) args [] pos) X.env) Q X.xe s := by
  rw [arm_eval_Call, hbase]
  refine wpAny_bind (wpAny_mono h (fun ov s₁ h₁ => ?_) fun _ _ e => e)
  refine wpAny_bind (wpAny_standAt ?_)
  have hform : methodCallForm (args.length + ([] : List Keyword).length) (backTo pos (starEach args X.env)) (backToKw pos (keywordEach [] X.env)) = true := hfew
  have hpos : methodCallPos true o X.env apos pos = pure pos := by unfold methodCallPos; simp [hline]
  unfold methodCall
  rw [hform]
  refine wpAny_bind (wpAny_holding (wpAny_mono (h₁ _) (fun fx s₂ h₂ => ?_) fun _ _ e => e))
  exact wpAny_bind (wpAny_of_eq hpos h₂)
theorem pe_methG (he : PE X o ta) (c : Cls X.K C) (hm : Meth X.K C m f) (F : FnG X.prog X.w X.K X.mg X.base CX k f fd ps sp) (hr : Room k X.A) (hgd : X.A.guards = some []) (hb : Binds X.K fd ps ds) (hd : Vals dvs ds) (hx : Passes CX X E) (ha : PA X (e :: es) t)
    (hbase : attributeBase o m X.env (eval o X.env) = eval o X.env)
    (hfew : ((backTo pos (starEach (e :: es) X.env)).all (fun x => !x.1) && (backToKw pos (keywordEach [] X.env)).all (fun x => x.1.isSome)
      && decide ((e :: es).length + ([] : List Keyword).length + (if ([] : List Keyword).isEmpty then 0 else 1) < 30)) = true)
    (hline : (apos.endLine == pos.line) = true)
    (hst : starEach (e :: es) X.env = (false, eval e X.env) :: starEach es X.env) (hpl : (backTo pos (starEach es X.env)).any (·.1) = false) :
    PE X (.Call (.Attribute o m apos) (e :: es) [] pos) (tMeth C m sp dvs E ta t) := by
  refine ⟨fun pins s σ H Q I h => ?_⟩
  refine methI hbase hfew hline (thn (he.run pins s σ H _ I h) fun u s1 ⟨x, H1, I1, rx, a, dx, fs, ex, ea, l, q⟩ => fun pl => ?_)
  subst ex
  obtain rfl : u = Value.ref a := rx
  refine getmeth_ok I1 ea c hm l ?_
  refine PySem.W.callWith_K (first := [.ref a]) (h₀ := X.base) I.ok.mod.kin hm.kp (thn (ha.run pos pins s1 σ H1 _ I1 q) fun us s2 ⟨vs, H2, I2, r, q2⟩ => ⟨I2.kIn, ?_⟩) hst hpl
  exact run_fnG (us := .ref a :: us) (vs := .ref a :: vs) F hr hgd hb hd hx I2 (.cons rfl r) q2
theorem pe_methG0 (he : PE X o ta) (c : Cls X.K C) (hm : Meth X.K C m f) (F : FnG X.prog X.w X.K X.mg X.base CX k f fd ps sp) (hr : Room k X.A) (hgd : X.A.guards = some []) (hb : Binds X.K fd ps ds) (hd : Vals dvs ds) (hx : Passes CX X E)
    (hbase : attributeBase o m X.env (eval o X.env) = eval o X.env) (hline : (apos.endLine == pos.line) = true) :
    PE X (.Call (.Attribute o m apos) [] [] pos) (tMeth C m sp dvs E ta tNil) := by
  refine ⟨fun pins s σ H Q I h => ?_⟩
  refine methI (args := []) hbase rfl hline (thn (he.run pins s σ H _ I h) fun u s1 ⟨x, H1, I1, rx, a, dx, fs, ex, ea, l, q⟩ => fun pl => ?_)
  subst ex
  obtain rfl : u = Value.ref a := rx
  refine getmeth_ok I1 ea c hm l ?_
  exact PySem.W.callWith_K0 (first := [.ref a]) I1.kIn hm.kp (run_fnG (us := [.ref a]) (vs := [.ref a]) F hr hgd hb hd hx I1 (.cons rfl .nil) q)
theorem run_makeG {pins : List (Addr × Obj)} {σ : L2.St} {H : Hp} {s : Shared} {Q : VK} {us : List Value} {vs : List V} (M : Mk X.K C f) (F : FnG X.prog X.w X.K X.mg X.base CX k f fd ps sp) (hr : Room (k + 1) X.A) (hgd : X.A.guards = some []) (hb : Binds X.K fd ps ds) (hd : Vals dvs ds)
    (hx : Passes CX X E) (I : Inv X pins σ H s) (r : Vals vs us)
    (h : ∀ x dx, H x = none → H dx = none → dx ≠ x → sp (.ref x :: (vs ++ dvs)) (upd (upd H dx (.own x)) x (.ins C dx [])) (fun v H2 => v = .non ∧ Q (.ref x) H2) E) :
    wpAny (model X.prog X.w) X.A (call (.ref C) us) (EP X pins σ Q) X.xe s := by
  have hq := h (s.heap.objs.size + 1) s.heap.objs.size (I.hok.fresh (Nat.le_succ _)) (I.hok.fresh (Nat.le_refl _)) (Nat.ne_of_lt (Nat.lt_succ_self _))
  have I2 := Inv.made (C := C) I
  have r2 : Vals (V.ref (s.heap.objs.size + 1) :: (vs ++ dvs)) (Value.ref (s.heap.objs.size + 1) :: (us ++ ds)) := .cons rfl (r.append hd)
  have hl : (Value.ref (s.heap.objs.size + 1) :: us ++ ds).length = ps.length := by
    have e := r2.length
    rw [F.len _ _ _ _ hq] at e
    exact e.symm
  have hgd2 : (X.A.under (.builtin "type.__call__" ⟨.ref C :: us, []⟩)).guards = some [] := by
    unfold Around.under
    dsimp only
    rw [hgd]
    rfl
  refine wpAny_call (make_map (f := f) I.kIn M.makes M.init (beq_iff_eq.mp M.fn) (codeAny_mono (F.run _ X.stack _ _ ⟨Value.ref (s.heap.objs.size + 1) :: us, []⟩ (Value.ref (s.heap.objs.size + 1) :: (us ++ ds)) _ _ E (hr.make C us []) hgd2
    (I2.env0.make C us []) (hb _ (Value.ref (s.heap.objs.size + 1) :: us) I2.kIn hl) r2 hq) fun r s' hq' => ?_))
  cases r with
  | error e => exact hx pins σ _ _ e s' I2 hq'
  | ok fl =>
    cases fl with
    | ret u =>
      obtain ⟨v, H', I3, rv, ev, q3⟩ := I2.after hq'
      subst ev
      exact ⟨rv, ⟨V.ref (s.heap.objs.size + 1), H', I3, rfl, q3⟩⟩
    | next => exact False.elim hq'
    | brk => exact False.elim hq'
    | cont => exact False.elim hq'
theorem pe_makeG (M : Mk X.K C f) (F : FnG X.prog X.w X.K X.mg X.base CX k f fd ps sp) (hr : Room (k + 1) X.A) (hgd : X.A.guards = some []) (hg : Gl X x) (hm : X.mg x = some (.ref C)) (hb : Binds X.K fd ps ds) (hd : Vals dvs ds) (hx : Passes CX X E)
    (ha : PA X (e :: es) t) (hdb : (x == ("__debug__" : Str)) = false) (he : starEach (e :: es) X.env = (false, eval e X.env) :: starEach es X.env) (hpl : (backTo pos (starEach es X.env)).any (·.1) = false) :
    PE X (.Call (.Name x p) (e :: es) [] pos) (tMake C sp dvs E t) := by
  refine ⟨fun pins s σ H Q I h => ?_⟩
  refine wpAny_Call_Name_kw (ld_glob I hg hm ?_ hdb)
  refine PySem.W.callWith_K (h₀ := X.base) I.ok.mod.kin M.kp (thn (ha.run pos pins s σ H _ I h) fun us s1 ⟨vs, H1, I1, r, q⟩ => ⟨I1.kIn, ?_⟩) he hpl
  exact run_makeG M F hr hgd hb hd hx I1 r q
end

/-! ### attributes -/
section
variable {K : Fr} {mu : List Addr} {H : Hp}
theorem flds_lookup {f : Str} {d : D} : ∀ {fs : List (Str × D)} {vs : List (Str × V)}, vs.map (·.1) = fs.map (·.1) → Reps K mu H (fs.map (·.2)) (vs.map (·.2)) → fs.lookup f = some d → ∃ w, vs.lookup f = some w ∧ Rep K mu H d w
  | [], vs, _, _, e => by cases e
  | (g, d') :: fs, [], ks, _, _ => by simp at ks
  | (g, d') :: fs, (g', w) :: vs, ks, rs, e => by
    simp only [List.map_cons, List.cons.injEq] at ks
    obtain ⟨rfl, ks⟩ := ks
    simp only [List.map_cons, Reps, List.cons.injEq] at rs
    obtain ⟨w', us, ⟨rfl, rfl⟩, rw', rs⟩ := rs
    rw [List.lookup_cons] at e ⊢
    by_cases z : (f == g') = true
    · rw [z] at e ⊢
      cases e
      exact ⟨w, rfl, rw'⟩
    · rw [Bool.not_eq_true] at z
      rw [z] at e ⊢
      exact flds_lookup ks rs e
theorem flds_none {f : Str} : ∀ {fs : List (Str × D)} {vs : List (Str × V)}, vs.map (·.1) = fs.map (·.1) → fs.lookup f = none → vs.lookup f = none
  | [], vs, ks, _ => by simp at ks; subst ks; rfl
  | (g, d') :: fs, [], ks, _ => by simp at ks
  | (g, d') :: fs, (g', w) :: vs, ks, e => by
    simp only [List.map_cons, List.cons.injEq] at ks
    obtain ⟨rfl, ks⟩ := ks
    rw [List.lookup_cons] at e ⊢
    by_cases z : (f == g') = true
    · rw [z] at e; cases e
    · rw [Bool.not_eq_true] at z
      rw [z] at e ⊢
      exact flds_none ks e
theorem flds_put {f : Str} {d : D} {v : V} (r : Rep K mu H d v) : ∀ {fs : List (Str × D)} {vs : List (Str × V)}, vs.map (·.1) = fs.map (·.1) → Reps K mu H (fs.map (·.2)) (vs.map (·.2)) →
    (putF f v vs).map (·.1) = (putD f d fs).map (·.1) ∧ Reps K mu H ((putD f d fs).map (·.2)) ((putF f v vs).map (·.2))
  | [], vs, ks, rs => by
    simp at ks; subst ks
    exact ⟨rfl, Reps.one r⟩
  | (g, d') :: fs, [], ks, _ => by simp at ks
  | (g, d') :: fs, (g', w) :: vs, ks, rs => by
    simp only [List.map_cons, List.cons.injEq] at ks
    obtain ⟨rfl, ks⟩ := ks
    simp only [List.map_cons, Reps, List.cons.injEq] at rs
    obtain ⟨w', us, ⟨rfl, rfl⟩, rw', rs⟩ := rs
    unfold putF putD
    by_cases z : g' = f
    · rw [if_pos z, if_pos z]
      refine ⟨by simp [z, ks], ?_⟩
      simp only [List.map_cons, Reps]
      exact ⟨v, _, rfl, r, rs⟩
    · rw [if_neg z, if_neg z]
      obtain ⟨a, b⟩ := flds_put (f := f) r ks rs
      refine ⟨by simp [a], ?_⟩
      simp only [List.map_cons, Reps]
      exact ⟨w, _, rfl, rw', b⟩
theorem flds_len {fs : List (Str × D)} {vs : List (Str × V)} (ks : vs.map (·.1) = fs.map (·.1)) : vs.length = fs.length := by
  have := congrArg List.length ks
  simpa using this
end
section
variable {X : Cx} {W : EX} {ma mv : Env → Hh → Out D} {e o : Expr} {f : Str} {pos pos' : Pos}
theorem s_fld (he : PE X e (tE X.K W ma)) (hb : attributeBase e f X.env (eval e X.env) = eval e X.env) (hf : f ∈ fldNames) : PE X (.Attribute e f pos) (tE X.K W fun env h => (ma env h).bind fun x h1 => getF x f h1) :=
  weakE (pe_fld he hb) fun sg H Q q => by
    obtain ⟨env, h, mu, re, rh, q⟩ := q
    refine ⟨env, h, mu, re, rh, q.bind.mono fun d mu1 H1 h1 x1 r1 q1 v rv => ?_⟩
    unfold getF at q1
    split at q1 <;> first | exact False.elim q1 | skip
    rename_i n
    split at q1 <;> first | exact False.elim q1 | skip
    rename_i c fs e1
    split at q1 <;> first | exact False.elim q1 | skip
    rename_i d e2
    simp only [Rep] at rv
    obtain ⟨a, rfl, em⟩ := rv
    obtain ⟨C, dx, vs, e3, kc, ks, rs⟩ := r1.obj n _ a e1 em
    obtain ⟨w, e4, rw'⟩ := flds_lookup ks rs e2
    exact ⟨a, C, dx, vs, w, rfl, e3, kc.cl, kc.na f hf, e4, q1.ok r1 w rw'⟩
theorem s_sfld (hv : PE X e (tE X.K W mv)) (ho : PE X o (tE X.K W ma)) (hf : f ∈ fldNames) (hs : swapsWith e (some (.Attribute o f pos')) pos.line X.env = pure false) :
    PS X (.Assign [.Attribute o f pos'] e pos) (tS X.K W fun env h => (mv env h).bind fun y h1 => (ma env h1).bind fun x h2 => (setF x f y h2).bind fun _ h3 => .ok (.nx env) h3) :=
  weakS (ps_fld ho hv hs) fun Dn sg H q => by
    obtain ⟨env, h, mu, re, rh, q⟩ := q
    refine ⟨env, h, mu, re, rh, q.bind.mono fun y mu1 H1 h1 x1 r1 q1 vy ry => ?_⟩
    refine ⟨env, h1, mu1, re.mono x1, r1, q1.bind.mono fun x mu2 H2 h2 x2 r2 q2 vx rx => ?_⟩
    have q3 := q2.bindB
    unfold setF at q3
    split at q3 <;> first | exact False.elim q3 | skip
    rename_i n
    split at q3 <;> first | exact False.elim q3 | skip
    rename_i c fs e1
    obtain ⟨hl, q3⟩ := pO.need q3
    simp only [Rep] at rx
    obtain ⟨a, rfl, em⟩ := rx
    obtain ⟨C, dx, vs, e3, kc, ks, rs⟩ := r2.obj n _ a e1 em
    have ry2 := Rep.mono x2 _ _ ry
    obtain ⟨k2, rs2⟩ := flds_put (f := f) ry2 ks rs
    refine ⟨a, C, dx, vs, rfl, e3, kc.cl, kc.na f hf, by rw [flds_len ks]; exact hl, ?_⟩
    have x3 : Ext mu2 H2 mu2 (upd H2 a (.ins C dx (putF f vy vs))) := Ext.setI (List.mem_of_getElem? em) e3
    have r3 := r2.setI em e3 kc k2 rs2
    exact (q3 mu2 _ x3 r3).ext x3 |>.ok r3 _ (((re.mono x1).mono x2).mono x3)
/-- try whose body raises nothing -/
theorem s_try {m : Env → Hh → Out Fl} {body : List Stmt} {h₀ : ExceptHandler} {hs : List ExceptHandler} (hb : PSs X.nox body (tS X.K W0 m)) : PS X (.Try body (h₀ :: hs) [] [] pos) (tS X.K W fun env h => (m env h).calm) :=
  weakS (ps_try_thru0 hb) fun Dn sg H q => by
    obtain ⟨env, h, mu, re, rh, q⟩ := q
    exact ⟨env, h, mu, re, rh, pO.calm q⟩
end
/-! ### exceptions -/
/-- what is wished of an exception, by its class's name, and by its class -/
def exOf (mg : Str → Option Value) (E : XK) : EX := fun c H => ∀ cls, mg c = some cls → E cls none H
def exK (mg : Str → Option Value) (W : EX) : XK := fun cls d H => d = none ∧ ∃ c, mg c = some cls ∧ W c H
abbrev wOf (mg : Str → Option Value) (W : EX) : WX := fun cls d _ H => d = none ∧ ∃ c, mg c = some cls ∧ W c H
/-- an own exception class -/
def ExcOk (K : Fr) (mg : Str → Option Value) (c : Str) : Prop := ∃ C : Addr, PySem.W.excIn K C [.type "ValueError", .type "Exception", .type "BaseException", .type "object"] "ValueError.__new__" = true ∧ mg c = some (.ref C) ∧ PySem.W.keepIn K (.ref C) = true ∧
  PySem.W.subIn K (.ref C) (.type "BaseException") = some true ∧ PySem.W.typeIn K (.ref C) = some (.type "type") ∧ PySem.W.exmOne K (.ref C) (.ref C) = some true
section
variable {X : Cx} {W : EX}
theorem s_raise {c m : Str} {j : Nat} {p p2 pos pos2 : Pos} (hc : X.calm = true) (tk : Takes X (wOf X.mg W)) (ok : ExcOk X.K X.mg c) (hg : Gl X c) (hdb : (c == ("__debug__" : Str)) = false) :
    PS X (.Raise (some (.Call (.Name c p) [.Constant (.str m) j p2] [] pos)) none pos2) (tS X.K W fun _ h => .exn c h) := by
  obtain ⟨C, q1, q2, q3, q4, q5, q6⟩ := ok
  exact weakS (ps_raise hc tk (pmk_own PySem.F.excBase_ValueError q1 q2 q3 (raises_own q4 q5) hg hdb)) fun Dn sg H q => by
    obtain ⟨env, h, mu, re, rh, q⟩ := q
    exact ⟨rfl, c, q2, q mu H Ext.refl rh⟩
/-- the wish of a try's body -/
def exW (N : List Str) (mg : Str → Option Value) (w : WX) : EX := fun c H => ∀ cls, mg c = some cls → ∀ σ, σ.length = N.length → w cls none σ H
theorem takes_exW {w : WX} (tk : Takes X w) : Takes X (wOf X.mg (exW X.N X.mg w)) := fun u s' ⟨a, B, sI, pins, σ, H, cls, d, e, I, nb, up, sky, na, os, ag, hd, c, hc, z⟩ => by
  subst hd
  exact tk u s' ⟨a, B, sI, pins, σ, H, cls, none, e, I, nb, up, sky, na, os, ag, z cls hc σ I.len⟩
theorem s_tryX {c x s : Str} {i j : Nat} {np px p2 pos pos' pos3 : Pos} {body : List Stmt} {mb : Env → Hh → Out Fl} (hs : X.stack = X.env :: X.outer) (hf : X.env.frame = some X.env.locals) (hN : X.N.Nodup) (hi : X.N[i]? = some x) (hx : Loc X.env.scope x)
    (hfn : X.fn x = true ∨ X.env.scope.names.lookup x = some .local) (ok : ExcOk X.K X.mg c) (hg : Gl X c) (hdb : (c == ("__debug__" : Str)) = false)
    (hb : ∀ (w : WX) (pn : List (Addr × Obj)) (xe : Value → Shared → Prop), Takes (X.tr pn xe) w → PassesOwn (model X.prog X.w) X.A X.env xe → PSs (X.tr pn xe) body (tS X.K (exW X.N X.mg w) mb)) :
    PS X (.Try body [.ExceptHandler (some (.Name c np)) none [.Assign [.Name x px] (.Constant (.str s) j p2) pos3] pos'] [] [] pos) (tS X.K W fun env h => caught c (fun h1 => .ok (.nx ((List.replicate X.N.length none).set i (some (.str s)))) h1) (mb env h)) := by
  obtain ⟨C, q1, q2, q3, q4, q5, q6⟩ := ok
  refine weakS (ps_try_only (x := c) (c := .ref C) (ts := fun _ _ _ => tAsg (tC (.str s)) (gName i)) (Wout := fun _ _ _ _ => False) (tb := fun w => tS X.K (exW X.N X.mg w) mb) hs hf ⟨hg, hdb, .inl q2⟩ (fun u s' ⟨_, _, _, _, _, _, _, _, _, _, _, _, _, _, _, _, z⟩ => z.elim) hb
    (fun a oe cls d pn _ _ => pss_one (ps_set (X := X.suite a ((a, oe) :: pn)) hN hi hx pe_str (hs := rfl) (hf := hfn)))) fun Dn sg H q => ?_
  obtain ⟨env, h, mu, re, rh, q⟩ := q
  refine ⟨env, h, mu, re, rh, ?_⟩
  have q' : pO X.K W mu H (caught c (fun h1 => Out.ok (Fl.nx ((List.replicate X.N.length none).set i (some (.str s)))) h1) (mb env h)) fun fl mu' H' _ => FlP X.K mu' H' Dn fl := q
  clear q
  revert q'
  cases mb env h with
  | ok fl h1 => exact fun q => q
  | stuck => exact fun q => q
  | exn c' h1 =>
    intro q
    by_cases z : c' = c
    · subst z
      rw [caught_is] at q
      intro mu' H' x' r' cls hcls σ hl
      rw [q2] at hcls
      cases hcls
      refine ⟨true, q6, fun _ a na => ?_, fun z => by cases z⟩
      refine q mu' H' x' r' (σ.set i (some (.str s))) ⟨by simp [hl], fun k d' e => ?_⟩
      by_cases hk : k = i
      · subst hk
        rw [List.getElem?_set] at e
        rw [if_pos rfl] at e
        split at e
        · cases e
          refine ⟨.str s, ?_, by simp [Rep]⟩
          rw [List.getElem?_set, if_pos rfl]
          rename_i hlt
          rw [if_pos (by rw [hl]; simpa using hlt)]
        · cases e
      · rw [List.getElem?_set, if_neg (fun e => hk e.symm), List.getElem?_replicate] at e
        split at e <;> cases e
    · rw [caught_no _ _ z] at q
      exact q.elim
end
/-! ### a caught exception is asked for its classes -/
def vOf : Value → V
  | .ref C => .ref C
  | .type n => .ty n
  | _ => .non
/-- a class's name -/
def CvIs (mg : Str → Option Value) (t : Str) (v : Value) : Prop := (∃ C, v = .ref C ∧ mg t = some v) ∨ (∃ n, v = .type n ∧ mg t = none ∧ bootBuiltins t = some v ∧ t ≠ "__name__")
def IsaOk (K : Fr) (mg : Str → Option Value) (c t : Str) (b : Bool) : Prop := ∃ (D : Addr) (v : Value), mg c = some (.ref D) ∧ ExcC K D ∧ CvIs mg t v ∧ PySem.W.exmOne K (.ref D) v = some b ∧ PySem.W.kitOne K (.ref D) v = some b
theorem CvIs.rel {mg : Str → Option Value} {t : Str} {v : Value} (h : CvIs mg t v) : RelV (vOf v) v ∧ ∀ u, RelV (vOf v) u → u = v := by
  rcases h with ⟨C, rfl, _⟩ | ⟨n, rfl, _⟩
  · exact ⟨rfl, fun u e => e⟩
  · exact ⟨rfl, fun u e => e⟩
theorem CvIs.uniq {mg : Str → Option Value} {t : Str} {v w : Value} (h : CvIs mg t v) (k : CvIs mg t w) : v = w := by
  rcases h with ⟨C, rfl, h1⟩ | ⟨n, rfl, h1, h2, _⟩ <;> rcases k with ⟨C', rfl, k1⟩ | ⟨n', rfl, k1, k2, _⟩
  · rw [h1] at k1; exact Option.some.inj k1
  · rw [h1] at k1; cases k1
  · rw [h1] at k1; cases k1
  · rw [h2] at k2; exact Option.some.inj k2
/-- names of classes, in turn -/
inductive NmsE (X : Cx) : List Expr → List Value → Prop
  | nil : NmsE X [] []
  | cons {t : Str} {p : Pos} {v : Value} {es : List Expr} {vs : List Value} : CvIs X.mg t v → Gl X t → (t == ("__debug__" : Str)) = false → NmsE X es vs → NmsE X (.Name t p :: es) (v :: vs)
inductive TstE (X : Cx) (n : Str) (D : Addr) : Expr → Bool → Prop
  | one {t : Str} {v : Value} {b : Bool} {p1 p2 p3 pos : Pos} : CvIs X.mg t v → PySem.W.kitOne X.K (.ref D) v = some b → Gl X t → (t == ("__debug__" : Str)) = false → TstE X n D (.Call (.Name "isinstance" p1) [.Name n p2, .Name t p3] [] pos) b
  | tup {es : List Expr} {vs : List Value} {b : Bool} {k : Nat} {p1 p2 p3 pos : Pos} : NmsE X es vs → PySem.W.kitAny X.K (.ref D) vs = some b → es.length ≤ 1000 → TstE X n D (.Call (.Name "isinstance" p1) [.Name n p2, .Tuple es k p3] [] pos) b
inductive AllT (X : Cx) (n : Str) (D : Addr) : List Expr → List Bool → Prop
  | nil : AllT X n D [] []
  | cons {e : Expr} {b : Bool} {es : List Expr} {bs : List Bool} : TstE X n D e b → AllT X n D es bs → AllT X n D (e :: es) (b :: bs)
theorem NmsE.vals {X : Cx} {es : List Expr} {vs : List Value} (h : NmsE X es vs) : ∀ us, Vals (vs.map vOf) us → us = vs := by
  induction h with
  | nil => intro us r; cases r; rfl
  | cons c g d _ ih =>
    intro us r
    cases r with
    | cons r1 r2 => rw [c.rel.2 _ r1, ih _ r2]
theorem NmsE.len {X : Cx} {es : List Expr} {vs : List Value} (h : NmsE X es vs) : vs.length = es.length := by
  induction h with
  | nil => rfl
  | cons _ _ _ _ ih => simp [ih]
theorem NmsE.suite {X : Cx} {es : List Expr} {vs : List Value} (h : NmsE X es vs) (a : Addr) (l : List (Addr × Obj)) : NmsE (X.suite a l) es vs := by
  induction h with
  | nil => exact .nil
  | cons c g d _ ih => exact .cons c g d ih
theorem pe_cv {X : Cx} {t : Str} {v : Value} {p : Pos} (c : CvIs X.mg t v) (g : Gl X t) (d : (t == ("__debug__" : Str)) = false) : PE X (.Name t p) (tC (vOf v)) := by
  rcases c with ⟨C, rfl, h1⟩ | ⟨n, rfl, h1, h2, h3⟩
  · exact pe_glob g h1 rfl d
  · exact pe_bltn g h1 h2 rfl h3 d
theorem pa_nms {X : Cx} {es : List Expr} {vs : List Value} (h : NmsE X es vs) : PA X es (fun _ H Q => Q (vs.map vOf) H) := by
  induction h with
  | nil => exact pa_nil
  | cons c g d _ ih => exact weakA (pa_cons (pe_cv c g d) ih) fun _ _ _ q => q
/-- isinstance(e, (c, ..)), e the exception that the suite holds -/
def rIsT (K : PySem.W.Frag) (D a : Addr) : List V → Hp → VK → Prop := fun xs H Q => ∃ (p : Addr) (ws : List V) (vs : List Value) (b : Bool), xs = [.ref a, .ref p] ∧ H p = some (.tup ws) ∧ (∀ us, Vals ws us → us = vs) ∧ PySem.W.kitAny K (.ref D) vs = some b ∧ Q (.bl b) H
theorem call_isT {X : Cx} {a D : Addr} {oe : Obj} {pn : List (Addr × Obj)} (C : ExcC X.K D) (hz : Zc (.ref D) none oe) (hf : ∃ vs, oe.data = .fields vs) : CallR (X.suite a ((a, oe) :: pn)) (.builtin "isinstance") (rIsT X.K D a) := by
  intro pins s σ H xs us Q I r h
  obtain ⟨p, ws, vs, b, rfl, hp, hvs, e, q⟩ := h
  cases r with
  | cons rx rr =>
    cases rr with
    | cons rt rr =>
      cases rr
      cases rx
      cases rt
      obtain ⟨hget, _⟩ := I.pin (a, oe) (List.mem_append.mpr (.inl List.mem_cons_self))
      obtain ⟨fs, hv⟩ := hf
      have J : PySem.W.InstAt s.heap a oe D none := by
        obtain ⟨oc, od, oda, osl⟩ := oe
        obtain ⟨h1, h2⟩ := hz
        dsimp only at h1 h2 hv
        subst h1 h2 hv
        exact ⟨hget, rfl, rfl, trivial⟩
      obtain ⟨_, its, r2, o, ho, hc, n, hd⟩ := I.hok _ _ hp
      have e2 := hvs _ r2
      subst e2
      obtain ⟨oc, od, oda, osl⟩ := o
      dsimp only at hc hd
      subst hc hd
      exact PySem.W.kia_tup (PySem.W.handS_kitx_exc C.hg C.hk C.hs C.hd C.ha C.hn C.ht C.hm) I.kIn J ho e (fun z => nomatch z) fun tk => ⟨.bl b, H, I.kept (t' := tk) fun _ _ z => z, rfl, q⟩
section
variable {X : Cx} {W : EX} {n : Str} {j : Nat} {a D : Addr} {oe : Obj} {pn : List (Addr × Obj)}
theorem pe_tst (C : ExcC X.K D) (hz : Zc (.ref D) none oe) (hf : ∃ vs, oe.data = .fields vs) (hn : X.N[j]? = some n) (hv : Vis X.env.scope n) (o1 : (n == ("__debug__" : Str)) = false) (o2 : (n == ("__classdict__" : Str)) = false) (hg : Gl X "isinstance") (hm : X.mg "isinstance" = none)
    {e : Expr} {b : Bool} (t : TstE X n D e b) : PE (X.suite a ((a, oe) :: pn)) e (fun σ H Q => σ[j]? = some (some (.ref a)) ∧ tE X.K W (fun _ h => .ok (.bl b) h) σ H Q) := by
  cases t with
  | one c k g d =>
    refine weakE (pe_callB (X := X.suite a ((a, oe) :: pn)) (call_isE C hz hf) hg hm rfl (pa_cons (pe_var (X := X.suite a ((a, oe) :: pn)) hn hv o1 o2) (pa_cons (pe_cv (X := X.suite a ((a, oe) :: pn)) c g d) pa_nil))) fun σ H Q q => ?_
    obtain ⟨hs, env, h, mu, re, rh, q⟩ := q
    exact ⟨_, hs, _, _, b, rfl, c.rel.2, k, q.ok rh _ (by simp [Rep])⟩
  | tup ns k hl =>
    have ns' := ns.suite a ((a, oe) :: pn)
    refine weakE (pe_callB (X := X.suite a ((a, oe) :: pn)) (call_isT C hz hf) hg hm rfl (pa_cons (pe_var (X := X.suite a ((a, oe) :: pn)) hn hv o1 o2) (pa_cons (pe_tup (pa_nms ns')) pa_nil))) fun σ H Q q => ?_
    obtain ⟨hs, env, h, mu, re, rh, q⟩ := q
    refine ⟨_, hs, ?_, fun p hp => ?_⟩
    · rw [List.length_map, ns.len, sizeLine_eq]; omega
    · exact ⟨p, _, _, b, rfl, upd_same, ns.vals, k, q mu _ (Ext.new hp) (rh.new hp) _ (by simp [Rep])⟩
theorem pa_tst (C : ExcC X.K D) (hz : Zc (.ref D) none oe) (hf : ∃ vs, oe.data = .fields vs) (hn : X.N[j]? = some n) (hv : Vis X.env.scope n) (o1 : (n == ("__debug__" : Str)) = false) (o2 : (n == ("__classdict__" : Str)) = false) (hg : Gl X "isinstance") (hm : X.mg "isinstance" = none)
    {es : List Expr} {bs : List Bool} (t : AllT X n D es bs) : PA (X.suite a ((a, oe) :: pn)) es (fun σ H Q => σ[j]? = some (some (.ref a)) ∧ tA X.K W (fun _ h => .ok (bs.map Ip.D.bl) h) σ H Q) := by
  induction t with
  | nil =>
      refine weakA pa_nil fun σ H Q q => ?_
      obtain ⟨hs, env, h, mu, re, rh, q⟩ := q
      exact q.ok rh [] (by simp [Reps])
  | cons t1 _ ih =>
      refine weakA (pa_cons (pe_tst (W := W) C hz hf hn hv o1 o2 hg hm t1) ih (hs := by cases t1 <;> rfl)) fun σ H Q q => ?_
      obtain ⟨hs, env, h, mu, re, rh, q⟩ := q
      refine ⟨hs, env, h, mu, re, rh, fun mu1 H1 x1 r1 v rv => ⟨hs, env, h, mu1, re.mono x1, r1, fun mu2 H2 x2 r2 vs rvs => ?_⟩⟩
      refine q mu2 H2 (x1.trans x2) r2 (v :: vs) ?_
      simp only [List.map_cons, Reps]
      exact ⟨v, vs, rfl, rv.mono x2, rvs⟩
end
/-- what the suite wants: the class, its answers, room for the list -/
def tsK (K : Fr) (mg : Str → Option Value) (X : Cx) (n : Str) (i j : Nat) (es : List Expr) (a : Addr) (cls : Value) (d : Option Addr) : TS := fun Dn σ H => ∃ (D : Addr) (bs : List Bool), cls = .ref D ∧ d = none ∧ ExcC K D ∧ AllT X n D es bs ∧ σ[j]? = some (some (.ref a)) ∧
  ∃ h mu, RelH K mu H h ∧ pO K W0 mu H (mkL (bs.map Ip.D.bl) h) fun d mu' H' _ => ∀ v, Rep K mu' H' d v → Dn.nx (σ.set i (some v)) H'
section
variable {X : Cx} {W : EX}
theorem s_tryK {c n x : Str} {i j : Nat} {np px pl pos pos' pos3 : Pos} {body : List Stmt} {es : List Expr} {cs : List (Str × List Bool)} {Bv : Value} {mb : Env → Hh → Out Fl} (hs : X.stack = X.env :: X.outer) (hf : X.env.frame = some X.env.locals) (hN : X.N.Nodup) (hi : X.N[i]? = some x) (hx : Loc X.env.scope x)
    (hfn : X.fn x = true ∨ X.env.scope.names.lookup x = some .local) (hj : X.N[j]? = some n) (hln : X.env.kindOf n = some .local) (hij : i ≠ j) (o1 : (n == ("__debug__" : Str)) = false) (o2 : (n == ("__classdict__" : Str)) = false) (hB : Names X c Bv) (hg : Gl X "isinstance") (hm : X.mg "isinstance" = none)
    (hcs : ∀ c' bs, cs.lookup c' = some bs → ∃ D, X.mg c' = some (.ref D) ∧ PySem.W.exmOne X.K (.ref D) Bv = some true ∧ ExcC X.K D ∧ AllT X n D es bs)
    (hb : ∀ (w : WX) (pn : List (Addr × Obj)) (xe : Value → Shared → Prop), Takes (X.tr pn xe) w → PassesOwn (model X.prog X.w) X.A X.env xe → PSs (X.tr pn xe) body (tS X.K (exW X.N X.mg w) mb)) :
    PS X (.Try body [.ExceptHandler (some (.Name c np)) (some n) [.Assign [.Name x px] (.List es pl) pos3] pos'] [] [] pos) (tS X.K W fun env h => caughtK cs (keptK i X.N.length) (mb env h)) := by
  refine weakS (ps_try_as (x := c) (c := Bv) (ts := tsK X.K X.mg X n i j es) (Wout := fun _ _ _ _ => False) (tb := fun w => tS X.K (exW X.N X.mg w) mb) hs hf hN hj hln hB (fun u s' ⟨_, _, _, _, _, _, _, _, _, _, _, _, _, _, _, _, z⟩ => z.elim) hb
    (fun a oe cls d pn hz hfl => ⟨fun pins s σ H Dn I q => ?_⟩)) fun Dn sg H q => ?_
  · obtain ⟨D, bs, rfl, rfl, C, at_, hsj, h, mu, rh, q⟩ := q
    refine (pss_one (ps_set (X := X.suite a ((a, oe) :: pn)) hN hi hx (pe_lst (pa_tst (W := W0) C hz hfl hj (.inl hln) o1 o2 hg hm at_)) (hs := rfl) (hf := hfn))).run pins s σ H Dn I ?_
    refine ⟨hsj, List.replicate σ.length none, h, mu, ⟨by simp, fun k d' e => ?_⟩, rh, fun mu1 H1 x1 r1 vs rvs => ?_⟩
    · rw [List.getElem?_replicate] at e
      split at e <;> cases e
    · obtain ⟨z1, z2⟩ := mkL_of (Q := fun v H' => Dn.nx (σ.set i (some v)) H') r1 rvs (q.ext x1)
      exact ⟨z1, fun p hp => z2 p hp⟩
  obtain ⟨env, h, mu, re, rh, q⟩ := q
  refine ⟨env, h, mu, re, rh, ?_⟩
  have q' : pO X.K W mu H (caughtK cs (keptK i X.N.length) (mb env h)) fun fl mu' H' _ => FlP X.K mu' H' Dn fl := q
  clear q
  revert q'
  cases mb env h with
  | ok fl h1 => exact fun q => q
  | stuck => exact fun q => q
  | exn c' h1 =>
    intro q
    cases hc : cs.lookup c' with
    | none =>
      have : caughtK cs (keptK i X.N.length) (.exn c' h1) = (.stuck : Out Fl) := by simp [caughtK, hc]
      rw [this] at q
      exact q.elim
    | some bs =>
      obtain ⟨D, q2, q6, C, at_⟩ := hcs _ _ hc
      rw [caughtK_is _ _ hc] at q
      intro mu' H' x' r' cls hcls σ hl
      rw [q2] at hcls
      cases hcls
      refine ⟨true, q6, fun _ a na => ?_, fun z => by cases z⟩
      have hjl : j < σ.length := by rw [hl]; exact (List.getElem?_eq_some_iff.mp hj).1
      refine ⟨D, bs, rfl, rfl, C, at_, ?_, h1, mu', r', ?_⟩
      · rw [List.getElem?_set, if_pos rfl, if_pos hjl]
      unfold keptK at q
      have q3 := (q.ext x').bind
      revert q3
      cases e : mkL (bs.map Ip.D.bl) h1 with
      | stuck => exact fun q => q
      | exn c2 h2 => unfold mkL need at e; split at e <;> cases e
      | ok d h2 =>
        intro q3
        intro mu2 H2 x2 r2 v rv
        refine (q3 mu2 H2 x2 r2).ok r2 (((σ.set j (some (.ref a))).set i (some v)).set j none) ⟨by simp [hl], fun k d' e => ?_⟩
        rw [List.getElem?_set] at e
        by_cases hk : i = k
        · subst hk
          rw [if_pos rfl] at e
          split at e
          · cases e
            rename_i hlt
            refine ⟨v, ?_, rv⟩
            rw [List.getElem?_set_ne (fun z => hij z.symm), List.getElem?_set, if_pos rfl, if_pos (by simpa [hl] using hlt)]
          · cases e
        · rw [if_neg hk, List.getElem?_replicate] at e
          split at e <;> cases e
end
end Ip

/-! Ip, part F: from the program's trees to the interpreter's. -/
namespace Ip
open PySem PySem.Spec PyProof.Rows L2

/-! ### the translation -/
def bopOf : Operator → Option Bop
  | .Add => some .add
  | .Sub => some .sub
  | .Mult => some .mul
  | .FloorDiv => some .fdiv
  | .Mod => some .mod
  | .Pow => some .pow
  | _ => none
def copI : CmpOp → Cop
  | .Eq => .eq
  | .NotEq => .ne
  | .Lt => .lt
  | .LtE => .le
  | .Gt => .gt
  | .GtE => .ge
  | .Is => .is
  | .IsNot => .isnot
  | .In => .in
  | .NotIn => .notin
theorem copOf_I (o : CmpOp) : copOf (copI o) = o := by cases o <;> rfl
theorem opOf_of {o : Operator} {b : Bop} (h : bopOf o = some b) : opOf b = o := by cases o <;> simp [bopOf] at h <;> subst h <;> rfl
def biTab : List (Str × Bi) := [("abs", .abs), ("len", .len), ("int", .int), ("isinstance", .isinst), ("sum", .sum), ("list", .list), ("tuple", .tuple), ("max", .max), ("min", .min), ("range", .range), ("enumerate", .enumerate), ("zip", .zip), ("sorted", .sorted), ("repr", .repr), ("str", .str), ("all", .all)]
def mtTab : List (Str × Mt) := [("append", .append), ("extend", .extend), ("pop", .popAt), ("count", .count), ("insert", .insert), ("remove", .remove), ("index", .index), ("join", .join), ("split", .split)]
def mt0Tab : List (Str × Mt0) := [("pop", .pop), ("reverse", .reverse), ("clear", .clear)]
def tyTab : List (Str × String) := [("int", "int"), ("bool", "bool"), ("str", "str"), ("tuple", "tuple"), ("list", "list"), ("dict", "dict")]
def mapO {α β : Type} (f : α → Option β) : List α → Option (List β)
  | [] => some []
  | a :: as => match f a with
    | some b => match mapO f as with
      | some bs => some (b :: bs)
      | none => none
    | none => none
/-- the place of a name -/
def slotOf (N : List Str) (x : Str) : Option Nat := let i := N.idxOf x; if i < N.length then some i else none
def isVis (sc : Scope) (x : Str) : Bool := match sc.names.lookup x with
  | some .local => true
  | some .cell => true
  | some .free => true
  | _ => false
def isGl (sc : Scope) (x : Str) : Bool := match sc.names.lookup x with
  | some .globalImplicit => true
  | _ => false
def okName (x : Str) : Bool := !(x == ("__debug__" : Str)) && !(x == ("__classdict__" : Str))
def notSlice : Expr → Bool
  | .Slice _ _ _ _ => false
  | _ => true
/-- and, or of several -/
def trBo (o : BoolOp) : List Ex → Option Ex
  | [] => none
  | [a] => some a
  | a :: b :: r => match trBo o (b :: r) with
    | some t => some (match o with | .And => .and a t | .Or => .or a t)
    | none => none
/-- a target of names; ok: may a name be stored -/
def trT (N : List Str) (ok : Str → Bool) : Expr → Option Ex
  | .Name x _ => if ok x then (slotOf N x).map .var else none
  | .Tuple [.Name x _, .Name y _] _ _ => if ok x && ok y then match slotOf N x, slotOf N y with
    | some i, some j => some (.tup [.var i, .var j])
    | _, _ => none else none
  | .Tuple [.Name x _, .Name y _, .Name z _] _ _ => if ok x && ok y && ok z then match slotOf N x, slotOf N y, slotOf N z with
    | some i, some j, some k => some (.tup [.var i, .var j, .var k])
    | _, _, _ => none else none
  | _ => none
def isOwn (scope : Scope) (x : Str) : Bool := match scope.names.lookup x with
  | some .local => true
  | some .cell => true
  | _ => false
/-- a block's own names and their places -/
def ownOf (N : List Str) (scope : Scope) : List (Str × Nat) := (scope.names.filter fun y => (match y.2 with | .local => true | .cell => true | _ => false) && N.contains y.1).map fun y => (y.1, N.idxOf y.1)
def ownTB (tg : Ex) (own : List Nat) : Bool := match tg with
  | .var i => own.contains i
  | .tup [.var i, .var j] => own.contains i && own.contains j
  | .tup [.var i, .var j, .var k] => own.contains i && own.contains j && own.contains k
  | _ => false
theorem ownT_of {tg : Ex} {own : List Nat} (h : ownTB tg own = true) : OwnT tg own := by
  unfold ownTB at h
  unfold OwnT
  split at h <;> simp_all
def notSet : Expr → Bool
  | .Set _ _ _ => false
  | _ => true
/-- the module's constants and defs -/
structure Cf where
  con : List (Str × D)
  fns : List Str
  cls : List (Str × Str)
  mets : List (Str × Str × Str)
  exs : List Str
  isa : List (Str × Str × Bool)
/-- how many arguments -/
def biAr : Bi → Nat → Bool
  | .range, n => n == 1 || n == 2
  | .enumerate, n => n == 1
  | .zip, n => n == 2
  | _, _ => true
/-- pairs are walked by a tuple of names alone -/
def tgOk (ti : Ex) (tg : Expr) : Bool := match ti with
  | .bi .enumerate _ => (match tg with | .Tuple .. => true | _ => false)
  | .bi .zip _ => (match tg with | .Tuple .. => true | _ => false)
  | _ => true
/-- list(g(xs)), g one of enumerate, reversed, range; len(set(xs)) -/
inductive Lk where | enum | rev | range | lset | sset
def lkOf : Lk → Str
  | .enum => "enumerate"
  | .rev => "reversed"
  | .range => "range"
  | .lset => "set"
  | .sset => "set"
/-- the outer one -/
def lkF : Lk → Str
  | .lset => "len"
  | .sset => "sorted"
  | _ => "list"
def lkTab : List ((Str × Str) × Lk) := [(("enumerate", "list"), .enum), (("reversed", "list"), .rev), (("range", "list"), .range), (("set", "len"), .lset), (("set", "sorted"), .sset)]
def lenArg (sc : Scope) (f : Str) (a : Expr) (as : List Expr) : Option (Lk × Expr × List Expr) := match a, as with
  | .Call (.Name g _) (x :: xs) [] _, [] => if isGl sc g then match lkTab.lookup (g, f) with
    | some k => some (k, x, xs)
    | none => none else none
  | _, _ => none
theorem lenArg_of {sc : Scope} {f : Str} {a x : Expr} {as xs : List Expr} {k : Lk} (h : lenArg sc f a as = some (k, x, xs)) : ∃ g p pos, a = .Call (.Name g p) (x :: xs) [] pos ∧ as = [] ∧ f = lkF k ∧ isGl sc g = true ∧ g = lkOf k := by
  have key : ∀ p ∈ lkTab, p.1 = (lkOf p.2, lkF p.2) := by decide +kernel
  unfold lenArg at h
  split at h
  · split at h
    · rename_i hg
      split at h
      · rename_i k' e
        cases h
        obtain ⟨l1, l2, e2, _⟩ := List.lookup_eq_some_iff.mp e
        have hm : ((_, f), k) ∈ lkTab := e2 ▸ List.mem_append_right _ List.mem_cons_self
        have := key _ hm
        simp only [Prod.mk.injEq] at this
        exact ⟨_, _, _, rfl, rfl, this.2, hg, this.1⟩
      · cases h
    · cases h
  · cases h
/-- keys and values of a written dict, in turn -/
def interl : List (Option Expr) → List Expr → Option (List Expr)
  | [], [] => some []
  | some k :: ks, v :: vs => (interl ks vs).map fun r => k :: v :: r
  | _, _ => none
def trE : Nat → List Str → Cf → Scope → Expr → Option Ex
  | 0, _, _, _, _ => none
  | n + 1, N, ct, sc, e => match e with
    | .Constant c _ _ => match c with
      | .none => some .non
      | .bool b => some (.bl b)
      | .int i => some (.int i)
      | .str x => some (.str x)
      | _ => none
    | .Name x _ => if okName x then (if isVis sc x then (slotOf N x).map .var else if isGl sc x then (match ct.con.lookup x with
      | some d => some (.con d)
      | none => (tyTab.lookup x).map fun t => .con (.ty t)) else none) else none
    | .Tuple es _ _ => (mapO (trE n N ct sc) es).map .tup
    | .List es _ => (mapO (trE n N ct sc) es).map .lst
    | .Dict keys values _ => if keys.isEmpty && values.isEmpty then some (.dct []) else match interl keys values with
      | some es => if decide (keys.length ≤ 15) && !keys.isEmpty then (mapO (trE n N ct sc) es).map .dct else none
      | none => none
    | .BinOp a op b _ => match bopOf op, trE n N ct sc a, trE n N ct sc b with
      | some o, some x, some y => some (.bin o x y)
      | _, _, _ => none
    | .UnaryOp .USub a _ => (trE n N ct sc a).map .neg
    | .UnaryOp .Not a _ => (trE n N ct sc a).map .not
    | .Compare a [op] [b] _ => match notSet b, trE n N ct sc a, trE n N ct sc b with
      | true, some x, some y => some (.cmp (copI op) x y)
      | _, _, _ => none
    | .Compare a [op, op'] [b, c] _ => match notSet c, trE n N ct sc a, trE n N ct sc b, trE n N ct sc c with
      | true, some x, some y, some z => some (.chain (copI op) (copI op') x y z)
      | _, _, _, _ => none
    | .BoolOp o (a :: b :: r) _ => (mapO (trE n N ct sc) (a :: b :: r)).bind (trBo o)
    | .IfExp c a b _ => match trE n N ct sc c, trE n N ct sc a, trE n N ct sc b with
      | some x, some y, some z => some (.ite x y z)
      | _, _, _ => none
    | .Call (.Name f _) (a :: as) [] _ => if isGl sc f && okName f then match lenArg sc f a as with
      | some (.enum, x, []) => (trE n N ct sc x).map .lenum
      | some (.rev, x, []) => (trE n N ct sc x).map .lrev
      | some (.lset, x, []) => (trE n N ct sc x).map .lset
      | some (.sset, x, []) => (trE n N ct sc x).map .sset
      | some (.range, x, []) => (trE n N ct sc x).map fun t => .lrange [t]
      | some (.range, x, [y]) => match trE n N ct sc x, trE n N ct sc y with
        | some t, some u => some (.lrange [t, u])
        | _, _ => none
      | some _ => none
      | none => match mapO (trE n N ct sc) (a :: as) with
      | some ts => match biTab.lookup f with
        | some b => if biAr b ts.length then some (.bi b ts) else none
        | none => if ct.fns.contains f then some (.call f ts) else match ct.cls.lookup f with
          | some g => some (.make g f ts)
          | none => none
      | none => none else none
    | .Call (.Attribute o m apos) (a :: as) [] cpos => match trE n N ct sc o, mapO (trE n N ct sc) (a :: as) with
      | some x, some ts => if apos.endLine == cpos.line && decide (as.length < 20) then (match ct.mets.lookup m with
        | some (c, f) => some (.meth f c m x ts)
        | none => (mtTab.lookup m).map fun t => .mt t x ts) else none
      | _, _ => none
    | .Call (.Attribute o m apos) [] [] cpos => match trE n N ct sc o with
      | some x => if apos.endLine == cpos.line then (match ct.mets.lookup m with
        | some (c, f) => some (.meth f c m x [])
        | none => (mt0Tab.lookup m).map fun t => .mt0 t x) else none
      | none => none
    | .JoinedStr (v1 :: v2 :: r) _ => (mapO (trE n N ct sc) (v1 :: v2 :: r)).map .fstr
    | .FormattedValue a k none _ => if k == (-1) then (trE n N ct sc a).map .fmt else none
    | .Attribute a f _ => if fldNames.contains f then (trE n N ct sc a).map fun t => .fld t f else none
    | .Subscript a (.Slice lo hi (some st) _) _ => match trE n N ct sc a, (match lo with | none => some .non | some l => trE n N ct sc l), (match hi with | none => some .non | some l => trE n N ct sc l), trE n N ct sc st with
      | some x, some l, some u, some z => some (.slS x l u z)
      | _, _, _, _ => none
    | .Subscript a (.Slice lo hi none _) _ => match trE n N ct sc a, (match lo with | none => some .non | some l => trE n N ct sc l), (match hi with | none => some .non | some l => trE n N ct sc l) with
      | some x, some l, some u => some (.sl x l u)
      | _, _, _ => none
    | .Subscript a b _ => if notSlice b then match trE n N ct sc a, trE n N ct sc b with
      | some x, some y => some (.ix x y)
      | _, _ => none else none
    | .ListComp elt [⟨tg, iter, ifs, 0⟩] scope _ =>
      let own := ownOf N scope
      if blkC N sc scope own && notSet iter then match trE n N ct sc iter, trT N (isOwn scope) tg, trE n N ct (relS scope sc) elt with
        | some ti, some tt, some te => if ownTB tt (own.map (·.2)) && tgOk ti tg then match ifs with
          | [] => some (.lc ti tt te (own.map (·.2)))
          | [c] => match trE n N ct (relS scope sc) c with
            | some tc => some (.lcIf ti tt tc te (own.map (·.2)))
            | none => none
          | _ => none else none
        | _, _, _ => none else none
    | _ => none
def isCompB : Expr → Bool
  | .ListComp .. | .SetComp .. | .DictComp .. => true
  | _ => false
def isTupB : Expr → Bool
  | .Tuple .. | .List .. => true
  | _ => false
/-- one clause, without a name, that stores a text -/
def tryH : List ExceptHandler → Option (Str × Str × Str)
  | [.ExceptHandler (some (.Name c _)) none [.Assign [.Name x _] (.Constant (.str s) _ _) _] _] => some (c, x, s)
  | _ => none
theorem tryH_of {hs : List ExceptHandler} {c x s : Str} (h : tryH hs = some (c, x, s)) : ∃ np px j p2 pos3 pos', hs = [.ExceptHandler (some (.Name c np)) none [.Assign [.Name x px] (.Constant (.str s) j p2) pos3] pos'] := by
  unfold tryH at h
  split at h
  · cases h; exact ⟨_, _, _, _, _, _, rfl⟩
  · cases h
/-- isinstance(n, t), isinstance(n, (t, ..)) -/
def nmOf : Expr → Option Str
  | .Name t _ => some t
  | _ => none
def tstOf (n : Str) : Expr → Option (Str ⊕ List Str)
  | .Call (.Name f _) [.Name e _, .Name t _] [] _ => if f == ("isinstance" : Str) && e == n then some (.inl t) else none
  | .Call (.Name f _) [.Name e _, .Tuple es _ _] [] _ => if f == ("isinstance" : Str) && e == n then (mapO nmOf es).map .inr else none
  | _ => none
def isaB (ct : Cf) (c t : Str) : Option Bool := (ct.isa.find? fun p => p.1 == c && p.2.1 == t).map fun p => p.2.2
/-- the answer to a question -/
def tstB (ct : Cf) (sc : Scope) (c : Str) : Str ⊕ List Str → Option Bool
  | .inl t => if isGl sc t && okName t then isaB ct c t else none
  | .inr ts => if ts.length ≤ 1000 then (mapO (fun t => if isGl sc t && okName t then isaB ct c t else none) ts).map fun bs => bs.any id else none
def csOf (ct : Cf) (sc : Scope) (B : Str) (qs : List (Str ⊕ List Str)) : List (Str × List Bool) := ct.exs.filterMap fun c => if isaB ct c B = some true then (mapO (tstB ct sc c) qs).map fun bs => (c, bs) else none
/-- one clause, with a name, that stores what is asked of the exception -/
def tryQ : List ExceptHandler → Option (Str × Str × Str × List (Str ⊕ List Str))
  | [.ExceptHandler (some (.Name c _)) (some n) [.Assign [.Name x _] (.List es _) _] _] => (mapO (tstOf n) es).map fun qs => (c, n, x, qs)
  | _ => none
theorem tryQ_of {hs : List ExceptHandler} {c n x : Str} {qs : List (Str ⊕ List Str)} (h : tryQ hs = some (c, n, x, qs)) : ∃ np px es pl pos3 pos', hs = [.ExceptHandler (some (.Name c np)) (some n) [.Assign [.Name x px] (.List es pl) pos3] pos'] ∧ mapO (tstOf n) es = some qs := by
  unfold tryQ at h
  split at h
  · rw [Option.map_eq_some_iff] at h
    obtain ⟨qs', e, h⟩ := h
    cases h
    exact ⟨_, _, _, _, _, _, rfl, e⟩
  · cases h
/-- a raised class with a text -/
def raiseC : Option Expr → Option Expr → Option Str
  | some (.Call (.Name c _) [.Constant (.str _) _ _] [] _), none => some c
  | _, _ => none
theorem raiseC_of {e f : Option Expr} {c : Str} (h : raiseC e f = some c) : ∃ p m j p2 pos, e = some (.Call (.Name c p) [.Constant (.str m) j p2] [] pos) ∧ f = none := by
  unfold raiseC at h
  split at h
  · cases h; exact ⟨_, _, _, _, _, rfl, rfl⟩
  · cases h
def trS : Nat → List Str → Cf → Scope → Stmt → Option Stt
  | 0, _, _, _, _ => none
  | n + 1, N, ct, sc, s => match s with
    | .Assign [.Tuple [.Name x px, .Name y py] _ _] (.Tuple [a, b] _ _) _ =>
      if sc.names.lookup x == some .local && sc.names.lookup y == some .local && py.line == px.line && x != y && !([a, b].all (foldedForSure 8)) && !([a, b].all (constantsAlone 8)) then
        match slotOf N x, slotOf N y, trE n N ct sc a, trE n N ct sc b with
        | some i, some j, some s, some t => some (.asg (.tup [.var i, .var j]) (.tup [s, t]))
        | _, _, _, _ => none
      else none
    | .Assign [.Subscript o i _] e _ => if notSlice i && !isCompB e then match trE n N ct sc o, trE n N ct sc i, trE n N ct sc e with
      | some x, some k, some t => some (.asg (.ix x k) t)
      | _, _, _ => none else none
    | .Assign [.Attribute o f _] e _ => if fldNames.contains f && !isCompB e then match trE n N ct sc o, trE n N ct sc e with
      | some x, some t => some (.sfld x f t)
      | _, _ => none else none
    | .Try body (h₀ :: hs) [] [] _ => match tryH (h₀ :: hs) with
      | some (c, x, s) => if ct.exs.contains c && isGl sc c && okName c && isOwn sc x then match slotOf N x, mapO (trS n N ct sc) body with
          | some i, some b => some (.tryX b c i s N.length)
          | _, _ => none
        else (mapO (trS n N ct sc) body).map .tr
      | none => match tryQ (h₀ :: hs) with
        | some (c, en, x, qs) => if (sc.names.lookup en == some .local) && isGl sc c && okName c && isOwn sc x && okName en && isGl sc ("isinstance" : Str) && !(x == en) && ct.exs.any (fun c' => isaB ct c' c == some true) then match slotOf N en, slotOf N x, mapO (trS n N ct sc) body with
            | some _, some i, some b => some (.tryK b (csOf ct sc c qs) i N.length)
            | _, _, _ => none
          else (mapO (trS n N ct sc) body).map .tr
        | none => (mapO (trS n N ct sc) body).map .tr
    | .Raise e c _ => match raiseC e c with
      | some c => if ct.exs.contains c && isGl sc c && okName c then some (.raise c) else some .never
      | none => some .never
    | .Assign [.Name x _] e _ => match trT N (isOwn sc) (.Name x ⟨0, 0, 0, 0⟩), trE n N ct sc e with
      | some tt, some t => some (.asg tt t)
      | _, _ => none
    | .Assign [.Tuple ts k p] e _ => if !isTupB e && !isCompB e then match trT N (isOwn sc) (.Tuple ts k p), trE n N ct sc e with
      | some tt, some t => some (.asg tt t)
      | _, _ => none else none
    | .AugAssign (.Name x _) .Add e _ => if isOwn sc x then match slotOf N x, trE n N ct sc e with
      | some i, some t => some (.aug i t)
      | _, _ => none else none
    | .AugAssign (.Subscript o i _) .Add e _ => if notSlice i then match trE n N ct sc o, trE n N ct sc i, trE n N ct sc e with
      | some x, some k, some t => some (.augS x k t)
      | _, _, _ => none else none
    | .Return none _ => some .retN
    | .Return (some e) _ => (trE n N ct sc e).map .ret
    | .While c body [] _ => match trE n N ct sc c, mapO (trS n N ct sc) body with
      | some t, some b => some (.whl t b)
      | _, _ => none
    | .If c a b _ => match trE n N ct sc c, mapO (trS n N ct sc) a, mapO (trS n N ct sc) b with
      | some t, some x, some y => some (.ite t x y)
      | _, _, _ => none
    | .For tg it body [] _ => if notSet it then match trT N (isOwn sc) tg, trE n N ct sc it, mapO (trS n N ct sc) body with
      | some t, some i, some b => if tgOk i tg then some (.fr t i b) else none
      | _, _, _ => none else none
    | .Expr e _ => if !isCompB e then (trE n N ct sc e).map .ex else none
    | .Pass _ => some .pass
    | .Break _ => some .brk
    | .Continue _ => some .cnt
    | _ => none
/-- x = dict(zip(a, b)); x.update(y) -/
def trZ (n : Nat) (N : List Str) (ct : Cf) (sc : Scope) : Stmt → Stmt → Option Stt
  | .Assign [.Name x _] (.Call (.Name d _) [.Call (.Name z _) [a, b] [] _] [] _) _, .Expr (.Call (.Attribute (.Name x' _) m apos) [.Name y _] [] cpos) _ =>
    if d == ("dict" : Str) && isGl sc d && z == ("zip" : Str) && isGl sc z && m == ("update" : Str) && x' == x && isOwn sc x && isVis sc x && okName x && isVis sc y && okName y && (apos.endLine == cpos.line) && (ct.con.lookup ("dict" : Str)).isNone then
      match slotOf N x, slotOf N y, trE n N ct sc a, trE n N ct sc b with
      | some i, some j, some t, some u => if i == j then none else some (.dzu i t u j)
      | _, _, _, _ => none
    else none
  | _, _ => none
/-- a body -/
def trB (n : Nat) (N : List Str) (ct : Cf) (sc : Scope) : List Stmt → Option (List Stt)
  | [] => some []
  | [s] => (trS n N ct sc s).map fun t => [t]
  | s1 :: s2 :: rest => match trZ n N ct sc s1 s2 with
    | some t => (trB n N ct sc rest).map (t :: ·)
    | none => match trS n N ct sc s1, trB n N ct sc (s2 :: rest) with
      | some t, some ts => some (t :: ts)
      | _, _ => none
end Ip

/-! Ip, part T: enumerate and zip over lists and tuples. -/
namespace Ip
open PySem PySem.Spec PyProof.Rows L2

/-- b: a tuple (true) or a list (false) -/
def SqX (b : Bool) (K : Fr) (H : Hp) (a : Addr) (xs : List V) : Prop := match b with
  | true => SqT K H a xs
  | false => SqL K H a xs
def objX (b : Bool) (h : Heap) (a : Addr) (its : Array Value) : Prop := match b with
  | true => h.IsTuple a its
  | false => h.IsList a its
def itrX (b : Bool) (h : Heap) (it a : Addr) (i : Nat) : Prop := match b with
  | true => h.IsTupleIter it a i
  | false => h.IsListIter it a i
def newX (b : Bool) (a : Addr) : Obj := match b with
  | true => { cls := .type "tuple_iterator", data := .fields #[.ref a, .int 0 0] }
  | false => { cls := .type "list_iterator", data := .fields #[.ref a, .int 0 0] }
theorem beginsX (b : Bool) (a : Addr) (its : Array Value) : Begins (.ref a) (newX b a) fun h => objX b h a its := by
  cases b
  · exact begins_list a its
  · exact begins_tuple a its
theorem drawsX {prog : Program} {w : World} {A : Around} (b : Bool) (hh : A.handled = none) (it a : Addr) (hne : a ≠ it) (its : Array Value) :
    Draws prog w A it [it, a] its.size (fun i v => its[i]? = some v) (fun i h => itrX b h it a i ∧ objX b h a its) := by
  cases b
  · exact Draws.list hh it a hne its
  · exact Draws.tuple hh it a hne its
theorem itrX_new {b : Bool} {h : Heap} {it a : Addr} (e : h.get? it = some (newX b a)) : itrX b h it a 0 := by
  cases b
  · exact ⟨_, e, rfl, rfl⟩
  · exact ⟨_, e, rfl, rfl⟩
theorem itrX_obj {b : Bool} {h : Heap} {it a : Addr} {i : Nat} (x : itrX b h it a i) : ∃ o, h.get? it = some o ∧ ∃ vs, o.data = .fields vs := by
  cases b
  · obtain ⟨o, h1, h2, h3⟩ := x
    exact ⟨o, h1, _, h3⟩
  · obtain ⟨o, h1, h2, h3⟩ := x
    exact ⟨o, h1, _, h3⟩
theorem itrX_keep {b : Bool} {h h' : Heap} {it a : Addr} {i : Nat} (x : itrX b h it a i) (k : ∀ o, h.get? it = some o → h'.get? it = some o) : itrX b h' it a i := by
  cases b
  · obtain ⟨o, h1, h2, h3⟩ := x
    exact ⟨o, k o h1, h2, h3⟩
  · obtain ⟨o, h1, h2, h3⟩ := x
    exact ⟨o, k o h1, h2, h3⟩
theorem itrX_lt {b : Bool} {h : Heap} {it a : Addr} {i : Nat} (x : itrX b h it a i) : it < h.objs.size := by
  obtain ⟨o, e, _⟩ := itrX_obj x
  exact Heap.lt_size e
section
variable {X : Cx} {pins : List (Addr × Obj)} {sg : L2.St} {H : Hp} {s : Shared}
theorem read_X {b : Bool} {a : Addr} {xs : List V} (I : L2.Inv X pins sg H s) (h : SqX b X.K H a xs) : ∃ its : List Value, Vals xs its ∧ objX b s.heap a its.toArray ∧ a < s.heap.objs.size ∧ ∀ o, s.heap.get? a = some o → ∃ vs n, o.data = .seq vs n := by
  cases b
  · obtain ⟨its, r, p, _⟩ := I.list h
    refine ⟨its, r, p.isList, p.lt, fun o e => ?_⟩
    obtain ⟨o', e', _, n, d⟩ := p.isList
    rw [e] at e'
    cases e'
    exact ⟨_, n, d⟩
  · obtain ⟨its, r, p, _⟩ := I.tuple h
    refine ⟨its, r, p, p.lt, fun o e => ?_⟩
    obtain ⟨o', e', _, n, d⟩ := p
    rw [e] at e'
    cases e'
    exact ⟨_, n, d⟩
theorem inj_X {b : Bool} {a : Addr} {xs ys : List V} (I : L2.Inv X pins sg H s) (h : SqX b X.K H a xs) (h' : SqX b X.K H a ys) : xs = ys := by
  cases b
  · exact I.list_inj h h'
  · exact I.tuple_inj h h'
end

/-! ### enumerate -/
theorem meets_enum {v : Value} {o : Obj} {H : Heap → Prop} (B : Begins v o H) :
    Meets (Builtin.«enumerate.__new__» ⟨[.type "enumerate", v], []⟩) (fun _ R s => H s.heap ∧
      R (.ok (.ret (.ref (s.heap.push o).objs.size))) { s with heap := (s.heap.push o).push { cls := .type "enumerate", data := .fields #[.none, .bool false, .ref s.heap.objs.size, rawInt 0, .none, .none] } }) := by
  refine .of_wp fun prog w A R s h => ?_
  obtain ⟨hp, g, d, tk, os⟩ := s
  obtain ⟨h1, h⟩ := h
  have hsub := sub_enumerate
  have q1 : ∀ {A' : Around} {E : Value → Shared → Prop} {Q : Value → Shared → Prop}, Q (.ref hp.objs.size) ⟨hp.push o, g, d, tk, os⟩ → wpAny (model prog w) A' (pyIter v) Q E ⟨hp, g, d, tk, os⟩ := by
    intro A' E Q q
    exact B.iter prog w _ _ ⟨hp, g, d, tk, os⟩ _ h1 q
  wp_walk using q1
  refine wpAny_stack_any fun st => wpAny_pure ?_
  split
  · rename_i c _ _ _ _ _
    cases (c == Value.type "enumerate")
    · wp_walk using q1
      exact ⟨_, rfl, h⟩
    · wp_walk using q1
      exact ⟨_, rfl, h⟩
  · wp_walk using q1
    exact ⟨_, rfl, h⟩
theorem call_enum {prog : Program} {w : World} {A : Around} {E : Value → Shared → Prop} {s : Shared} {v : Value} {o : Obj} {H : Heap → Prop} {Q : Value → Shared → Prop} (B : Begins v o H) (h1 : H s.heap)
    (h : ∀ h', IsEnum h' (s.heap.objs.size + 1) s.heap.objs.size 0 .none → h'.get? s.heap.objs.size = some o →
      (∀ b o, s.heap.get? b = some o → h'.get? b = some o) → Q (.ref (s.heap.objs.size + 1)) { s with heap := h' }) :
    wpAny (model prog w) A (call (.type "enumerate") [v]) Q E s := by
  refine callType_new F.called_enumerate (by decide) (F.typeCall_enumerate_1 _) (F.newCall_enumerate_1 _) (fun obj => F.args_object_init_2 obj _) F.entry_enumerate_new (meets_enum B) ⟨h1, ?_⟩
  have hz : (s.heap.push o).objs.size = s.heap.objs.size + 1 := Heap.size_push ..
  show _ ∧ _
  rw [hz]
  have key := Heap.get?_push_size (s.heap.push o) (o := { cls := .type "enumerate", data := .fields #[.none, .bool false, .ref s.heap.objs.size, rawInt 0, .none, .none] }) rfl
  rw [hz] at key
  refine ⟨⟨_, key, rfl⟩, h _ key (Heap.get?_push_of_some _ (Heap.get?_push_size _ B.free)) fun b o x => ?_⟩
  exact Heap.get?_push_of_some _ (Heap.get?_push_of_some _ x)

/-- the pairs of a place and an item -/
def ItE (b : Bool) (K : Fr) (a : Addr) : It where
  go i H := ∃ xs x, SqX b K H a xs ∧ xs[i]? = some x
  yld i H v H' := ∃ t x o, v = .ref t ∧ H t = none ∧ o.dict = none ∧ H' = upd H t (.frz o (.tup [.int (i : Nat), x])) ∧ ∀ xs, SqX b K H a xs → xs[i]? = some x
  stop i H := ∃ xs, SqX b K H a xs ∧ i = xs.length
theorem turn_E {P : Program} {w : World} {K : Fr} {elts : List Expr} {kk : Nat} {tpos : Pos} (b : Bool) (a e it : Addr) :
    Turn P w K (.Tuple elts kk tpos) (ItE b K a) [e, it] e (fun i h => (∃ old, IsEnum h e it (i : Nat) old) ∧ itrX b h it a i ∧ e ≠ it) where
  mem := List.mem_cons_self ..
  obj := fun i h st c hc => by
    obtain ⟨⟨old, he⟩, hi, _⟩ := st
    rcases List.mem_cons.mp hc with z | z
    · subst z
      exact ⟨_, he, fun v q => nomatch q⟩
    · rw [List.mem_singleton.mp z]
      obtain ⟨o, e1, vs, d⟩ := itrX_obj hi
      exact ⟨o, e1, fun v q => by rw [d] at q; cases q⟩
  keep := fun i h h' st k => by
    obtain ⟨⟨old, he⟩, hi, hne⟩ := st
    exact ⟨⟨old, k e (by simp) _ he⟩, itrX_keep hi fun o q => k it (by simp) o q, hne⟩
  item := by
    intro X eP ew eK hc i pins s sg H E I hf st hg
    subst eP ew eK
    obtain ⟨⟨old, he⟩, hi, hne⟩ := st
    obtain ⟨xs, x, hq, hx⟩ := hg
    obtain ⟨its, rv, ob, la, nf⟩ := read_X I hq
    obtain ⟨u, hu, ru⟩ := rv.get hx
    have le : e < s.heap.objs.size := Heap.lt_size he
    have li := itrX_lt hi
    have hai : a ≠ it := fun z => by
      obtain ⟨o, e1, vs, d⟩ := itrX_obj hi
      obtain ⟨vs', n, d'⟩ := nf o (by rw [z]; exact e1)
      rw [d] at d'
      cases d'
    have hea : e ≠ a := fun z => by
      obtain ⟨vs', n, d'⟩ := nf _ (by rw [← z]; exact he)
      cases d'
    have hlt : i < its.toArray.size := by
      have := (List.getElem?_eq_some_iff.mp hu).1
      simpa using this
    refine wpAny_pyNext_enum_itemC (drawsX (prog := X.prog) (w := X.w) (A := X.A.in1) b (show X.A.in1.handled = none from I.ok.hd hc) it a hai its.toArray) he ⟨hi, ob⟩ hlt hne (by simp [hne, hea]) fun y h' tk hy ho st' hT hz hk => ?_
    have ey : y = u := by
      have : its[i]? = some y := by simpa using hy
      rw [hu] at this
      exact (Option.some.inj this).symm
    subst ey
    refine ⟨_, rfl, wpAny_letOwnedTupleGo_enum (s := { s with heap := h', toks := tk + 1 }) ho fun h2 he2 sb => ?_⟩
    have hT2 := (sb.2 s.heap.objs.size (Nat.ne_of_gt le)).trans hT
    let u0 : HO := .frz { cls := .type "tuple", data := .seq #[.int (i : Nat) tk, y] } (.tup [.int (i : Nat), x])
    have new : ObjOk X.prog X.w (upd H s.heap.objs.size u0) h2 s.heap.objs.size u0 :=
      ⟨hT2, by show 2 ≤ sizeLine; decide, [.int i tk, y], .cons ⟨_, rfl⟩ (.cons ru .nil), ⟨_, hT2, rfl, _, rfl⟩⟩
    have I1 := I.turnedNew (t' := tk + 1) (ch := [e, it]) (fun c ob hb q => (sb.2 c fun z => hb (by simp [z])).trans (hk c ob (fun z => hb (by simp [z])) (fun z => hb (by simp [z])) q)) hf (Nat.le_refl _) new
    refine ⟨.ref s.heap.objs.size, _, I1, rfl, ⟨_, x, _, rfl, I.hok.fresh (Nat.le_refl _), rfl, rfl, fun ys hy' => by rw [inj_X I hy' hq]; exact hx⟩, ⟨⟨y, ?_⟩, itrX_keep st'.1 fun o q => (sb.2 it (Ne.symm hne)).trans q, hne⟩, fun c hcm => ?_⟩
    · have e1 : ((i + 1 : Nat) : Int) = (i : Int) + 1 := by omega
      rw [e1]
      exact he2
    · have lc : c < s.heap.objs.size := by
        rcases List.mem_cons.mp hcm with z | z
        · rw [z]; exact le
        · rw [List.mem_singleton.mp z]; exact li
      rw [upd_ne (Nat.ne_of_lt lc)]
      exact (hf c hcm).1
  done := by
    intro X eP ew eK hc i pins s sg H E I hf st hg
    subst eP ew eK
    obtain ⟨⟨old, he⟩, hi, hne⟩ := st
    obtain ⟨xs, hq, rfl⟩ := hg
    obtain ⟨its, rv, ob, la, nf⟩ := read_X I hq
    have hai : a ≠ it := fun z => by
      obtain ⟨o, e1, vs, d⟩ := itrX_obj hi
      obtain ⟨vs', n, d'⟩ := nf o (by rw [z]; exact e1)
      rw [d] at d'
      cases d'
    have hl : its.toArray.size = xs.length := by
      rw [List.size_toArray]
      exact rv.length.symm
    obtain ⟨f0, f1, f2, f3, f4, f5⟩ := hf it (by simp)
    refine wpAny_pyNext_enum_endD (drawsX (prog := X.prog) (w := X.w) (A := X.A.in1) b (show X.A.in1.handled = none from I.ok.hd hc) it a hai its.toArray) he (by rw [hl]; exact ⟨hi, ob⟩) fun h' eb => ⟨rfl, I.turned (t' := s.toks) (fun c o hb q => eb c o hb q) f0 f1 f3 f4 f5⟩
  self := fun A i s Q E st h => by
    obtain ⟨⟨_, he⟩, _⟩ := st
    exact wpAny_pyIter_enum he h
def iE (b : Bool) (K : Fr) (ta : TA) : TI := fun sg H R => ta sg H fun vs H1 => ∃ a xs, vs = [.ref a] ∧ SqX b K H1 a xs ∧ R (ItE b K a) H1
theorem pi_E {X : Cx} {e : Expr} {ta : TA} {p pos tpos : Pos} {elts : List Expr} {kk : Nat} (b : Bool) (hg : Gl X "enumerate") (hm : X.mg "enumerate" = none) (ha : PA X [e] ta) (hs : starEach [e] X.env = [(false, eval e X.env)]) :
    PI X (.Tuple elts kk tpos) (.Call (.Name "enumerate" p) [e] [] pos) (iE b X.K ta) := by
  refine ⟨fun pins s sg H R I h => ?_⟩
  refine Call_ (ld_blt I hg hm boot_enumerate (PyProof.Rows.callWith_type1 (thn (ha.run pos pins s sg H _ I h) fun us s1 q0 => ?_) hs rfl))
  obtain ⟨vs, H1, I1, r1, a, xs, ex, hq, q⟩ := q0
  subst ex
  obtain ⟨u, rfl, r⟩ := vals1 r1
  cases r
  obtain ⟨its, rv, ob, la, nf⟩ := read_X I1 hq
  refine call_enum (beginsX b a its.toArray) ob fun h' he hit hk => wpAny_pyIter_enum he ?_
  have I2 := I1.kept (t' := s1.toks) hk
  refine ⟨s1.heap.objs.size + 1, [s1.heap.objs.size + 1, s1.heap.objs.size], _, _, H1, rfl, I2, turn_E b a (s1.heap.objs.size + 1) s1.heap.objs.size, ⟨⟨.none, he⟩, itrX_new hit, Nat.succ_ne_self _⟩, fun c hc => ?_, q⟩
  have lc : s1.heap.objs.size ≤ c := by
    rcases List.mem_cons.mp hc with z | z
    · rw [z]; exact Nat.le_add_right _ _
    · rw [List.mem_singleton.mp z]; exact Nat.le_refl _
  exact I1.fpOk lc (I1.hok.fresh lc)

/-! ### zip -/
/-- pairs of items, as many as the shorter one has -/
def ItZ (b c : Bool) (K : Fr) (a1 a2 : Addr) : It where
  go i H := ∃ xs ys x y, SqX b K H a1 xs ∧ SqX c K H a2 ys ∧ xs[i]? = some x ∧ ys[i]? = some y
  yld i H v H' := ∃ t x y o, v = .ref t ∧ H t = none ∧ o.dict = none ∧ H' = upd H t (.frz o (.tup [x, y])) ∧ (∀ xs, SqX b K H a1 xs → xs[i]? = some x) ∧ ∀ ys, SqX c K H a2 ys → ys[i]? = some y
  stop i H := ∃ xs ys, SqX b K H a1 xs ∧ SqX c K H a2 ys ∧ i ≤ xs.length ∧ i ≤ ys.length ∧ (i = xs.length ∨ i = ys.length)
/-- the cells of a zip -/
structure ZAp (z TI TO i1 i2 : Addr) : Prop where
  TIz : TI ≠ z
  TOz : TO ≠ z
  TITO : TI ≠ TO
  TIi1 : TI ≠ i1
  TIi2 : TI ≠ i2
  i12 : i1 ≠ i2
/-- what stands at an address is no list or tuple that is walked -/
theorem apart_seq {h : Heap} {p a : Addr} {o : Obj} (e : h.get? p = some o) (nf : ∀ o, h.get? a = some o → ∃ vs n, o.data = .seq vs n) (d : ∀ vs n, o.data ≠ .seq vs n) : p ≠ a := fun z => by
  obtain ⟨vs, n, q⟩ := nf o (by rw [← z]; exact e)
  exact d vs n q
theorem apart_itr {b : Bool} {h : Heap} {p it a : Addr} {i : Nat} {o : Obj} (e : h.get? p = some o) (x : itrX b h it a i) (d : ∀ vs, o.data = .fields vs → o.cls ≠ .type "list_iterator" ∧ o.cls ≠ .type "tuple_iterator") : p ≠ it := fun z => by
  cases b
  · obtain ⟨o', h1, h2, h3⟩ := x
    rw [← z, e] at h1
    cases h1
    exact (d _ h3).1 h2
  · obtain ⟨o', h1, h2, h3⟩ := x
    rw [← z, e] at h1
    cases h1
    exact (d _ h3).2 h2
theorem mem5 {c z TI TO i1 i2 : Addr} (h : c ∈ [z, TI, TO, i1, i2]) : c = z ∨ c = TI ∨ c = TO ∨ c = i1 ∨ c = i2 := by simpa using h
abbrev tnZ (b c : Bool) (a1 a2 z TI TO i1 i2 : Addr) (i : Nat) (h : Heap) : Prop := IsZip h z TI TO .none ∧ IsTupOf2 h TI (.ref i1) (.ref i2) ∧ (∃ x y, IsTupOf2 h TO x y) ∧ itrX b h i1 a1 i ∧ itrX c h i2 a2 i ∧
  (∀ o, h.get? a1 = some o → TO ≠ a1) ∧ TO ≠ a1 ∧ TO ≠ a2
theorem turn_Z {P : Program} {w : World} {K : Fr} {elts : List Expr} {kk : Nat} {tpos : Pos} (b c : Bool) {a1 a2 z TI TO i1 i2 : Addr} (Z : ZAp z TI TO i1 i2) :
    Turn P w K (.Tuple elts kk tpos) (ItZ b c K a1 a2) [z, TI, TO, i1, i2] z (tnZ b c a1 a2 z TI TO i1 i2) where
  mem := List.mem_cons_self ..
  obj := fun i h st p hp => by
    obtain ⟨hz, hTI, ⟨x, y, hTO⟩, h1, h2, _⟩ := st
    obtain ⟨o1, e1, vs1, d1⟩ := itrX_obj h1
    obtain ⟨o2, e2, vs2, d2⟩ := itrX_obj h2
    rcases mem5 hp with q | q | q | q | q
    · subst q; exact ⟨_, hz, fun v q => nomatch q⟩
    · subst q; exact ⟨_, hTI, fun v q => nomatch q⟩
    · subst q; exact ⟨_, hTO, fun v q => nomatch q⟩
    · subst q; exact ⟨o1, e1, fun v q => by rw [d1] at q; cases q⟩
    · subst q; exact ⟨o2, e2, fun v q => by rw [d2] at q; cases q⟩
  keep := fun i h h' st k => by
    obtain ⟨hz, hTI, ⟨x, y, hTO⟩, h1, h2, n0, n1, n2⟩ := st
    exact ⟨k z (by simp) _ hz, k TI (by simp) _ hTI, ⟨x, y, k TO (by simp) _ hTO⟩, itrX_keep h1 fun o q => k i1 (by simp) o q, itrX_keep h2 fun o q => k i2 (by simp) o q, fun _ _ => n1, n1, n2⟩
  item := by
    intro X eP ew eK hc i pins s sg H E I hf st hg
    subst eP ew eK
    obtain ⟨hz, hTI, ⟨x0, y0, hTO⟩, h1, h2, _, n1, n2⟩ := st
    obtain ⟨xs, ys, x, y, hqx, hqy, hx, hy⟩ := hg
    obtain ⟨its, rv, ob, la, nf⟩ := read_X I hqx
    obtain ⟨its2, rv2, ob2, la2, nf2⟩ := read_X I hqy
    obtain ⟨u, hu, ru⟩ := rv.get hx
    obtain ⟨u2, hu2, ru2⟩ := rv2.get hy
    have lz : z < s.heap.objs.size := Heap.lt_size hz
    obtain ⟨o1, e1, vs1, d1⟩ := itrX_obj h1
    obtain ⟨o2, e2, vs2, d2⟩ := itrX_obj h2
    have za1 : z ≠ a1 := apart_seq hz nf (fun _ _ q => nomatch q)
    have za2 : z ≠ a2 := apart_seq hz nf2 (fun _ _ q => nomatch q)
    have ia11 : i1 ≠ a1 := apart_seq e1 nf (fun _ _ q => by rw [d1] at q; cases q)
    have ia12 : i1 ≠ a2 := apart_seq e1 nf2 (fun _ _ q => by rw [d1] at q; cases q)
    have ia21 : i2 ≠ a1 := apart_seq e2 nf (fun _ _ q => by rw [d2] at q; cases q)
    have ia22 : i2 ≠ a2 := apart_seq e2 nf2 (fun _ _ q => by rw [d2] at q; cases q)
    have zi1 : z ≠ i1 := apart_itr hz h1 (fun _ _ => ⟨by simp, by simp⟩)
    have zi2 : z ≠ i2 := apart_itr hz h2 (fun _ _ => ⟨by simp, by simp⟩)
    have Ti1 : TO ≠ i1 := apart_itr hTO h1 (fun _ _ => ⟨by simp, by simp⟩)
    have Ti2 : TO ≠ i2 := apart_itr hTO h2 (fun _ _ => ⟨by simp, by simp⟩)
    have S : ZipSep2 z TI TO i1 i2 [i1, a1] [i2, a2] := ⟨Z.TIz, Z.TOz, Z.TITO, Z.TIi1, by simp, by simp [zi1, za1], by simp [Ti1, n1], Z.TIi2, by simp, by simp [zi2, za2], by simp [Ti2, n2], by simp [Z.i12, ia12], by simp [Z.i12.symm, ia21]⟩
    have hh : X.A.in1.handled = none := I.ok.hd hc
    have hlt : i < its.toArray.size := by
      have := (List.getElem?_eq_some_iff.mp hu).1
      simpa using this
    have hlt2 : i < its2.toArray.size := by
      have := (List.getElem?_eq_some_iff.mp hu2).1
      simpa using this
    refine wpAny_pyNext_zipD2_item S (drawsX (prog := X.prog) (w := X.w) (A := X.A.in1) b hh i1 a1 ia11.symm its.toArray) (drawsX (prog := X.prog) (w := X.w) (A := X.A.in1) c hh i2 a2 ia22.symm its2.toArray) hz hTI hTO ⟨h1, ob⟩ ⟨h2, ob2⟩ hlt hlt2 fun v1 v2 h' tk p1 p2 z' TO' st1 st2 hT hsz hk => ?_
    have ev1 : v1 = u := by
      have : its[i]? = some v1 := by simpa using p1
      rw [hu] at this
      exact (Option.some.inj this).symm
    have ev2 : v2 = u2 := by
      have : its2[i]? = some v2 := by simpa using p2
      rw [hu2] at this
      exact (Option.some.inj this).symm
    subst ev1 ev2
    refine ⟨_, rfl, wpAny_letOwnedTupleGo_zip (s := { s with heap := h', toks := tk }) z' fun h3 z3 sb => ?_⟩
    have hT2 := (sb.2 s.heap.objs.size (Nat.ne_of_gt lz)).trans hT
    let u0 : HO := .frz { cls := .type "tuple", data := .seq #[v1, v2] } (.tup [x, y])
    have new : ObjOk X.prog X.w (upd H s.heap.objs.size u0) h3 s.heap.objs.size u0 :=
      ⟨hT2, by show 2 ≤ sizeLine; decide, [v1, v2], .cons ru (.cons ru2 .nil), ⟨_, hT2, rfl, _, rfl⟩⟩
    have I1 := I.turnedNew (t' := tk) (ch := [z, TI, TO, i1, i2]) (fun p ob hb q => (sb.2 p fun z => hb (by simp [z])).trans (hk p ob (fun z => hb (by simp [z])) (fun z => hb (by simp [z])) (fun z => hb (by simp [z])) (fun z => hb (by simp [z])) q)) hf (Nat.le_refl _) new
    refine ⟨.ref s.heap.objs.size, _, I1, rfl, ⟨_, x, y, _, rfl, I.hok.fresh (Nat.le_refl _), rfl, rfl, fun l hl => by rw [inj_X I hl hqx]; exact hx, fun l hl => by rw [inj_X I hl hqy]; exact hy⟩, ⟨z3, ?_, ⟨v1, v2, ?_⟩, ?_, ?_, fun _ _ => n1, n1, n2⟩, fun p hp => ?_⟩
    · exact (sb.2 _ Z.TIz).trans (hk _ _ Z.TIz Z.TITO Z.TIi1 Z.TIi2 hTI)
    · exact (sb.2 _ Z.TOz).trans TO'
    · exact itrX_keep st1.1 fun o q => (sb.2 _ (Ne.symm zi1)).trans q
    · exact itrX_keep st2.1 fun o q => (sb.2 _ (Ne.symm zi2)).trans q
    · have lp : p < s.heap.objs.size := by
        rcases mem5 hp with q | q | q | q | q
        · rw [q]; exact lz
        · rw [q]; exact Heap.lt_size hTI
        · rw [q]; exact Heap.lt_size hTO
        · rw [q]; exact itrX_lt h1
        · rw [q]; exact itrX_lt h2
      rw [upd_ne (Nat.ne_of_lt lp)]
      exact (hf p hp).1
  done := by
    intro X eP ew eK hc i pins s sg H E I hf st hg
    subst eP ew eK
    obtain ⟨hz, hTI, ⟨x0, y0, hTO⟩, h1, h2, _, n1, n2⟩ := st
    obtain ⟨xs, ys, hqx, hqy, l1, l2, hend⟩ := hg
    obtain ⟨its, rv, ob, la, nf⟩ := read_X I hqx
    obtain ⟨its2, rv2, ob2, la2, nf2⟩ := read_X I hqy
    obtain ⟨o1, e1, vs1, d1⟩ := itrX_obj h1
    obtain ⟨o2, e2, vs2, d2⟩ := itrX_obj h2
    have za1 : z ≠ a1 := apart_seq hz nf (fun _ _ q => nomatch q)
    have za2 : z ≠ a2 := apart_seq hz nf2 (fun _ _ q => nomatch q)
    have ia11 : i1 ≠ a1 := apart_seq e1 nf (fun _ _ q => by rw [d1] at q; cases q)
    have ia12 : i1 ≠ a2 := apart_seq e1 nf2 (fun _ _ q => by rw [d1] at q; cases q)
    have ia21 : i2 ≠ a1 := apart_seq e2 nf (fun _ _ q => by rw [d2] at q; cases q)
    have ia22 : i2 ≠ a2 := apart_seq e2 nf2 (fun _ _ q => by rw [d2] at q; cases q)
    have zi1 : z ≠ i1 := apart_itr hz h1 (fun _ _ => ⟨by simp, by simp⟩)
    have zi2 : z ≠ i2 := apart_itr hz h2 (fun _ _ => ⟨by simp, by simp⟩)
    have Ti1 : TO ≠ i1 := apart_itr hTO h1 (fun _ _ => ⟨by simp, by simp⟩)
    have Ti2 : TO ≠ i2 := apart_itr hTO h2 (fun _ _ => ⟨by simp, by simp⟩)
    have S : ZipSep2 z TI TO i1 i2 [i1, a1] [i2, a2] := ⟨Z.TIz, Z.TOz, Z.TITO, Z.TIi1, by simp, by simp [zi1, za1], by simp [Ti1, n1], Z.TIi2, by simp, by simp [zi2, za2], by simp [Ti2, n2], by simp [Z.i12, ia12], by simp [Z.i12.symm, ia21]⟩
    have hh : X.A.in1.handled = none := I.ok.hd hc
    have s1 : its.toArray.size = xs.length := by rw [List.size_toArray]; exact rv.length.symm
    have s2 : its2.toArray.size = ys.length := by rw [List.size_toArray]; exact rv2.length.symm
    exact wpAny_pyNext_zipD2_end S (drawsX (prog := X.prog) (w := X.w) (A := X.A.in1) b hh i1 a1 ia11.symm its.toArray) (drawsX (prog := X.prog) (w := X.w) (A := X.A.in1) c hh i2 a2 ia22.symm its2.toArray) hz hTI hTO ⟨h1, ob⟩ ⟨h2, ob2⟩ (by rw [s1]; exact l1) (by rw [s2]; exact l2) (by rw [s1, s2]; exact hend) fun h' tk hk =>
      ⟨rfl, I.turnedL (t' := tk) (ch := [z, TI, TO, i1, i2]) (fun p o hb q => hk p o (fun z => hb (by simp [z])) (fun z => hb (by simp [z])) (fun z => hb (by simp [z])) (fun z => hb (by simp [z])) q) hf⟩
  self := fun A i s Q E st h => wpAny_pyIter_zip st.1 h
def iZ (b c : Bool) (K : Fr) (ta : TA) : TI := fun sg H R => ta sg H fun vs H1 => ∃ a1 a2 xs ys, vs = [.ref a1, .ref a2] ∧ SqX b K H1 a1 xs ∧ SqX c K H1 a2 ys ∧ R (ItZ b c K a1 a2) H1
theorem zap {n : Nat} : ZAp (n + 4) (n + 2) (n + 3) n (n + 1) := ⟨show (n + 2 : Nat) ≠ n + 4 by omega, show (n + 3 : Nat) ≠ n + 4 by omega, show (n + 2 : Nat) ≠ n + 3 by omega, show (n + 2 : Nat) ≠ n by omega, show (n + 2 : Nat) ≠ n + 1 by omega, show (n : Nat) ≠ n + 1 by omega⟩
theorem pi_Z {X : Cx} {e e2 : Expr} {ta : TA} {p pos tpos : Pos} {elts : List Expr} {kk : Nat} (b c : Bool) (hg : Gl X "zip") (hm : X.mg "zip" = none) (ha : PA X [e, e2] ta) (hs : starEach [e, e2] X.env = (false, eval e X.env) :: starEach [e2] X.env) (hpl : (backTo pos (starEach [e2] X.env)).any (·.1) = false) :
    PI X (.Tuple elts kk tpos) (.Call (.Name "zip" p) [e, e2] [] pos) (iZ b c X.K ta) := by
  refine ⟨fun pins s sg H R I h => ?_⟩
  refine Call_ (ld_blt I hg hm PyProof.Rows.boot_zip (PyProof.Rows.callWith_type1 (thn (ha.run pos pins s sg H _ I h) fun us s1 q0 => ?_) hs hpl))
  obtain ⟨vs, H1, I1, r1, a1, a2, xs, ys, ex, hqx, hqy, q⟩ := q0
  subst ex
  obtain ⟨u, u2, rfl, r, r2⟩ := vals2 r1
  cases r
  cases r2
  obtain ⟨its, rv, ob, la, nf⟩ := read_X I1 hqx
  obtain ⟨its2, rv2, ob2, la2, nf2⟩ := read_X I1 hqy
  refine zip_begins2 (beginsX b a1 its.toArray) (beginsX c a2 its2.toArray) ob ob2 fun h' hz hTI hTO h1 h2 hsz hk => wpAny_pyIter_zip hz ?_
  have I2 := I1.kept (t' := s1.toks) hk
  have n1 : s1.heap.objs.size + 3 ≠ a1 := fun z => by
    have : (s1.heap.objs.size + 3 : Nat) < s1.heap.objs.size := by rw [z]; exact la
    omega
  have n2 : s1.heap.objs.size + 3 ≠ a2 := fun z => by
    have : (s1.heap.objs.size + 3 : Nat) < s1.heap.objs.size := by rw [z]; exact la2
    omega
  refine ⟨s1.heap.objs.size + 4, [s1.heap.objs.size + 4, s1.heap.objs.size + 2, s1.heap.objs.size + 3, s1.heap.objs.size, s1.heap.objs.size + 1], _, _, H1, rfl, I2, turn_Z b c zap, ⟨hz, hTI, ⟨_, _, hTO⟩, itrX_new h1, itrX_new h2, fun _ _ => n1, n1, n2⟩, fun p hp => ?_, q⟩
  have lc : s1.heap.objs.size ≤ p := by
    rcases mem5 hp with z | z | z | z | z
    · rw [z]; exact Nat.le_add_right _ _
    · rw [z]; exact Nat.le_add_right _ _
    · rw [z]; exact Nat.le_add_right _ _
    · rw [z]; exact Nat.le_refl _
    · rw [z]; exact Nat.le_add_right _ _
  exact I1.fpOk lc (I1.hok.fresh lc)

/-! ### what the interpreter walks -/
def isTupD : D → Bool
  | .tup _ => true
  | _ => false
theorem src_of {K : Fr} {mu : List Addr} {H : Hp} {h h1 : Hh} {d : D} {v : V} {x : Its} (rh : RelH K mu H h) (r : Rep K mu H d v) (e : itSeqZ d h = .ok x h1) : h1 = h ∧ ∃ a ws, v = .ref a ∧ SqX (isTupD d) K H a ws ∧
    ∀ mu' H' h', Ext mu H mu' H' → RelH K mu' H' h' → chkOk x.2 h' → ∃ ws, SqX (isTupD d) K H' a ws ∧ Reps K mu' H' x.1 ws := by
  unfold itSeqZ at e
  split at e
  · cases e
    have r' := r
    simp only [Rep] at r
    obtain ⟨a, ws, rfl, s1, rs⟩ := r
    exact ⟨rfl, a, ws, rfl, s1.t, fun mu' H' h' y _ _ => tup_now r' y⟩
  · cases e
    obtain ⟨a, ws, rfl, s1, rs⟩ := seqL_of (h := h) rh r rfl
    exact ⟨rfl, a, ws, rfl, s1, fun mu' H' h' y _ _ => frz_now r y⟩
  · split at e
    · rename_i e2
      cases e
      obtain ⟨a, ws, rfl, m, h2, rs⟩ := ref_of rh r e2
      exact ⟨rfl, a, ws, rfl, .inl (.inl h2), fun mu' H' h' y r1 c => refL_now m y r1 (chk_one c)⟩
    · cases e
  · cases e
theorem enumD_get : ∀ (ds : List D) (n i : Nat) (d : D), ds[i]? = some d → (enumD n ds)[i]? = some (.tup [.int ((n + i : Nat) : Int), d])
  | [], _, _, _, e => by simp at e
  | d :: ds, n, 0, x, e => by
    simp at e
    subst e
    rfl
  | d :: ds, n, i + 1, x, e => by
    have := enumD_get ds (n + 1) i x (by simpa using e)
    rw [enumD]
    simp only [List.getElem?_cons_succ]
    rw [this, show n + 1 + i = n + (i + 1) by omega]
theorem enumD_len : ∀ (ds : List D) (n : Nat), (enumD n ds).length = ds.length
  | [], _ => rfl
  | d :: ds, n => by simp [enumD, enumD_len ds]
theorem zipD_get : ∀ (ds es : List D) (i : Nat) (d e : D), ds[i]? = some d → es[i]? = some e → (zipD ds es)[i]? = some (.tup [d, e])
  | [], _, _, _, _, h, _ => by simp at h
  | _ :: _, [], _, _, _, _, h => by simp at h
  | d :: ds, e :: es, 0, x, y, h, g => by
    simp at h g
    subst h g
    rfl
  | d :: ds, e :: es, i + 1, x, y, h, g => by
    have := zipD_get ds es i x y (by simpa using h) (by simpa using g)
    rw [zipD]
    simpa using this
theorem zipD_len : ∀ (ds es : List D), (zipD ds es).length = min ds.length es.length
  | [], es => by simp [zipD]
  | d :: ds, [] => by simp [zipD]
  | d :: ds, e :: es => by simp [zipD, zipD_len ds es, Nat.add_min_add_right]
theorem jok_enum {K : Fr} {mu0 : List Addr} {H0 : Hp} {b : Bool} {a : Addr} {ds : List D} {chk : List (Nat × List D)} (now : ∀ mu H h, Ext mu0 H0 mu H → RelH K mu H h → chkOk chk h → ∃ ws, SqX b K H a ws ∧ Reps K mu H ds ws) : JOk K mu0 H0 (enumD 0 ds, chk) (ItE b K a) := by
  refine ⟨fun H => ∃ ws, SqX b K H a ws ∧ ws.length = ds.length, fun i H v H' => (ItE b K a).yld i H v H', ⟨fun i H hi q => ?_, fun H q => ?_, fun i H v H' _ _ y => y⟩, fun mu H h x r c => ?_, fun mu H h i v H' x r c y => ?_⟩
  · obtain ⟨ws, q, e⟩ := q
    rw [enumD_len] at hi
    exact ⟨ws, ws[i]'(by rw [e]; exact hi), q, List.getElem?_eq_getElem _⟩
  · obtain ⟨ws, q, e⟩ := q
    exact ⟨ws, q, by rw [enumD_len, e]⟩
  · obtain ⟨ws, q, rs⟩ := now mu H h x r c
    exact ⟨ws, q, rs.length.symm⟩
  · obtain ⟨ws, q, rs⟩ := now mu H h x r c
    obtain ⟨t, u, o, rfl, ht, hod, rfl, y⟩ := y
    have e := y ws q
    have hi : i < ds.length := by
      rw [rs.length]
      exact (List.getElem?_eq_some_iff.mp e).1
    obtain ⟨w, e1, rw'⟩ := rs.get (List.getElem?_eq_getElem hi)
    rw [e] at e1
    cases e1
    have xt : Ext mu H mu (upd H t (.frz o (.tup [.int (i : Nat), u]))) := Ext.new ht
    refine ⟨_, enumD_get ds 0 i _ (List.getElem?_eq_getElem hi), xt, r.new ht, ?_⟩
    simp only [Rep, Reps]
    exact ⟨t, _, rfl, .inl ⟨o, upd_same, hod⟩, _, _, rfl, by rw [Nat.zero_add], _, _, rfl, Rep.mono xt _ _ rw', rfl⟩
theorem jok_zip {K : Fr} {mu0 : List Addr} {H0 : Hp} {b c : Bool} {a1 a2 : Addr} {ds es : List D} {chk : List (Nat × List D)} (now : ∀ mu H h, Ext mu0 H0 mu H → RelH K mu H h → chkOk chk h → (∃ ws, SqX b K H a1 ws ∧ Reps K mu H ds ws) ∧ ∃ us, SqX c K H a2 us ∧ Reps K mu H es us) : JOk K mu0 H0 (zipD ds es, chk) (ItZ b c K a1 a2) := by
  refine ⟨fun H => ∃ ws us, SqX b K H a1 ws ∧ SqX c K H a2 us ∧ ws.length = ds.length ∧ us.length = es.length, fun i H v H' => (ItZ b c K a1 a2).yld i H v H', ⟨fun i H hi q => ?_, fun H q => ?_, fun i H v H' _ _ y => y⟩, fun mu H h x r k => ?_, fun mu H h i v H' x r k y => ?_⟩
  · obtain ⟨ws, us, q, q2, e, e2⟩ := q
    rw [zipD_len] at hi
    exact ⟨ws, us, ws[i]'(by omega), us[i]'(by omega), q, q2, List.getElem?_eq_getElem _, List.getElem?_eq_getElem _⟩
  · obtain ⟨ws, us, q, q2, e, e2⟩ := q
    exact ⟨ws, us, q, q2, by rw [zipD_len]; omega, by rw [zipD_len]; omega, by rw [zipD_len]; omega⟩
  · obtain ⟨⟨ws, q, rs⟩, us, q2, rs2⟩ := now mu H h x r k
    exact ⟨ws, us, q, q2, rs.length.symm, rs2.length.symm⟩
  · obtain ⟨⟨ws, q, rs⟩, us, q2, rs2⟩ := now mu H h x r k
    obtain ⟨t, u, u2, o, rfl, ht, hod, rfl, y, y2⟩ := y
    have e := y ws q
    have e2 := y2 us q2
    have hi : i < ds.length := by
      rw [rs.length]
      exact (List.getElem?_eq_some_iff.mp e).1
    have hi2 : i < es.length := by
      rw [rs2.length]
      exact (List.getElem?_eq_some_iff.mp e2).1
    obtain ⟨w, e3, rw'⟩ := rs.get (List.getElem?_eq_getElem hi)
    rw [e] at e3
    cases e3
    obtain ⟨w2, e4, rw2⟩ := rs2.get (List.getElem?_eq_getElem hi2)
    rw [e2] at e4
    cases e4
    have xt : Ext mu H mu (upd H t (.frz o (.tup [u, u2]))) := Ext.new ht
    refine ⟨_, zipD_get ds es i _ _ (List.getElem?_eq_getElem hi) (List.getElem?_eq_getElem hi2), xt, r.new ht, ?_⟩
    simp only [Rep, Reps]
    exact ⟨t, _, rfl, .inl ⟨o, upd_same, hod⟩, _, _, rfl, Rep.mono xt _ _ rw', _, _, rfl, Rep.mono xt _ _ rw2, rfl⟩
theorem s_itEnum {X : Cx} {W : EX} {ma : Env → Hh → Out D} {a : Expr} {elts : List Expr} {kk : Nat} {tpos p pos : Pos} (G : Good X) (hg : Gl X "enumerate") (hm : X.mg "enumerate" = none) (ha : PE X a (tE X.K W ma)) (hs : starEach [a] X.env = [(false, eval a X.env)]) :
    PI X (.Tuple elts kk tpos) (.Call (.Name "enumerate" p) [a] [] pos) (tI X.K W fun env h => (one1 ma env h).bind (itB .enumerate)) :=
  weakI (orI (pi_E true hg hm (s_cons ha s_nil hs) hs) (pi_E false hg hm (s_cons ha s_nil hs) hs)) fun sg H R q => by
    obtain ⟨env, h, mu, re, rh, q⟩ := q
    cases e : ma env h with
    | stuck => simp only [one1, e, Out.bind_stuck] at q; exact False.elim q
    | exn c h' =>
      simp only [one1, e, Out.bind_exn] at q
      refine .inl ⟨env, h, mu, re, rh, ?_⟩
      simp only [one1, e, Out.bind_exn]
      exact q
    | ok d h' =>
      simp only [one1, e, Out.bind_ok] at q
      have fin : ∀ b, b = (isTupD d) → iE b X.K (tA X.K W (one1 ma)) sg H R := fun b eb => by
        refine ⟨env, h, mu, re, rh, ?_⟩
        simp only [one1, e, Out.bind_ok]
        intro mu1 H1 x1 r1 vs rs
        have q1 := pO.ext (o := itEnum [d] h') q x1
        simp only [itEnum] at q1
        obtain ⟨v, rfl, rv⟩ := reps1 rs
        cases e2 : itSeqZ d h' with
        | ok x h2 =>
          rw [e2] at q1
          obtain ⟨rfl, p, ws, rfl, s1, now⟩ := src_of r1 rv e2
          subst eb
          exact ⟨p, ws, rfl, s1, (q1.ok r1) _ (jok_enum now)⟩
        | exn c h2 => unfold itSeqZ at e2; split at e2 <;> first | (cases e2; done) | (split at e2 <;> cases e2)
        | stuck => rw [e2] at q1; exact False.elim q1
      cases d with
      | tup ds => exact .inl (fin true rfl)
      | _ => exact .inr (fin false rfl)
theorem s_itZip {X : Cx} {W : EX} {ma mb : Env → Hh → Out D} {a b : Expr} {elts : List Expr} {kk : Nat} {tpos p pos : Pos} (G : Good X) (hg : Gl X "zip") (hm : X.mg "zip" = none) (ha : PE X a (tE X.K W ma)) (hb : PE X b (tE X.K W mb)) (ns : starEach [b] X.env = [(false, eval b X.env)])
    (hs : starEach [a, b] X.env = [(false, eval a X.env), (false, eval b X.env)]) (hpl : (backTo pos (starEach [b] X.env)).any (·.1) = false) :
    PI X (.Tuple elts kk tpos) (.Call (.Name "zip" p) [a, b] [] pos) (tI X.K W fun env h => (two2 ma mb env h).bind (itB .zip)) := by
  have hA : PA X [a, b] (tA X.K W (two2 ma mb)) := s_cons ha (s_cons hb s_nil ns) (by rw [hs, ns])
  have hs' : starEach [a, b] X.env = (false, eval a X.env) :: starEach [b] X.env := by rw [hs, ns]
  refine weakI (orI (orI (pi_Z true true hg hm hA hs' hpl) (pi_Z true false hg hm hA hs' hpl)) (orI (pi_Z false true hg hm hA hs' hpl) (pi_Z false false hg hm hA hs' hpl))) fun sg H R q => ?_
  obtain ⟨env, h, mu, re, rh, q⟩ := q
  cases e : ma env h with
  | stuck => simp only [two2, e, Out.bind_stuck] at q; exact False.elim q
  | exn c h' =>
    simp only [two2, e, Out.bind_exn] at q
    refine .inl (.inl ⟨env, h, mu, re, rh, ?_⟩)
    simp only [two2, e, Out.bind_exn]
    exact q
  | ok d h' =>
    cases e2 : mb env h' with
    | stuck => simp only [two2, one1, e, e2, Out.bind_ok, Out.bind_stuck] at q; exact False.elim q
    | exn c h2 =>
      simp only [two2, one1, e, e2, Out.bind_ok, Out.bind_exn] at q
      refine .inl (.inl ⟨env, h, mu, re, rh, ?_⟩)
      simp only [two2, one1, e, e2, Out.bind_ok, Out.bind_exn]
      exact q
    | ok d2 h2 =>
      simp only [two2, one1, e, e2, Out.bind_ok] at q
      have fin : ∀ b c, b = (isTupD d) → c = (isTupD d2) → iZ b c X.K (tA X.K W (two2 ma mb)) sg H R := fun b c eb ec => by
        refine ⟨env, h, mu, re, rh, ?_⟩
        simp only [two2, one1, e, e2, Out.bind_ok]
        intro mu1 H1 x1 r1 vs rs
        have q1 := pO.ext (o := itZip [d, d2] h2) q x1
        simp only [itZip] at q1
        obtain ⟨v, w, rfl, rv, rw'⟩ := reps2 rs
        have noex : ∀ (d : D) (h : Hh) (c : Str) (h' : Hh), itSeqZ d h ≠ .exn c h' := fun d h c h' z => by
          unfold itSeqZ at z
          split at z <;> first | (cases z; done) | (split at z <;> cases z)
        cases e3 : itSeqZ d h2 with
        | ok x h3 =>
          rw [e3] at q1
          obtain ⟨rfl, p, ws, rfl, s1, now⟩ := src_of r1 rv e3
          simp only [Out.bind_ok] at q1
          cases e4 : itSeqZ d2 h3 with
          | ok y h4 =>
            rw [e4] at q1
            obtain ⟨rfl, p2, us, rfl, s2, now2⟩ := src_of r1 rw' e4
            subst eb ec
            refine ⟨p, p2, ws, us, rfl, s1, s2, (q1.ok r1) _ (jok_zip fun mu H h x r k => ⟨now mu H h x r fun z hz => k z (List.mem_append_left _ hz), now2 mu H h x r fun z hz => k z (List.mem_append_right _ hz)⟩)⟩
          | exn c h4 => exact absurd e4 (noex _ _ _ _)
          | stuck => rw [e4] at q1; exact False.elim q1
        | exn c h3 => exact absurd e3 (noex _ _ _ _)
        | stuck => rw [e3] at q1; exact False.elim q1
      cases d with
      | tup ds => cases d2 with
        | tup es => exact .inl (.inl (fin true true rfl rfl))
        | _ => exact .inl (.inr (fin true false rfl rfl))
      | _ => cases d2 with
        | tup es => exact .inr (.inl (fin false true rfl rfl))
        | _ => exact .inr (.inr (fin false false rfl rfl))
end Ip

/-! Ip, part U: list(enumerate(a list)). -/
namespace Ip
open PySem PySem.Spec PyProof.Rows L2
theorem en_no_len : typeLookup (.type "enumerate") "__len__" = pure none := by rw [typeLookup_type, builtinLookup_eq_fast]; kernel_rfl
theorem en_no_hint : typeLookup (.type "enumerate") "__length_hint__" = pure none := by rw [typeLookup_type, builtinLookup_eq_fast]; kernel_rfl

/-- an enumerate half way, while at S a list is made -/
def En (h : Heap) (e it l S : Addr) (items : Array Value) (i : Nat) : Prop :=
  h.IsListIter it l i ∧ h.IsList l items ∧ ((∃ old, IsEnum h e it i old) ∨ ∃ old T f oT, IsEnumHeld h e it i old T f ∧ h.get? T = some oT ∧ T ≠ e ∧ T ≠ it ∧ T ≠ S)
theorem En.keep {h h' : Heap} {e it l S : Addr} {items : Array Value} {i : Nat} (x : En h e it l S items i) (eS : e ≠ S) (iS : it ≠ S) (lS : l ≠ S) (k : ∀ b o, b ≠ S → h.get? b = some o → h'.get? b = some o) : En h' e it l S items i := by
  obtain ⟨h1, h2, h3⟩ := x
  refine ⟨h1.at fun o q => k _ o iS q, h2.at fun o q => k _ o lS q, ?_⟩
  rcases h3 with ⟨old, he⟩ | ⟨old, T, f, oT, he, hT, r1, r2, r3⟩
  · exact .inl ⟨old, k _ _ eS he⟩
  · exact .inr ⟨old, T, f, oT, k _ _ eS he, k _ _ r3 hT, r1, r2, r3⟩
/-- the pairs made so far -/
def Prs (h : Heap) (N0 : Nat) (items acc : Array Value) : Prop := acc.size ≤ items.size ∧ ∀ j, j < acc.size → ∃ t tk x, acc[j]? = some (.ref t) ∧ N0 ≤ t ∧ items[j]? = some x ∧ h.get? t = some { cls := .type "tuple", data := .seq #[.int (j : Nat) tk, x] }
def Apt (acc : Array Value) : Prop := ∀ (i j : Nat) (t : Addr), acc[i]? = some (.ref t) → acc[j]? = some (.ref t) → i = j
section
variable {prog : Program} {w : World} {A : Around} {R : Result → Shared → Prop}
theorem enum_loop (hh : A.in1.handled = none) {e it l S : Addr} {items : Array Value} (hn : items.size ≤ sizeLine) (res : Value) (eS : e ≠ S) (iS : it ≠ S) (lS : l ≠ S) (hei : e ≠ it) (hle : l ≠ e) (hli : l ≠ it) (N0 : Nat) :
    ∀ (k i : Nat) (s : Shared) (acc : Array Value) (c : Nat), items.size - i = k → i = acc.size → En s.heap e it l S items i → s.heap.get? S = some { cls := .type "list", dict := none, data := .seq acc c, slots := #[] } →
    Prs s.heap N0 items acc → Apt acc → N0 ≤ s.heap.objs.size →
    (∀ h' tk acc' c', (∀ b o, b ≠ S → b ≠ e → b ≠ it → s.heap.get? b = some o → h'.get? b = some o) → h'.get? S = some { cls := .type "list", dict := none, data := .seq acc' c', slots := #[] } → acc'.size = items.size → Prs h' N0 items acc' → Apt acc' → R (.ok (.ret res)) { s with heap := h', toks := tk }) →
    codeAny (model prog w) A (.builtin "list.extend.loop" ⟨[.ref S, .ref e, res], []⟩) R s := by
  intro k
  induction k with
  | zero =>
    intro i s acc c hk hi hst hS hP hA hN hR
    have hin : i = items.size := by have := hP.1; omega
    obtain ⟨hit, hl, he⟩ := hst
    refine codeAny_builtin F.entry_extend_loop ?_
    rw [Around.under_plainId F.plain_extend_loop _]
    show wpAny _ A.in1 (pyNext (.ref e) >>= _) _ _ s
    have hx : items[i]? = none := Array.getElem?_eq_none (by omega)
    have fin : ∀ h' : Heap, (∀ b o, b ≠ it → s.heap.get? b = some o → h'.get? b = some o) → R (.ok (.ret res)) { s with heap := h' } := fun h' hk' => by
      refine hR h' s.toks acc c (fun b o _ _ b3 q => hk' b o b3 q) (hk' S _ (Ne.symm iS) hS) (by omega) ⟨hP.1, fun j hj => ?_⟩ hA
      obtain ⟨t, tk, x, a1, a2, a3, a4⟩ := hP.2 j hj
      refine ⟨t, tk, x, a1, a2, a3, hk' _ _ (fun z => ?_) a4⟩
      obtain ⟨o', q1, q2, q3⟩ := hit
      rw [← z, a4] at q1
      cases q1
      cases q3
    rcases he with ⟨old, he⟩ | ⟨old, T, f, oT, he, hT, r1, r2, r3⟩
    · exact wpAny_bind (wpAny_pyNext_enum_end hh he hit hl hx fun h' hk' => wpAny_pure (fin h' hk'))
    · exact wpAny_bind (wpAny_pyNext_enum_end_held hh he hit hl hx fun h' hk' => wpAny_pure (fin h' hk'))
  | succ k ih =>
    intro i s acc c hk hi hst hS hP hA hN hR
    have hlt : i < items.size := by omega
    obtain ⟨hit, hl, he⟩ := hst
    have ex := Array.getElem?_eq_getElem hlt
    have ec : ((i + 1 : Nat) : Int) = (i : Int) + 1 := by omega
    have nit : s.heap.objs.size ≠ it := let ⟨_, x, _⟩ := hit; Nat.ne_of_gt (Heap.lt_size x)
    have nS : s.heap.objs.size ≠ S := Nat.ne_of_gt (Heap.lt_size hS)
    refine codeAny_builtin F.entry_extend_loop ?_
    rw [Around.under_plainId F.plain_extend_loop _]
    show wpAny _ A.in1 (pyNext (.ref e) >>= _) _ _ s
    have turn : ∀ (h' : Heap) (ne : s.heap.objs.size ≠ e), En h' e it l S items (i + 1) → h'.get? s.heap.objs.size = some { cls := .type "tuple", data := .seq #[.int (i : Nat) s.toks, items[i]] } → h'.objs.size = s.heap.objs.size + 1 →
        (∀ b o, b ≠ e → b ≠ it → s.heap.get? b = some o → h'.get? b = some o) →
        wpAny (model prog w) A.in1 (updateSeq S (·.push (.ref s.heap.objs.size)) >>= fun _ => again (.builtin "list.extend.loop" ⟨[.ref S, .ref e, res], []⟩))
          (fun fin s' => match fin with | .done f => R (.ok f) s' | .again c' => c'.quiet = true ∧ codeAny (model prog w) A c' R s') (fun e s' => R (.error e) s') { s with heap := h', toks := s.toks + 1 } := fun h' ne hst' hT hsz hk' => by
      have hS' := hk' S _ (Ne.symm eS) (Ne.symm iS) hS
      refine wpAny_bind ?_
      refine wpAny_updateSeq hS' rfl (wpAny_pure ⟨plainId_quiet F.plain_extend_loop _, ih (i + 1) _ (acc.push (.ref s.heap.objs.size)) _ (by omega) (by rw [Array.size_push]; omega)
          (hst'.keep eS iS lS fun b o hb q => (Heap.get?_update_other _ _ (Ne.symm hb)).trans q) (Heap.get?_update_self _ hS' rfl) ⟨by rw [Array.size_push]; omega, fun j hj => ?_⟩ (fun a b t ha hb => ?_) ?_ fun h2 tk2 acc2 c2 k2 q2 z2 p2 a2 => ?_⟩)
        (by omega) (by show (acc.push _).size ≤ sizeLine + 1; rw [Array.size_push]; omega)
      · rw [Array.size_push] at hj
        by_cases hj2 : j < acc.size
        · obtain ⟨t, tk, x, a1, a2, a3, a4⟩ := hP.2 j hj2
          have te : t ≠ e := fun z => by
            rw [z] at a4
            rcases he with ⟨old, he⟩ | ⟨old, T, f, oT, he, _⟩
            · rw [he] at a4; simp at a4
            · rw [he] at a4; simp at a4
          have ti : t ≠ it := fun z => by
            obtain ⟨o', q1, q2, q3⟩ := hit
            rw [← z, a4] at q1
            cases q1
            cases q3
          have tS : t ≠ S := fun z => by rw [z, hS] at a4; simp at a4
          refine ⟨t, tk, x, ?_, a2, a3, (Heap.get?_update_other _ _ (Ne.symm tS)).trans (hk' _ _ te ti a4)⟩
          rw [Array.getElem?_push_lt hj2, ← a1]
          exact (Array.getElem?_eq_getElem hj2).symm
        · have ej : j = acc.size := by omega
          subst ej
          refine ⟨s.heap.objs.size, s.toks, items[i], Array.getElem?_push_size, hN, ?_, ?_⟩
          · rw [← hi]; exact ex
          · rw [← hi]; exact (Heap.get?_update_other _ _ (Ne.symm nS)).trans hT
      · have old : ∀ j, (acc.push (.ref s.heap.objs.size))[j]? = some (.ref t) → (j < acc.size ∧ acc[j]? = some (.ref t) ∧ t < s.heap.objs.size) ∨ (j = acc.size ∧ t = s.heap.objs.size) := fun j q => by
          by_cases hj : j < acc.size
          · have q' : acc[j]? = some (.ref t) := by rw [Array.getElem?_push_lt hj] at q; rw [Array.getElem?_eq_getElem hj]; exact q
            obtain ⟨t', tk, x, a1, a2, a3, a4⟩ := hP.2 j hj
            rw [a1] at q'
            cases q'
            exact .inl ⟨hj, a1, Heap.lt_size a4⟩
          · have hj2 : j < (acc.push (Value.ref s.heap.objs.size)).size := (Array.getElem?_eq_some_iff.mp q).1
            rw [Array.size_push] at hj2
            have ej : j = acc.size := by omega
            subst ej
            rw [Array.getElem?_push_size] at q
            cases q
            exact .inr ⟨rfl, rfl⟩
        rcases old a ha with ⟨x1, x2, x3⟩ | ⟨x1, x2⟩ <;> rcases old b hb with ⟨y1, y2, y3⟩ | ⟨y1, y2⟩
        · exact hA a b t x2 y2
        · rw [y2] at x3; exact absurd x3 (Nat.lt_irrefl _)
        · rw [x2] at y3; exact absurd y3 (Nat.lt_irrefl _)
        · omega
      · show N0 ≤ (h'.update S _).objs.size
        rw [Heap.size_update, hsz]; omega
      · refine hR h2 tk2 acc2 c2 (fun b o b1 b2 b3 q => k2 b o b1 b2 b3 ((Heap.get?_update_other _ _ (Ne.symm b1)).trans (hk' b o b2 b3 q))) q2 z2 p2 a2
    rcases he with ⟨old, he⟩ | ⟨old, T, f, oT, he, hT, r1, r2, r3⟩
    · refine wpAny_bind (wpAny_pyNext_enum_item he hit hl ex hei fun h' ho hit' hT hsz hk => ?_)
      exact turn h' (Nat.ne_of_gt (Heap.lt_size he)) ⟨hit', hl.at fun o x => hk l o hle hli x, .inr ⟨_, s.heap.objs.size, false, _, (by rw [ec]; exact ho), hT, Nat.ne_of_gt (Heap.lt_size he), nit, nS⟩⟩ hT hsz hk
    · refine wpAny_bind (wpAny_pyNext_enum_item_held he hT r1 r2 hit hl ex hei fun h' ho hit' hT' hsz hk => ?_)
      exact turn h' (Nat.ne_of_gt (Heap.lt_size he)) ⟨hit', hl.at fun o x => hk l o hle hli x, .inr ⟨old, T, true, oT, (by rw [ec]; exact ho), hk _ _ r1 r2 hT, r1, r2, r3⟩⟩ hT' hsz hk
end
section
variable {prog : Program} {w : World} {A : Around} {E : Value → Shared → Prop} {s : Shared}
theorem enum_extend {R : Result → Shared → Prop} (hh : A.in1.handled = none) {e it l S : Addr} {items : Array Value} (hn : items.size ≤ sizeLine) (res : Value) (eS : e ≠ S) (iS : it ≠ S) (lS : l ≠ S) (hei : e ≠ it) (hle : l ≠ e) (hli : l ≠ it)
    {old : Value} (he : IsEnum s.heap e it 0 old) (hit : s.heap.IsListIter it l 0) (hl : s.heap.IsList l items) (c₀ : Nat) (hS : s.heap.get? S = some { cls := .type "list", data := .seq #[] c₀ })
    (hR : ∀ h' tk acc' c', (∀ b o, b ≠ S → b ≠ e → b ≠ it → s.heap.get? b = some o → h'.get? b = some o) → h'.get? S = some { cls := .type "list", dict := none, data := .seq acc' c', slots := #[] } → acc'.size = items.size → Prs h' s.heap.objs.size items acc' → Apt acc' → R (.ok (.ret res)) { s with heap := h', toks := tk }) :
    wpAny (model prog w) A.in1 (Builtin.List.listExtendWith (.ref S) (.ref e) res)
      (fun fin s' => match fin with | .done f => R (.ok f) s' | .again c' => c'.quiet = true ∧ codeAny (model prog w) A c' R s') (fun e s' => R (.error e) s') s := by
  have hT : s.TypeIs (.ref e) "enumerate" := ⟨_, he, rfl⟩
  unfold Builtin.List.listExtendWith
  refine wpAny_bind (wpAny_typeOf hT ?_)
  have h1 : Builtin.List.listSameRef (.ref S) (.ref e) = false := by simp [Builtin.List.listSameRef, Ne.symm eS]
  have h2 : (Value.type "enumerate" == Value.type "list") = false := by decide
  have h3 : (Value.type "enumerate" == Value.type "tuple") = false := by decide
  simp only [h1, h2, h3, Bool.or_false, Bool.false_eq_true, if_false]
  refine wpAny_bind (wpAny_pyIter_enum he ?_)
  refine wpAny_bind (wpAny_holding ?_)
  unfold Builtin.List.listLengthHint
  refine wpAny_bind (wpAny_specialOf hT en_no_len ?_)
  show wpAny _ A.in1 (specialOf (Value.ref e) (Str.ofString "__length_hint__") >>= _) _ _ _
  refine wpAny_bind (wpAny_specialOf hT en_no_hint ?_)
  refine wpAny_pure ?_
  show wpAny _ A.in1 (rule "list.extend.makes-room" >>= fun _ => Builtin.List.listTouch (.ref S) >>= fun _ =>
    again (.builtin "list.extend.loop" ⟨[.ref S, .ref e, res], []⟩)) _ _ _
  refine wpAny_bind (wpAny_rule ?_)
  refine wpAny_bind ?_
  show wpAny _ A.in1 (updateSeq S (·.push .none) >>= fun _ => updateSeq S (·.pop)) _ _ _
  refine wpAny_bind (wpAny_updateSeq hS rfl ?_)
  have hS₂ := Heap.get?_update_self (Obj.mapSeq (·.push Value.none)) hS rfl
  refine wpAny_updateSeq (hz := by seq_fits) hS₂ rfl ?_
  have hS₃ := Heap.get?_update_self (Obj.mapSeq (·.pop)) hS₂ rfl
  have oth : ∀ b o, b ≠ S → s.heap.get? b = some o → ((s.heap.update S (Obj.mapSeq (·.push Value.none))).update S (Obj.mapSeq (·.pop))).get? b = some o :=
    fun b o hb e => (Heap.get?_update_other _ _ (Ne.symm hb)).trans ((Heap.get?_update_other _ _ (Ne.symm hb)).trans e)
  refine wpAny_pure ⟨plainId_quiet F.plain_extend_loop _, enum_loop hh hn res eS iS lS hei hle hli s.heap.objs.size items.size 0 _ #[] _ rfl rfl ?_ hS₃ ⟨Nat.zero_le _, fun j hj => absurd hj (Nat.not_lt_zero _)⟩ (fun i j t q => by simp at q) ?_ fun h' tk acc' c' k q z p a => ?_⟩
  · exact ⟨hit.at fun o q => oth _ o iS q, hl.at fun o q => oth _ o lS q, .inl ⟨old, oth _ _ eS he⟩⟩
  · show s.heap.objs.size ≤ ((s.heap.update S _).update S _).objs.size
    rw [Heap.size_update, Heap.size_update]; exact Nat.le_refl _
  · exact hR h' tk acc' c' (fun b o b1 b2 b3 x => k b o b1 b2 b3 (oth b o b1 x)) q z p a
theorem call_list_enum {Q : Value → Shared → Prop} (hh : A.in1.in1.handled = none) {e it l : Addr} {items : Array Value} (hn : items.size ≤ sizeLine) (hei : e ≠ it) (hle : l ≠ e) (hli : l ≠ it)
    {old : Value} (he : IsEnum s.heap e it 0 old) (hit : s.heap.IsListIter it l 0) (hl : s.heap.IsList l items)
    (hQ : ∀ h' tk acc' c', (∀ b o, b ≠ e → b ≠ it → s.heap.get? b = some o → h'.get? b = some o) → h'.get? s.heap.objs.size = some { cls := .type "list", dict := none, data := .seq acc' c', slots := #[] } → acc'.size = items.size → Prs h' (s.heap.objs.size + 1) items acc' → Apt acc' → Q (.ref s.heap.objs.size) { s with heap := h', toks := tk }) :
    wpAny (model prog w) A (call (.type "list") [.ref e]) Q E s := by
  refine callType_codes (Q₁ := fun obj s₁ => obj = .ref s.heap.objs.size ∧ s₁ = { s with heap := s.heap.push { cls := .type "list", data := .seq #[] } }) F.called_list (F.typeCall_list_1 _) F.entry_list_init
    (code_list_new _ ⟨rfl, rfl⟩) fun obj s₁ h₁ => ?_
  obtain ⟨rfl, rfl⟩ := h₁
  have hS : (s.heap.push { cls := .type "list", data := .seq #[] }).get? s.heap.objs.size = some { cls := .type "list", data := .seq #[] } := Heap.get?_push_size _ rfl
  have le : e < s.heap.objs.size := Heap.lt_size he
  have li : it < s.heap.objs.size := let ⟨_, x, _⟩ := hit; Heap.lt_size x
  have ll : l < s.heap.objs.size := let ⟨_, x, _⟩ := hl; Heap.lt_size x
  refine ⟨⟨_, hS, rfl⟩, F.args_list_init_2 _ _, ?_⟩
  show wpAny _ _ (do let old ← Builtin.List.listItems (.ref s.heap.objs.size); Builtin.List.listUpdate (.ref s.heap.objs.size) (fun _ => #[]); letGo old.toList.reverse; Builtin.List.listExtendWith (.ref s.heap.objs.size) (.ref e) .none) _ _ _
  refine wpAny_bind ?_
  unfold Builtin.List.listItems
  refine wpAny_bind (wpAny_seqItems hS rfl (wpAny_pure ?_))
  show wpAny _ _ (updateSeq s.heap.objs.size (fun _ => #[]) >>= fun _ => letGo (#[] : Array Value).toList.reverse >>= fun _ => Builtin.List.listExtendWith (.ref s.heap.objs.size) (.ref e) .none) _ _ _
  refine wpAny_bind (wpAny_updateSeq hS rfl ?_)
  have hS₂ := Heap.get?_update_self (Obj.mapSeq (fun _ => (#[] : Array Value))) hS rfl
  have oth : ∀ b o, b ≠ s.heap.objs.size → s.heap.get? b = some o → ((s.heap.push { cls := .type "list", data := .seq #[] }).update s.heap.objs.size (Obj.mapSeq (fun _ => (#[] : Array Value)))).get? b = some o :=
    fun b o hb e => (Heap.get?_update_other _ _ (Ne.symm hb)).trans (Heap.get?_push_of_some _ e)
  refine wpAny_bind (wpAny_letGo ?_)
  have hz : ((s.heap.push { cls := .type "list", data := .seq #[] }).update s.heap.objs.size (Obj.mapSeq (fun _ => (#[] : Array Value)))).objs.size = s.heap.objs.size + 1 := by rw [Heap.size_update, Heap.size_push]
  refine enum_extend (A := A.in1) hh hn .none (Nat.ne_of_lt le) (Nat.ne_of_lt li) (Nat.ne_of_lt ll) hei hle hli (oth _ _ (Nat.ne_of_lt le) he) (hit.at fun o q => oth _ o (Nat.ne_of_lt li) q) (hl.at fun o q => oth _ o (Nat.ne_of_lt ll) q) _ hS₂ fun h' tk acc' c' k q z p a => ?_
  exact ⟨rfl, hQ h' tk acc' c' (fun b o b2 b3 x => k b o (Nat.ne_of_lt (Heap.lt_size x)) b2 b3 (oth b o (Nat.ne_of_lt (Heap.lt_size x)) x)) q z (by rw [show _ = _ from hz] at p; exact p) a⟩
end
end Ip

/-! Ip, part V: list(enumerate(a list)), at the hand layer. -/
namespace Ip
open PySem PySem.Spec PyProof.Rows L2
section
variable {X : Cx} {pins : List (Addr × Obj)} {σ : L2.St} {H H' : Hp} {s : Shared} {h' : Heap}
/-- records of ours have turned, and new objects are laid -/
theorem turnedMany {t' : Nat} {ch : List Addr} (I : L2.Inv X pins σ H s) (k : ∀ b o, b ∉ ch → s.heap.get? b = some o → h'.get? b = some o) (hf : ∀ b ∈ ch, FpOk X pins H b)
    (old : ∀ b, b < s.heap.objs.size → H' b = H b) (new : ∀ b u, s.heap.objs.size ≤ b → H' b = some u → ObjOk X.prog X.w H' h' b u) : L2.Inv X pins σ H' { s with heap := h', toks := t' } := by
  have nit : ∀ b u, H b = some u → b ∉ ch := fun b u e z => by
    have q := (hf b z).1
    rw [q] at e; cases e
  have sub : ∀ b u, H b = some u → H' b = some u := fun b u e => by rw [old b (I.hok.lt e)]; exact e
  refine I.step (g' := s.gens) (d' := s.drawn) (ch := ch) (fun b hb => ⟨(hf b hb).2.2.2.1, (hf b hb).2.1, (hf b hb).2.2.2.2.1, (hf b hb).2.2.2.2.2⟩) (fun b o _ _ hc e _ => k b o hc e) (fun b o _ _ hc e _ => ⟨o.slots, k b o hc e⟩)
    (fun b o _ e n => ?_) (fun b o hc e => ⟨o, k b o hc e⟩) (fun b xs e => sub _ _ e) (fun b o u e => sub _ _ e) (fun b ps e => ⟨#[], ?_⟩) (fun m hm => ?_) (fun b u e => ?_) I.bare
  · rw [old b (Heap.lt_size e)]; exact n
  · rw [sub _ _ e]; simp
  · obtain ⟨o, es, ep, ho, r⟩ := hm
    exact ⟨o, es, ep, k _ o (fun z => (hf _ z).2.1 rfl) ho, r⟩
  · by_cases hb : b < s.heap.objs.size
    · rw [old b hb] at e
      refine (I.hok b u e).stay (fun c v hc q => k c v ?_ q) (fun c q => sub _ _ q) fun c xs q => sub _ _ q
      rcases hc with z | z
      · rw [z]; exact nit b u e
      · exact nit c _ z
    · exact new b u (Nat.le_of_not_lt hb) e
end

/-- pairs laid, one behind the other -/
def layT (ob : Addr → Obj) (H : Hp) : List Addr → List V → Nat → Hp
  | t :: ts, x :: xs, k => layT ob (upd H t (.frz (ob t) (.tup [.int (k : Nat), x]))) ts xs (k + 1)
  | _, _, _ => H
theorem layT_or {ob : Addr → Obj} : ∀ (ts : List Addr) (xs : List V) (k : Nat) (H : Hp) (b : Addr) (u : HO), layT ob H ts xs k b = some u → H b = some u ∨ ∃ j x, ts[j]? = some b ∧ xs[j]? = some x ∧ u = .frz (ob b) (.tup [.int ((k + j : Nat) : Int), x])
  | [], _, _, _, _, _, e => .inl e
  | _ :: _, [], _, _, _, _, e => .inl e
  | t :: ts, x :: xs, k, H, b, u, e => by
    rcases layT_or ts xs (k + 1) _ b u e with q | ⟨j, y, q1, q2, q3⟩
    · by_cases hb : b = t
      · subst hb
        rw [upd_same] at q
        cases q
        exact .inr ⟨0, x, rfl, rfl, rfl⟩
      · rw [upd_ne hb] at q
        exact .inl q
    · refine .inr ⟨j + 1, y, by simpa using q1, by simpa using q2, ?_⟩
      rw [q3, show k + 1 + j = k + (j + 1) by omega]
theorem layT_ne {ob : Addr → Obj} : ∀ (ts : List Addr) (xs : List V) (k : Nat) (H : Hp) (b : Addr), b ∉ ts → layT ob H ts xs k b = H b
  | [], _, _, _, _, _ => rfl
  | _ :: _, [], _, _, _, _ => rfl
  | t :: ts, x :: xs, k, H, b, n => by
    simp only [List.mem_cons, not_or] at n
    rw [layT, layT_ne ts xs (k + 1) _ b n.2, upd_ne n.1]
theorem layT_rel {K : Fr} {mu : List Addr} {h : Hh} {ob : Addr → Obj} (hob : ∀ t, (ob t).dict = none) : ∀ (ts : List Addr) (xs : List V) (ds : List D) (k : Nat) (H : Hp), (∀ t, t ∈ ts → H t = none) → ts.Nodup → ts.length = xs.length → Reps K mu H ds xs → RelH K mu H h →
    Ext mu H mu (layT ob H ts xs k) ∧ RelH K mu (layT ob H ts xs k) h ∧ Reps K mu (layT ob H ts xs k) (enumD k ds) (ts.map V.ref)
  | [], xs, ds, k, H, _, _, hl, rs, rh => by
    have : xs = [] := by cases xs <;> simp_all
    subst this
    have : ds = [] := rs.nil_iff.mpr rfl
    subst this
    exact ⟨Ext.refl, rh, by simp [enumD, Reps]⟩
  | t :: ts, [], _, _, _, _, _, hl, _, _ => by simp at hl
  | t :: ts, x :: xs, ds, k, H, hf, nd, hl, rs, rh => by
    cases ds with
    | nil => simp [Reps] at rs
    | cons d ds =>
      simp only [Reps] at rs
      obtain ⟨w, ws, e, r, rs⟩ := rs
      cases e
      have ht : H t = none := hf t (by simp)
      have xt : Ext mu H mu (upd H t (.frz (ob t) (.tup [.int (k : Nat), x]))) := Ext.new ht
      rw [List.nodup_cons] at nd
      obtain ⟨a, b, c⟩ := layT_rel hob ts xs ds (k + 1) _ (fun t' h' => by rw [upd_ne (fun z => nd.1 (by rw [← z]; exact h'))]; exact hf t' (by simp [h'])) nd.2 (by simpa using hl) (Reps.mono xt _ _ rs) (rh.new ht)
      refine ⟨xt.trans a, b, ?_⟩
      rw [enumD, List.map_cons]
      simp only [Reps]
      refine ⟨_, _, rfl, ?_, c⟩
      have hd : Rep K mu (upd H t (.frz (ob t) (.tup [.int (k : Nat), x]))) (.tup [.int (k : Nat), d]) (.ref t) := by
        simp only [Rep, Reps]
        exact ⟨t, _, rfl, .inl ⟨ob t, upd_same, hob t⟩, _, _, rfl, rfl, _, _, rfl, Rep.mono xt _ _ r, rfl⟩
      exact Rep.mono a _ _ hd

def adr : Value → Addr
  | .ref t => t
  | _ => 0
def tLE (K : Fr) (ta : TE) : TE := fun σ H Q => ta σ H fun x H1 => ∃ a xs, x = .ref a ∧ SqL K H1 a xs ∧ ∀ (ob : Addr → Obj) (ts : List Addr) (S : Addr), (∀ t, (ob t).dict = none) → ts.length = xs.length → ts.Nodup → (∀ t, t ∈ ts → H1 t = none) → S ∉ ts → H1 S = none → Q (.ref S) (upd (layT ob H1 ts xs 0) S (.lst (ts.map V.ref)))
theorem pe_LE {X : Cx} {a : Expr} {ta : TE} {p p2 pos pos2 : Pos} (hc : X.calm = true) (hg : Gl X "list") (hm : X.mg "list" = none) (hg2 : Gl X "enumerate") (hm2 : X.mg "enumerate" = none) (ha : PE X a ta)
    (na : starEach [a] X.env = (false, eval a X.env) :: starEach [] X.env) (nb : starEach [Expr.Call (.Name "enumerate" p2) [a] [] pos2] X.env = (false, eval (.Call (.Name "enumerate" p2) [a] [] pos2) X.env) :: starEach [] X.env) :
    PE X (.Call (.Name "list" p) [.Call (.Name "enumerate" p2) [a] [] pos2] [] pos) (tLE X.K ta) := by
  refine ⟨fun pins s σ H Q I h => ?_⟩
  have inner : wpAny (model X.prog X.w) X.A (eval (.Call (.Name "enumerate" p2) [a] [] pos2) X.env) (fun x s' => ∃ e it l items H1 xs, x = .ref e ∧ IsEnum s'.heap e it 0 .none ∧ s'.heap.IsListIter it l 0 ∧ s'.heap.IsList l items ∧ e ≠ it ∧ l ≠ e ∧ l ≠ it ∧ items.size ≤ sizeLine ∧
      L2.Inv X pins σ H1 s' ∧ (∀ b ∈ [e, it], FpOk X pins H1 b) ∧ Vals xs items.toList ∧ ∀ (ob : Addr → Obj) (ts : List Addr) (S : Addr), (∀ t, (ob t).dict = none) → ts.length = xs.length → ts.Nodup → (∀ t, t ∈ ts → H1 t = none) → S ∉ ts → H1 S = none → Q (.ref S) (upd (layT ob H1 ts xs 0) S (.lst (ts.map V.ref)))) X.xe s := by
    refine Call_ (ld_blt I hg2 hm2 boot_enumerate (PyProof.Rows.callWith_type1 (one_arg ha I h (fun v s2 x H2 I2 r q => ?_) na) na))
    obtain ⟨l, xs, rfl, hq, q⟩ := q
    obtain rfl : v = .ref l := r
    obtain ⟨its, rv, pl, hz⟩ := I2.list hq
    have ll : l < s2.heap.objs.size := pl.lt
    refine call_enum (begins_list l its.toArray) pl.isList fun h' he hit hk => ?_
    refine ⟨s2.heap.objs.size + 1, s2.heap.objs.size, l, its.toArray, H2, xs, rfl, he, ⟨_, hit, rfl, rfl⟩, pl.isList.at fun o z => hk _ o z, Nat.succ_ne_self _, Nat.ne_of_lt (Nat.lt_succ_of_lt ll), Nat.ne_of_lt ll, ?_, I2.kept (t' := s2.toks) hk, fun c hcm => ?_, by simpa using rv, q⟩
    · rw [List.size_toArray, ← rv.length]; exact hz
    · have lc : s2.heap.objs.size ≤ c := by
        rcases List.mem_cons.mp hcm with z | z
        · rw [z]; exact Nat.le_add_right _ _
        · rw [List.mem_singleton.mp z]; exact Nat.le_refl _
      exact I2.fpOk lc (I2.hok.fresh lc)
  refine Call_ (ld_blt I hg hm boot_list (PyProof.Rows.callWith_type1 (args_cons (thn inner fun x s1 ⟨e, it, l, items, H1, xs, ex, he, hit, hl, hei, hle, hli, hz, I1, hf, rv, q⟩ => args_nil ?_) nb) nb))
  subst ex
  have hh : X.A.in1.in1.handled = none := I1.ok.hd hc
  refine call_list_enum hh hz hei hle hli he hit hl fun h' tk acc c' k hS hsz hP hA => ?_
  have hlen : xs.length = items.size := by rw [rv.length, Array.length_toList]
  -- the addresses
  have hget : ∀ j, j < acc.size → ∃ t tk' x, acc[j]? = some (.ref t) ∧ s1.heap.objs.size + 1 ≤ t ∧ items[j]? = some x ∧ h'.get? t = some { cls := .type "tuple", data := .seq #[.int (j : Nat) tk', x] } := hP.2
  have hts : ∀ j t, (acc.toList.map adr)[j]? = some t → ∃ tk' x, acc[j]? = some (.ref t) ∧ s1.heap.objs.size + 1 ≤ t ∧ items[j]? = some x ∧ h'.get? t = some { cls := .type "tuple", data := .seq #[.int (j : Nat) tk', x] } := fun j t e => by
    have hj : j < acc.size := by have := (List.getElem?_eq_some_iff.mp e).1; simpa using this
    obtain ⟨t', tk', x, a1, a2, a3, a4⟩ := hget j hj
    have : (acc.toList.map adr)[j]? = some t' := by rw [List.getElem?_map, Array.getElem?_toList, a1]; rfl
    rw [e] at this
    cases this
    exact ⟨tk', x, a1, a2, a3, a4⟩
  have hmem : ∀ t, t ∈ acc.toList.map adr → s1.heap.objs.size + 1 ≤ t := fun t ht => by
    obtain ⟨j, e⟩ := List.mem_iff_getElem?.mp ht
    obtain ⟨_, _, _, a2, _⟩ := hts j t e
    exact a2
  have hlt : (acc.toList.map adr).length = xs.length := by rw [List.length_map, Array.length_toList, hlen, hsz]
  have hnd : (acc.toList.map adr).Nodup := by
    refine List.pairwise_iff_getElem.mpr fun i j hi hj hij z => ?_
    obtain ⟨_, _, b1, _⟩ := hts j _ (List.getElem?_eq_getElem hj)
    obtain ⟨_, _, b2, _⟩ := hts i _ (List.getElem?_eq_getElem hi)
    rw [z] at b2
    have := hA i j _ b2 b1
    omega
  have hSn : s1.heap.objs.size ∉ acc.toList.map adr := fun z => absurd (hmem _ z) (by have := Nat.lt_irrefl s1.heap.objs.size; omega)
  have hvals : Vals ((acc.toList.map adr).map V.ref) acc.toList := by
    have : ∀ (us : List Value), (∀ u, u ∈ us → ∃ t, u = .ref t) → Vals ((us.map adr).map V.ref) us := fun us => by
      induction us with
      | nil => intro _; exact .nil
      | cons u us ih =>
        intro hu
        obtain ⟨t, rfl⟩ := hu u (by simp)
        exact .cons rfl (ih fun v hv => hu v (by simp [hv]))
    refine this _ fun u hu => ?_
    obtain ⟨j, e⟩ := List.mem_iff_getElem?.mp hu
    rw [Array.getElem?_toList] at e
    obtain ⟨t, _, _, a1, _⟩ := hget j (Array.getElem?_eq_some_iff.mp e).1
    rw [e] at a1
    cases a1
    exact ⟨t, rfl⟩
  refine ⟨.ref s1.heap.objs.size, _, turnedMany (t' := tk) (ch := [e, it]) I1 (fun b o hb z => k b o (fun y => hb (by simp [y])) (fun y => hb (by simp [y])) z) hf (fun b hb => ?_) (fun b u hb hu => ?_), rfl, q (fun t => { (h'.get? t).getD { cls := .none, data := .fields #[] } with dict := none }) (acc.toList.map adr) s1.heap.objs.size (fun _ => rfl) hlt hnd (fun t ht => I1.hok.fresh (Nat.le_of_succ_le (hmem t ht))) hSn (I1.hok.fresh (Nat.le_refl _))⟩
  · rw [upd_ne (Nat.ne_of_lt hb), layT_ne]
    intro z
    have := hmem b z
    have := Nat.lt_irrefl b
    omega
  · by_cases ebS : b = s1.heap.objs.size
    · subst ebS
      rw [upd_same] at hu
      cases hu
      refine ⟨?_, acc.toList, c', hvals, ?_⟩
      · rw [List.length_map, List.length_map, Array.length_toList, hsz]; exact hz
      · rw [Array.toArray_toList]; exact hS
    · rw [upd_ne ebS] at hu
      rcases layT_or _ _ _ _ _ _ hu with z | ⟨j, x, q1, q2, q3⟩
      · rw [I1.hok.fresh hb] at z; cases z
      · subst q3
        obtain ⟨tk', y, a1, a2, a3, a4⟩ := hts j b q1
        obtain ⟨u, hu2, ru⟩ := rv.get q2
        rw [Array.getElem?_toList, a3] at hu2
        cases hu2
        exact ⟨by rw [a4]; rfl, by show 2 ≤ sizeLine; decide, [.int (j : Nat) tk', y], .cons ⟨_, by rw [Nat.zero_add]⟩ (.cons ru .nil), ⟨_, a4, rfl, _, rfl⟩⟩

theorem s_lenum {X : Cx} {W : EX} {ma : Env → Hh → Out D} {a : Expr} {p p2 pos pos2 : Pos} (hc : X.calm = true) (hg : Gl X "list") (hm : X.mg "list" = none) (hg2 : Gl X "enumerate") (hm2 : X.mg "enumerate" = none) (ha : PE X a (tE X.K W ma))
    (na : starEach [a] X.env = (false, eval a X.env) :: starEach [] X.env) (nb : starEach [Expr.Call (.Name "enumerate" p2) [a] [] pos2] X.env = (false, eval (.Call (.Name "enumerate" p2) [a] [] pos2) X.env) :: starEach [] X.env) :
    PE X (.Call (.Name "list" p) [.Call (.Name "enumerate" p2) [a] [] pos2] [] pos) (tE X.K W fun env h => (ma env h).bind fLenum) :=
  weakE (pe_LE hc hg hm hg2 hm2 ha na nb) fun sg H Q q => by
    obtain ⟨env, h, mu, re, rh, q⟩ := q
    refine ⟨env, h, mu, re, rh, q.bind.mono fun d mu1 H1 h1 x1 r1 q1 v rv => ?_⟩
    unfold fLenum at q1
    split at q1
    · rename_i ds e1
      obtain ⟨l, ws, rfl, s1, rs⟩ := seqL_of r1 rv e1
      refine ⟨l, ws, rfl, s1, fun ob ts S hob hl nd hf hS hS2 => ?_⟩
      obtain ⟨xa, xb, xc⟩ := layT_rel hob ts ws ds 0 H1 hf nd hl rs r1
      exact (mkL_of xb xc (q1.ext xa)).2 S (by rw [layT_ne _ _ _ _ _ hS]; exact hS2)
    · exact False.elim q1
end Ip

/-! Ip, part O: dicts: as they are written; dict(zip(..)) and update. -/
namespace Ip
open PySem PySem.Spec PyProof.Rows L2

section
variable {X : Cx}
/-- a new dict is held -/
theorem pe_frz {e : Expr} {t : TE} (h : PE X e t) : PE X e (fun σ H Q => t σ H fun v H1 => ∃ d kvs, v = .ref d ∧ H1 d = some (.dK kvs) ∧ ∀ od, Q v (upd H1 d (.frz od (.dK kvs)))) := by
  refine ⟨fun pins s σ H Q I q => thn (h.run pins s σ H _ I q) fun u s1 ⟨v, H1, I1, rv, d, kvs, ev, hd, q1⟩ => ?_⟩
  obtain ⟨od, I2⟩ := I1.lock hd trivial
  exact ⟨v, _, I2, rv, q1 od⟩
theorem pss_frz {sts : List Stmt} {t : TS} (h : PSs X sts t) : PSs X sts (fun Dn σ H => ∃ d kvs, H d = some (.dK kvs) ∧ ∀ od, t Dn σ (upd H d (.frz od (.dK kvs)))) := by
  refine ⟨fun pins s σ H Dn I q => ?_⟩
  obtain ⟨d, kvs, hd, q⟩ := q
  obtain ⟨od, I2⟩ := I.lock hd trivial
  exact h.run pins s σ _ Dn I2 (q od)
end
theorem valV_none {kvs : List (Key × V)} {k : Key} (h : k ∉ kvs.map (·.1)) : valV kvs k = none := by
  induction kvs with
  | nil => rfl
  | cons p kvs ih =>
    simp only [List.map_cons, List.mem_cons, not_or] at h
    rw [valV_neg fun e => h.1 e.symm]
    exact ih h.2
theorem mergeK_new : ∀ (more kvs : List (Key × V)), ((kvs ++ more).map (·.1)).Nodup → mergeK kvs more = kvs ++ more
  | [], kvs, _ => by simp [mergeK]
  | p :: more, kvs, h => by
    show mergeK (putK kvs p.1 p.2) more = _
    rw [List.map_append, List.map_cons, List.nodup_append] at h
    have hp : valV kvs p.1 = none := valV_none fun m => h.2.2 _ m _ (by simp) rfl
    rw [putK_new p.2 hp, mergeK_new more (kvs ++ [(p.1, p.2)])]
    · simp
    · rw [List.append_assoc, List.map_append, List.nodup_append]
      exact ⟨h.1, by simpa using h.2.1, by simpa using h.2.2⟩
/-! ### as it is written -/
def flatE : List (Ex × Ex) → List Ex
  | [] => []
  | p :: ps => p.1 :: p.2 :: flatE ps
def pairV : List V → List (V × V)
  | a :: b :: r => (a, b) :: pairV r
  | _ => []
theorem tPairs_of {K : Fr} {W : EX} {C : CallT} {sg : L2.St} {Qp : List (V × V) → Hp → Prop} : ∀ (ps : List (Ex × Ex)) {mu : List Addr} {H : Hp} {env : Env} {h : Hh} {R : List D → List Addr → Hp → Hh → Prop}, RelEnv K mu H env sg → RelH K mu H h → pO K W mu H (evs C (flatE ps) env h) R →
    (∀ ds mu' H' h', Ext mu H mu' H' → RelH K mu' H' h' → R ds mu' H' h' → ∀ vs, Reps K mu' H' ds vs → Qp (pairV vs) H') → tPairs (ps.map fun p => (tE K W (ev C p.1), tE K W (ev C p.2))) sg H Qp
  | [], mu, H, env, h, R, re, rh, q, f => by
    simp only [flatE, evs] at q
    exact f [] mu H h Ext.refl rh (q.ok rh) [] (by simp [Reps])
  | p :: ps, mu, H, env, h, R, re, rh, q, f => by
    simp only [flatE, evs] at q
    refine ⟨env, h, mu, re, rh, q.bind.mono fun d mu1 H1 h1 x1 r1 q1 x rx => ?_⟩
    rw [bind_assoc] at q1
    refine ⟨env, h1, mu1, re.mono x1, r1, q1.bind.mono fun d' mu2 H2 h2 x2 r2 q2 y ry => ?_⟩
    rw [bind_assoc] at q2
    simp only [Out.bind_ok] at q2
    refine tPairs_of ps ((re.mono x1).mono x2) r2 q2.bind fun ds mu3 H3 h3 x3 r3 q3 vs rs => ?_
    exact f (d :: d' :: ds) mu3 H3 h3 ((x1.trans x2).trans x3) r3 (q3.ok r3) (x :: y :: vs) (by
      simp only [Reps]
      exact ⟨x, _, rfl, Rep.mono x3 _ _ (Rep.mono x2 _ _ rx), y, _, rfl, Rep.mono x3 _ _ ry, rs⟩)
theorem pairs_reps {K : Fr} {mu : List Addr} {H : Hp} : ∀ {ds : List D} {vs : List V} {ks : List Int} {ws : List D}, pairsK ds = some (ks, ws) → Reps K mu H ds vs → ∃ kvs : List (Key × V), pairV vs = kvs.map (fun kv => (kV kv.1, kv.2)) ∧ kvs.map (·.1) = ks.map Sum.inl ∧ Reps K mu H ws (kvs.map (·.2))
  | [], vs, ks, ws, e, r => by
    simp only [pairsK, Option.some.injEq, Prod.mk.injEq] at e
    obtain ⟨rfl, rfl⟩ := e
    simp only [Reps] at r
    subst r
    exact ⟨[], rfl, rfl, by simp [Reps]⟩
  | [d], vs, ks, ws, e, r => by cases d <;> simp [pairsK] at e
  | d :: d' :: ds, vs, ks, ws, e, r => by
    cases d <;> simp only [pairsK, reduceCtorEq, Option.map_eq_some_iff] at e
    rename_i i
    obtain ⟨⟨ks', ws'⟩, e, e2⟩ := e
    simp only [Prod.mk.injEq] at e2
    obtain ⟨rfl, rfl⟩ := e2
    simp only [Reps, Rep] at r
    obtain ⟨w, us, rfl, rfl, w', us', rfl, rw', rs⟩ := r
    obtain ⟨kvs, a, b, c⟩ := pairs_reps e rs
    refine ⟨(.inl i, w') :: kvs, ?_, ?_, ?_⟩
    · simp only [pairV, List.map_cons, kV, a]
    · simp only [List.map_cons, b]
    · simp only [List.map_cons, Reps]; exact ⟨w', _, rfl, rw', c⟩
theorem RelH.imm {K : Fr} {mu : List Addr} {H H' : Hp} {h : Hh} (r : RelH K mu H h) (im : Imm H H') (kl : KL H H') (hk : ∀ a o, a ∈ mu → H a = some o → trk o = true → H' a = some o) : RelH K mu H' h := by
  refine ⟨r.len, r.nd, fun n o a e m => ?_⟩
  have := r.obj n o a e m
  cases o with
  | lst ds =>
    obtain ⟨ws, e1, q⟩ := this
    exact ⟨ws, hk a _ (List.mem_of_getElem? m) e1 rfl, Reps.mono0 (List.prefix_refl _) im kl _ _ q⟩
  | ins c fs =>
    obtain ⟨C, dx, vs, e1, k1, k2, q⟩ := this
    exact ⟨C, dx, vs, hk a _ (List.mem_of_getElem? m) e1 rfl, k1, k2, Reps.mono0 (List.prefix_refl _) im kl _ _ q⟩
/-- a dict is made at a new place, meanwhile the interpreter goes on -/
theorem dct_laid {K : Fr} {mu mu2 : List Addr} {H H2 : Hp} {h2 : Hh} {p : Addr} {u : HO} {kvs kvs0 : List (Key × V)} {od : Obj} (hp : H p = none) (x2 : Ext mu (upd H p u) mu2 H2) (r2 : RelH K mu2 H2 h2) (hp2 : H2 p = some (.dK kvs0)) :
    Ext mu H mu2 (upd H2 p (.frz od (.dK kvs))) ∧ RelH K mu2 (upd H2 p (.frz od (.dK kvs))) h2 ∧ Imm H2 (upd H2 p (.frz od (.dK kvs))) ∧ KL H2 (upd H2 p (.frz od (.dK kvs))) := by
  have im : Imm H2 (upd H2 p (.frz od (.dK kvs))) := fun a o e i => by
    have : a ≠ p := fun z => by subst z; rw [hp2] at e; cases e; cases i
    rw [upd_ne this]; exact e
  have kl : KL H2 (upd H2 p (.frz od (.dK kvs))) := fun a ws e => by
    have : a ≠ p := fun z => by subst z; rw [hp2] at e; cases e
    exact ⟨ws, by rw [upd_ne this]; exact e⟩
  have nm : p ∉ mu2 := fun m => by
    rcases r2.tracked m with ⟨ws, e⟩ | ⟨C, dx, fs, e⟩
    · rw [hp2] at e; cases e
    · rw [hp2] at e; cases e
  refine ⟨⟨x2.pre, fun a m n => ?_, fun a o e c => ?_, fun a ws e => ?_⟩, r2.imm im kl fun a o m e _ => ?_, im, kl⟩
  · have := x2.fresh a m n
    by_cases z : a = p
    · subst z; exact hp
    · rw [upd_ne z] at this; exact this
  · have : a ≠ p := ne_of_none e hp
    rw [upd_ne this]
    exact x2.keep a o (by rw [upd_ne this]; exact e) c
  · have : a ≠ p := ne_of_none e hp
    obtain ⟨ws', e2⟩ := x2.kind a ws (by rw [upd_ne this]; exact e)
    exact kl a ws' e2
  · have : a ≠ p := fun z => by subst z; exact nm m
    rw [upd_ne this]; exact e
theorem s_dct {X : Cx} {W : EX} {C : CallT} {keys : List (Option Expr)} {values : List Expr} {ps : List (Ex × Ex)} {pos : Pos} (h : PPs X pos keys values (ps.map fun p => (tE X.K W (ev C p.1), tE X.K W (ev C p.2)))) (hall : keys.all (·.isSome) = true) (hl : keys.length = values.length) (h0 : keys ≠ [])
    (h15 : keys.length ≤ 15) : PE X (.Dict keys values pos) (tE X.K W fun env h => (evs C (flatE ps) env h).bind mkDct) :=
  weakE (pe_frz (pe_disp h hall hl h0 h15)) fun sg H Q q => by
    obtain ⟨env, h, mu, re, rh, q⟩ := q
    intro p hp
    have x0 : Ext mu H mu (upd H p (.dK [])) := Ext.new hp
    refine tPairs_of ps (re.mono x0) (rh.new hp) (pO.ext q.bindB x0) fun ds mu2 H2 h2 x2 r2 q3 vs rs => ?_
    unfold mkDct at q3
    split at q3 <;> first | exact False.elim q3 | skip
    rename_i ks ws e1
    obtain ⟨⟨n1, n3⟩, q3⟩ := pO.need q3
    obtain ⟨kvs, ep, ek, rw'⟩ := pairs_reps e1 rs
    have hp2 : H2 p = some (.dK []) := x2.keep p _ upd_same (.inl (rh.notin hp))
    have el : kvs.length = ks.length := by have := congrArg List.length ek; simpa using this
    have kn : (kvs.map (·.1)).Nodup := by
      rw [ek]
      exact n1.map _ fun a b hne e => hne (Sum.inl.inj e)
    refine ⟨hp2, kvs, ep, by omega, ?_⟩
    rw [mergeK_new kvs [] (by simpa using kn), List.nil_append]
    refine ⟨p, kvs, rfl, upd_same, fun od => ?_⟩
    rw [upd_upd]
    obtain ⟨x4, r4, im, kl⟩ := dct_laid (kvs := kvs) (od := od) hp x2 r2 hp2
    refine q3 mu2 _ x4 r4 _ ?_
    simp only [Rep]
    exact ⟨p, rfl, od, kvs, upd_same, ek, Reps.mono0 (List.prefix_refl _) im kl _ _ rw'⟩
/-- {} -/
theorem s_dct0 {X : Cx} {W : EX} {C : CallT} {pos : Pos} : PE X (.Dict [] [] pos) (tE X.K W (ev C (.dct []))) :=
  weakE (pe_frz pe_dnewK) fun sg H Q q => by
    obtain ⟨env, h, mu, re, rh, q⟩ := q
    intro p hp
    refine ⟨p, [], rfl, upd_same, fun od => ?_⟩
    rw [upd_upd]
    have e : ev C (.dct []) env h = .ok (.dct [] []) h := by
      rw [ev, evs, Out.bind_ok]
      show need _ _ = _
      exact need_pos ⟨by simp, by simp⟩
    rw [e] at q
    refine q mu _ (Ext.new hp) (rh.new hp) _ ?_
    simp only [Rep]
    exact ⟨p, rfl, od, [], upd_same, rfl, by simp [Reps]⟩
/-! ### dict(zip(a, b)) -/
def zipK (ks : List Int) (ys : List V) : List (Key × V) := (ks.map Sum.inl).zip ys
def tDZ (K : Fr) (ta : TA) : TE := fun σ H Q => ta σ H fun vs H1 => ∃ (l1 l2 : Addr) (ks : List Int) (ys : List V), vs = [.ref l1, .ref l2] ∧ SqL K H1 l1 (ks.map V.int) ∧ SqL K H1 l2 ys ∧ ks.length = ys.length ∧ ks.Nodup ∧ ks.length ≤ sizeLine ∧
  ∀ p, H1 p = none → Q (.ref p) (upd H1 p (.dK (zipK ks ys)))
theorem KV_zip : ∀ {ks : List Int} {ys : List V} {us : List Value}, ks.length = ys.length → Vals ys us → KV (zipK ks ys) ((ks.map Sum.inl).zip us)
  | [], [], us, _, r => by cases r; exact .nil
  | [], _ :: _, _, h, _ => by simp at h
  | _ :: _, [], _, h, _ => by simp at h
  | k :: ks, y :: ys, us, h, r => by
    cases r with
    | cons a t => exact .cons ⟨rfl, a⟩ (KV_zip (by simpa using h) t)
theorem zipK_keys {ks : List Int} {ys : List V} (h : ks.length = ys.length) : (zipK ks ys).map (·.1) = ks.map Sum.inl := by
  unfold zipK
  exact List.map_fst_zip (by simp; omega)
theorem zipK_vals {ks : List Int} {ys : List V} (h : ks.length = ys.length) : (zipK ks ys).map (·.2) = ys := by
  unfold zipK
  exact List.map_snd_zip (by simp; omega)
theorem lt_ne_add {c n : Nat} (k : Nat) (h : c < n) : c ≠ n + k := by omega
theorem zap7 {n l1 l2 : Nat} (h1 : l1 < n) (h2 : l2 < n) : ZipApart (n + 4) (n + 2) (n + 3) n (n + 1) l1 l2 := by
  constructor <;> first | (show (_ : Nat) ≠ _; omega)
theorem pe_DZ {X : Cx} {a b : Expr} {ta : TA} {p p2 pos pos2 : Pos} (hc : X.calm = true) (hg : Gl X "dict") (hm : X.mg "dict" = none) (hg2 : Gl X "zip") (hm2 : X.mg "zip" = none) (ha : PA X [a, b] ta)
    (na : starEach [a, b] X.env = (false, eval a X.env) :: starEach [b] X.env) (hpl : (backTo pos2 (starEach [b] X.env)).any (·.1) = false)
    (nb : starEach [Expr.Call (.Name "zip" p2) [a, b] [] pos2] X.env = (false, eval (.Call (.Name "zip" p2) [a, b] [] pos2) X.env) :: starEach [] X.env) :
    PE X (.Call (.Name "dict" p) [.Call (.Name "zip" p2) [a, b] [] pos2] [] pos) (tDZ X.K ta) := by
  refine ⟨fun pins s σ H Q I h => ?_⟩
  have inner : wpAny (model X.prog X.w) X.A (eval (.Call (.Name "zip" p2) [a, b] [] pos2) X.env) (fun x s' => ∃ (s1 : Shared) (h' : Heap) (l1 l2 : Addr) (ks : List Int) (ys : List V) (its its2 : List Value) (H1 : Hp), x = .ref (s1.heap.objs.size + 4) ∧ s' = { s1 with heap := h' } ∧
      (IsZip h' (s1.heap.objs.size + 4) (s1.heap.objs.size + 2) (s1.heap.objs.size + 3) .none ∧ IsPair h' (s1.heap.objs.size + 2) (.ref s1.heap.objs.size) (.ref (s1.heap.objs.size + 1)) ∧ (∃ a b, IsPair h' (s1.heap.objs.size + 3) a b) ∧ h'.IsListIter s1.heap.objs.size l1 0 ∧ h'.IsListIter (s1.heap.objs.size + 1) l2 0 ∧ h'.IsList l1 its.toArray ∧ h'.IsList l2 its2.toArray) ∧
      h'.objs.size = s1.heap.objs.size + 5 ∧ (∀ c o, s1.heap.get? c = some o → h'.get? c = some o) ∧ l1 < s1.heap.objs.size ∧ l2 < s1.heap.objs.size ∧
      L2.Inv X pins σ H1 s1 ∧ Vals (ks.map V.int) its ∧ Vals ys its2 ∧ ks.length = ys.length ∧ ks.Nodup ∧ ks.length ≤ sizeLine ∧ ∀ p, H1 p = none → Q (.ref p) (upd H1 p (.dK (zipK ks ys)))) X.xe s := by
    refine Call_ (ld_blt I hg2 hm2 PyProof.Rows.boot_zip (PyProof.Rows.callWith_type1 (thn (ha.run pos2 pins s σ H _ I h) fun us s1 q0 => ?_) na hpl))
    obtain ⟨vs, H1, I1, r1, l1, l2, ks, ys, ex, hq1, hq2, hl, hn, hz, q⟩ := q0
    subst ex
    obtain ⟨u, u2, rfl, r, r2⟩ := vals2 r1
    cases r
    cases r2
    obtain ⟨its, rv, pl, hz1⟩ := I1.list hq1
    obtain ⟨its2, rv2, pl2, hz2⟩ := I1.list hq2
    refine zip_begins2 (begins_list l1 its.toArray) (begins_list l2 its2.toArray) pl.isList pl2.isList fun h' hzp hTI hTO h1 h2 hsz hk => ?_
    exact ⟨s1, h', l1, l2, ks, ys, its, its2, H1, rfl, rfl, ⟨hzp, hTI, ⟨_, _, hTO⟩, ⟨_, h1, rfl, rfl⟩, ⟨_, h2, rfl, rfl⟩, pl.isList.at fun o z => hk _ o z, pl2.isList.at fun o z => hk _ o z⟩, hsz, hk, pl.lt, pl2.lt, I1, rv, rv2, hl, hn, hz, q⟩
  refine Call_ (ld_blt I hg hm PyProof.Rows.boot_dict (PyProof.Rows.callWith_type1 (args_cons (thn inner fun x s2 q0 => args_nil ?_) nb) nb))
  obtain ⟨s1, h', l1, l2, ks, ys, its, its2, H1, ex, es, ok, hsz, hk, ll1, ll2, I1, rv, rv2, hl, hn, hz, q⟩ := q0
  subst ex es
  have hh : X.A.handled = none := I1.ok.hd hc
  have e1 : its.length = ks.length := by rw [← rv.length]; simp
  have e2 : its2.length = ks.length := by rw [← rv2.length]; exact hl.symm
  have kn : ((ks.map Sum.inl : List Key)).Nodup := hn.map _ fun a b hne e => hne (Sum.inl.inj e)
  have kn2 : (((ks.map Sum.inl : List Key).zip its2).map (·.1)).Nodup := by rw [List.map_fst_zip (by simp; omega)]; exact kn
  refine PySem.call_dict_pairs (knd := mixKind X.prog X.w) (kvs := (ks.map Sum.inl).zip its2) (PairArg.zip _ _ _ _ _ l1 l2 (zap7 ll1 ll2) its.toArray its2.toArray) hh ok ⟨?_, fun i key v hr => ?_⟩ (by simp; omega) fun h2 tk hd hk2 => ?_
  · simp; omega
  · obtain ⟨r1, r2⟩ := hr
    simp only [List.getElem?_toArray] at r1 r2
    have hi : i < ks.length := by have := (List.getElem?_eq_some_iff.mp r1).1; omega
    obtain ⟨u, hu, ru⟩ := rv.get (i := i) (x := V.int ks[i]) (by rw [List.getElem?_map, List.getElem?_eq_getElem hi]; rfl)
    rw [r1] at hu
    cases hu
    refine ⟨.inl ks[i], ?_, kV_is (k := .inl ks[i]) ru⟩
    rw [List.getElem?_zip_eq_some]
    exact ⟨by rw [List.getElem?_map, List.getElem?_eq_getElem hi]; rfl, r2⟩
  · rw [merged_nil_of_nodup _ kn2] at hd
    have hp : s1.heap.objs.size ≤ h'.objs.size := by show (_ : Nat) ≤ _; omega
    have hnone : H1 h'.objs.size = none := I1.hok.fresh hp
    have big : (h'.objs.size == sysModules) = false := by
      have := I1.big
      have : sysModules < h'.objs.size := Nat.lt_of_lt_of_le this hp
      exact beq_false_of_ne (Nat.ne_of_gt this)
    refine ⟨.ref h'.objs.size, _, I1.laid (t' := tk) (a := h'.objs.size) (o := .dK (zipK ks ys)) (h' := h2) (fun c o z => ?_) hp (dk_new ?_ big (KV_zip hl rv2) hd), rfl, q _ hnone⟩
    · have lc := Heap.lt_size z
      refine hk2 c o (fun m => ?_) (hk c o z)
      simp only [List.mem_cons, List.not_mem_nil, or_false] at m
      rcases m with m | m | m | m
      · exact lt_ne_add 4 lc m
      · exact lt_ne_add 3 lc m
      · exact lt_ne_add 0 lc m
      · exact lt_ne_add 1 lc m
    · unfold zipK; simp; omega
/-! ### d.update(e), e a held dict -/
def rUpd : V → List V → Hp → VK → Prop := fun x vs H Q => ∃ (a b : Addr) (kvs more : List (Key × V)) (o : Obj), x = .ref a ∧ vs = [.ref b] ∧ H a = some (.dK kvs) ∧ H b = some (.frz o (.dK more)) ∧ kvs.length + more.length ≤ sizeLine ∧ Q .non (upd H a (.dK (mergeK kvs more)))
theorem mt_update {X : Cx} : MtR X "dict.update" rUpd := by
  intro pins s σ H x xs v us Q I rx rs h
  obtain ⟨a, b, kvs, more, o, rfl, rfl, ha, hb, hz, q⟩ := h
  cases rx
  obtain ⟨u, rfl, r⟩ := vals1 rs
  cases r
  obtain ⟨_, hd, vs, rel, dd⟩ := dk_of I.hok ha
  obtain ⟨_, hd2, vs2, rel2, dd2⟩ := dk_rd I.hok (.inr ⟨o, hb⟩)
  have hab : a ≠ b := ne_of ha hb (fun z => by cases z)
  have l1 := rel.length
  have l2 := rel2.length
  refine call_meetsIn F.slot_dict_update dd.typeIs F.entry_dict_update (F.args_dict_update_2 _ _) (meets_dict_update (mixKind X.prog X.w) a b hab hd2) ⟨vs, vs2, dd, dd2, by omega, fun h' dd' _ hs => ?_⟩
  have hz2 : (mergeK kvs more).length ≤ sizeLine := Nat.le_trans (length_mergeK more kvs) hz
  have he : ∃ q, h'.get? a = some q := let ⟨q, _, _, hq, _⟩ := dd'; ⟨q, hq⟩
  exact ⟨.non, _, d_write (t' := s.toks) I (by rw [ha]; exact True.intro) hs he (dk_new hz2 hd (rel2.merge rel) dd'), rfl, q⟩
end Ip

/-! Ip, part G: the translation is sound. -/
namespace Ip
open PySem PySem.Spec PyProof.Rows L2

/-- a def's promise by the interpreter -/
def spW (K : Fr) (W : EX) (C : CallT) (f : Str) (vs : List V) (H : Hp) (Q : VK) : Prop := ∃ ds h mu, RelH K mu H h ∧ Reps K mu H ds vs ∧ pO K W mu H (C f ds h) fun d mu' H' _ => ∀ v, Rep K mu' H' d v → Q v H'
abbrev E00 : XK := fun _ _ _ => False
/-- .. with what is wished of an exception -/
def spX (K : Fr) (mg : Str → Option Value) (C : CallT) (f : Str) : Sp := fun vs H Q E => spW K (exOf mg E) C f vs H Q
theorem pO.wish {α : Type} {K : Fr} {W W' : EX} (hw : ∀ c H, W c H → W' c H) {mu : List Addr} {H : Hp} {o : Out α} {R : α → List Addr → Hp → Hh → Prop} (h : pO K W mu H o R) : pO K W' mu H o R := by
  cases o with
  | ok a h' => exact h
  | exn c h' => exact fun mu' H' x r => hw _ _ (h mu' H' x r)
  | stuck => exact h
theorem spW.mono {K : Fr} {W W' : EX} (hw : ∀ c H, W c H → W' c H) {C : CallT} {f : Str} {vs : List V} {H : Hp} {Q : VK} (h : spW K W C f vs H Q) : spW K W' C f vs H Q :=
  let ⟨ds, h, mu, rh, rs, q⟩ := h
  ⟨ds, h, mu, rh, rs, q.wish hw⟩
theorem ex_exK {mg : Str → Option Value} {W : EX} (c : Str) (H : Hp) (w : W c H) : exOf mg (exK mg W) c H := fun _ hc => ⟨rfl, c, hc, w⟩
def CallOk (X : Cx) (C : CallT) (f : Str) : Prop := ∃ (k : Nat) (a : Addr) (fd : FuncData) (ps : List Str),
  X.mg f = some (.ref a) ∧ PySem.W.keepIn X.K (.ref a) = true ∧ Binds X.K fd ps [] ∧ FnG X.prog X.w X.K X.mg X.base (L2.CX X.prog X.w) k a fd ps (spX X.K X.mg C f) ∧ Room k X.A
def MetOk (X : Cx) (C : CallT) (m c f : Str) : Prop := ∃ (k : Nat) (Cc a : Addr) (fd : FuncData) (ps : List Str),
  ClsK X.K c Cc ∧ Meth X.K Cc m a ∧ Binds X.K fd ps [] ∧ FnG X.prog X.w X.K X.mg X.base (L2.CX X.prog X.w) k a fd ps (spX X.K X.mg C f) ∧ Room k X.A
def MakeOk (X : Cx) (C : CallT) (c f : Str) : Prop := ∃ (k : Nat) (Cc a : Addr) (fd : FuncData) (ps : List Str),
  X.mg c = some (.ref Cc) ∧ ClsK X.K c Cc ∧ Mk X.K Cc a ∧ Binds X.K fd ps [] ∧ FnG X.prog X.w X.K X.mg X.base (L2.CX X.prog X.w) k a fd ps (spX X.K X.mg C f) ∧ Room (k + 1) X.A
structure Good2 (X : Cx) (ct : Cf) (C : CallT) (W : EX) : Prop extends Good X where
  con : ∀ x d, ct.con.lookup x = some d → ∃ u v, X.mg x = some u ∧ RelV v u ∧ ∀ mu H, Rep X.K mu H d v
  bi : ∀ b : Bi, X.mg (biOf b).1 = none
  rev : X.mg "reversed" = none
  set : X.mg "set" = none
  ty : ∀ x t, tyTab.lookup x = some t → ct.con.lookup x = none → X.mg x = none
  call : ∀ f, ct.fns.contains f = true → CallOk X C f
  met : ∀ m c f, ct.mets.lookup m = some (c, f) → MetOk X C m c f
  mks : ∀ c f, ct.cls.lookup c = some f → MakeOk X C c f
  exc : ∀ c, ct.exs.contains c = true → ExcOk X.K X.mg c
  isa : ∀ c t b, (c, t, b) ∈ ct.isa → IsaOk X.K X.mg c t b
  tk : Takes X (wOf X.mg W)
theorem takesW0 {X : Cx} : Takes X (wOf X.mg W0) := fun _ _ ⟨_, _, _, _, _, _, _, _, _, _, _, _, _, _, _, _, _, _, _, z⟩ => z.elim

section
variable {ct : Cf} {C : CallT}
theorem mapO_nil {α β : Type} {f : α → Option β} {bs : List β} (h : mapO f [] = some bs) : bs = [] := by cases h; rfl
theorem mapO_cons {α β : Type} {f : α → Option β} {a : α} {as : List α} {bs : List β} (h : mapO f (a :: as) = some bs) : ∃ b bs', bs = b :: bs' ∧ f a = some b ∧ mapO f as = some bs' := by
  unfold mapO at h
  split at h
  · rename_i b e
    split at h
    · rename_i bs' e2
      cases h
      exact ⟨b, bs', rfl, e, e2⟩
    · cases h
  · cases h
/-- what is translated has no star -/
theorem star_of {n : Nat} {N : List Str} {sc : Scope} {e : Expr} {t : Ex} (h : trE n N ct sc e = some t) (es : List Expr) (env : PySem.Env) : starEach (e :: es) env = (false, eval e env) :: starEach es env := by
  cases n with
  | zero => cases h
  | succ n =>
    cases e <;> first | rfl | (simp only [trE, reduceCtorEq] at h)
theorem stars_of {n : Nat} {N : List Str} {sc : Scope} (env : PySem.Env) : ∀ {es : List Expr} {ts : List Ex}, mapO (trE n N ct sc) es = some ts → starEach es env = es.map fun e => (false, eval e env)
  | [], ts, h => rfl
  | e :: es, ts, h => by
    obtain ⟨b, bs, rfl, h1, h2⟩ := mapO_cons h
    rw [star_of h1, stars_of env h2]
    rfl
theorem any_of {n : Nat} {N : List Str} {sc : Scope} (env : PySem.Env) (pos : Pos) {es : List Expr} {ts : List Ex} (h : mapO (trE n N ct sc) es = some ts) : (backTo pos (starEach es env)).any (·.1) = false := by
  rw [stars_of env h]
  unfold backTo
  induction es <;> simp_all
theorem all_of {n : Nat} {N : List Str} {sc : Scope} (env : PySem.Env) (pos : Pos) {es : List Expr} {ts : List Ex} (h : mapO (trE n N ct sc) es = some ts) : (backTo pos (starEach es env)).all (fun x => !x.1) = true := by
  rw [stars_of env h]
  unfold backTo
  simp
theorem len_of {α β : Type} {f : α → Option β} : ∀ {es : List α} {ts : List β}, mapO f es = some ts → ts.length = es.length
  | [], ts, h => by cases h; rfl
  | e :: es, ts, h => by
    obtain ⟨b, bs, rfl, h1, h2⟩ := mapO_cons h
    simp [len_of h2]
theorem s_args {X : Cx} {W : EX} {n : Nat} (ih : ∀ e t, trE n X.N ct X.env.scope e = some t → PE X e (tE X.K W (ev C t))) : ∀ {es : List Expr} {ts : List Ex}, mapO (trE n X.N ct X.env.scope) es = some ts → PA X es (tA X.K W (evs C ts))
  | [], ts, h => by
    cases h
    exact weakA s_nil fun sg H Q q => by
      obtain ⟨env, h, mu, re, rh, q⟩ := q
      simp only [evs] at q
      exact ⟨env, h, mu, re, rh, q⟩
  | e :: es, ts, h => by
    obtain ⟨b, bs, rfl, h1, h2⟩ := mapO_cons h
    have := s_cons (ih e b h1) (s_args ih h2) (star_of h1 es X.env)
    exact weakA this fun sg H Q q => by
      obtain ⟨env, h, mu, re, rh, q⟩ := q
      simp only [evs] at q
      exact ⟨env, h, mu, re, rh, q⟩

/-! ### names -/
theorem slot_of {N : List Str} {x : Str} {i : Nat} (h : slotOf N x = some i) : N[i]? = some x := by
  unfold slotOf at h
  simp only at h
  split at h
  · rename_i hl
    cases h
    rw [List.getElem?_eq_getElem hl, List.getElem_idxOf]
  · cases h
theorem okName_of {x : Str} (h : okName x = true) : (x == ("__debug__" : Str)) = false ∧ (x == ("__classdict__" : Str)) = false := by
  unfold okName at h
  simp only [Bool.and_eq_true, Bool.not_eq_true'] at h
  exact h
theorem vis_of {sc : Scope} {x : Str} (h : isVis sc x = true) : Vis sc x := by
  unfold isVis at h
  split at h
  · exact .inl (by assumption)
  · exact .inr (.inl (by assumption))
  · exact .inr (.inr (by assumption))
  · cases h
theorem gl_of {X : Cx} {x : Str} (h : isGl X.env.scope x = true) : Gl X x := by
  unfold isGl at h
  split at h
  · assumption
  · cases h
theorem own_of {sc : Scope} {x : Str} (h : isOwn sc x = true) : Loc sc x := by
  unfold isOwn at h
  split at h
  · exact .inl (by assumption)
  · exact .inr (by assumption)
  · cases h

/-! ### targets -/
theorem s_tg {X : Cx} (G : Good X) {ok : Str → Bool} (hok : ∀ x, ok x = true → Loc X.env.scope x ∧ (X.fn x = true ∨ X.env.scope.names.lookup x = some .local)) {tg : Expr} {t : Ex} (h : trT X.N ok tg = some t) : PG X tg (tN X.K t) ∧ ∀ o i, t ≠ .ix o i := by
  unfold trT at h
  split at h
  · split at h
    · rename_i hx
      rw [Option.map_eq_some_iff] at h
      obtain ⟨i, e, rfl⟩ := h
      exact ⟨s_gname G (slot_of e) (hok _ hx), fun _ _ z => by cases z⟩
    · cases h
  · split at h
    · rename_i hx
      simp only [Bool.and_eq_true] at hx
      split at h
      · rename_i e1 e2
        cases h
        exact ⟨s_gtup2 G (slot_of e1) (hok _ hx.1) (slot_of e2) (hok _ hx.2), fun _ _ z => by cases z⟩
      · cases h
    · cases h
  · split at h
    · rename_i hx
      simp only [Bool.and_eq_true] at hx
      split at h
      · rename_i e1 e2 e3
        cases h
        exact ⟨s_gtup3 G (slot_of e1) (hok _ hx.1.1) (slot_of e2) (hok _ hx.1.2) (slot_of e3) (hok _ hx.2), fun _ _ z => by cases z⟩
      · cases h
    · cases h
  · cases h

/-! ### blocks -/
theorem Good2.blk {X : Cx} {W : EX} (G : Good2 X ct C W) {scope : Scope} (hk : scope.kind = .function) (s : Shared) (H : Hp) (Ca : Addr) (cl : List (Str × Addr)) (fp : List Addr) : Good2 (X.blk s H scope (compEnvC scope cl Ca X.env) fp) ct C W0 where
  nd := G.nd
  calm := G.calm
  kind := hk
  units := G.units
  units5 := G.units5
  guards := G.guards
  pyl := G.pyl
  con := G.con
  bi := G.bi
  rev := G.rev
  set := G.set
  ty := G.ty
  call := G.call
  met := G.met
  mks := G.mks
  exc := G.exc
  isa := G.isa
  tk := takesW0
/-- .. in a context that no exception leaves -/
theorem Good2.nox {X : Cx} {W : EX} (G : Good2 X ct C W) : Good2 X.nox ct C W0 where
  nd := G.nd
  calm := G.calm
  kind := G.kind
  units := G.units
  units5 := G.units5
  guards := G.guards
  pyl := G.pyl
  con := G.con
  bi := G.bi
  rev := G.rev
  set := G.set
  ty := G.ty
  call := G.call
  met := G.met
  mks := G.mks
  exc := G.exc
  isa := G.isa
  tk := takesW0
theorem blk_ok {X : Cx} {scope : Scope} (s : Shared) (H : Hp) (Ca : Addr) (cl : List (Str × Addr)) (fp : List Addr) : ∀ x, isOwn scope x = true → Loc (X.blk s H scope (compEnvC scope cl Ca X.env) fp).env.scope x ∧ ((X.blk s H scope (compEnvC scope cl Ca X.env) fp).fn x = true ∨ (X.blk s H scope (compEnvC scope cl Ca X.env) fp).env.scope.names.lookup x = some .local) := fun x h => by
  unfold isOwn at h
  split at h
  · rename_i e
    have := lookup_relS_keep (sc := X.env.scope) (k := .local) (by decide) e
    exact ⟨.inl this, .inr this⟩
  · rename_i e
    have := lookup_relS_keep (sc := X.env.scope) (k := .cell) (by decide) e
    refine ⟨.inr this, .inl ?_⟩
    show (scope.names.lookup x == some .cell) = true
    rw [e]
    rfl
  · cases h
end
end Ip

/-! Ip, part H: the translation is sound: expressions. -/
namespace Ip
open PySem PySem.Spec PyProof.Rows L2

theorem congE {X : Cx} {W : EX} {e : Expr} {m m' : Env → Hh → Out D} (h : PE X e (tE X.K W m)) (eq : ∀ env h, m' env h = m env h) : PE X e (tE X.K W m') := by
  have : m' = m := funext fun env => funext fun h => eq env h
  rw [this]
  exact h
theorem congT {X : Cx} {W : EX} {e : Expr} {m m' : Env → Hh → Out Bool} (h : PT X e (tT X.K W m)) (eq : ∀ env h, m' env h = m env h) : PT X e (tT X.K W m') := by
  have : m' = m := funext fun env => funext fun h => eq env h
  rw [this]
  exact h
theorem congW {X : Cx} {W : EX} {e : Expr} {m m' : Env → Hh → Out Bool} (h : PW X e (tT X.K W m)) (eq : ∀ env h, m' env h = m env h) : PW X e (tT X.K W m') := by
  have : m' = m := funext fun env => funext fun h => eq env h
  rw [this]
  exact h
theorem congI {X : Cx} {W : EX} {tg e : Expr} {m m' : Env → Hh → Out Its} (h : PI X tg e (tI X.K W m)) (eq : ∀ env h, m' env h = m env h) : PI X tg e (tI X.K W m') := by
  have : m' = m := funext fun env => funext fun h => eq env h
  rw [this]
  exact h
section
variable {ct : Cf} {C : CallT}
theorem evT_not {t : Ex} (env : Env) (h : Hh) : evT C (.not t) env h = (evT C t env h).bind fun c h2 => .ok (!c) h2 := by
  simp only [evT, ev, bind_assoc]
  rfl
theorem evT_and {a b : Ex} (env : Env) (h : Hh) : evT C (.and a b) env h = (evT C a env h).bind fun c h2 => if c = true then evT C b env h2 else .ok false h2 := by
  simp only [evT, ev, bind_assoc]
  congr 1
  funext x h1
  congr 1
  funext c h2
  cases c <;> rfl
theorem evT_or {a b : Ex} (env : Env) (h : Hh) : evT C (.or a b) env h = (evT C a env h).bind fun c h2 => if c = true then .ok true h2 else evT C b env h2 := by
  simp only [evT, ev, bind_assoc]
  congr 1
  funext x h1
  congr 1
  funext c h2
  cases c <;> rfl
theorem ev_lc {it tg e : Ex} {own : List Nat} (env : Env) (h : Hh) : ev C (.lc it tg e own) env h = (evIt C it env h).bind fun x h1 => (lcL (eltO none (ev C e) tg own env) x.2 x.1 h1).bind fun ys h2 => mkL ys h2 := by
  cases it <;> rfl
theorem elt2_eq {tg c e : Ex} {own : List Nat} (env : Env) : (fun d h => match asgN tg d (wipeE env own) with
      | some env1 => (ev C c env1 h).bind fun t h1 => (asB t h1).bind fun k h2 => if k = true then (ev C e env1 h2).bind fun y h3 => .ok (some y) h3 else .ok none h2
      | none => .stuck) = eltO (some (evT C c)) (ev C e) tg own env := by
  funext d h
  dsimp only [eltO, elt2, evT]
  cases asgN tg d (wipeE env own) with
  | none => rfl
  | some env1 => simp only [bind_assoc]
theorem ev_lcIf {it tg c e : Ex} {own : List Nat} (env : Env) (h : Hh) : ev C (.lcIf it tg c e own) env h = (evIt C it env h).bind fun x h1 => (lcL (eltO (some (evT C c)) (ev C e) tg own env) x.2 x.1 h1).bind fun ys h2 => mkL ys h2 := by
  rw [← elt2_eq]
  cases it <;> rfl
theorem nomark_of {o : CmpOp} {b : Expr} (h : notSet b = true) : behindInMarks o b = false := by
  cases b <;> first | rfl | (simp [notSet] at h)
theorem lastmark_of {o o' : CmpOp} {b c : Expr} (h : notSet c = true) : lastMarks [o, o'] [b, c] = false := by
  show lastMarks [o'] [c] = false
  show behindInMarks o' c = false
  exact nomark_of h
theorem folded_of {it : Expr} (env : PySem.Env) (h : notSet it = true) (x : Value) : foldedSetIterable it env x = pure x := by
  cases it <;> first | rfl | (simp [notSet] at h)
theorem plain_of {b : Expr} (h : notSlice b = true) : PlainIx b := by
  intro o i
  cases b <;> first | rfl | (simp [notSlice] at h)
theorem attr_of_ {n : Nat} {N : List Str} {sc : Scope} {o : Expr} {t : Ex} {m : Str} (env : PySem.Env) (h : trE n N ct sc o = some t) : attributeBase o m env (eval o env) = eval o env := by
  cases n with
  | zero => cases h
  | succ n =>
    cases o with
    | Call f as kws pos =>
      cases f <;> first | rfl | skip
      cases as <;> cases kws <;> first | rfl | (simp only [trE, reduceCtorEq] at h)
    | _ => rfl
theorem bi_name {f : Str} {b : Bi} (h : biTab.lookup f = some b) : f = (biOf b).1 := by
  have key : ∀ p ∈ biTab, p.1 = (biOf p.2).1 := by decide +kernel
  have := List.lookup_eq_some_iff.mp h
  obtain ⟨l1, l2, e, _⟩ := this
  exact key (f, b) (by rw [e]; simp)
theorem mt0_name {f : Str} {b : Mt0} (h : mt0Tab.lookup f = some b) : f = mt0Of b := by
  have key : ∀ p ∈ mt0Tab, p.1 = mt0Of p.2 := by decide +kernel
  have := List.lookup_eq_some_iff.mp h
  obtain ⟨l1, l2, e, _⟩ := this
  exact key (f, b) (by rw [e]; simp)
theorem lk_name {f : Str} {b : Lk} (h : f = lkOf b) : f = lkOf b := h
theorem mt_name {f : Str} {b : Mt} (h : mtTab.lookup f = some b) : f = mtOf b := by
  have key : ∀ p ∈ mtTab, p.1 = mtOf p.2 := by decide +kernel
  have := List.lookup_eq_some_iff.mp h
  obtain ⟨l1, l2, e, _⟩ := this
  exact key (f, b) (by rw [e]; simp)
theorem ty_boot {x : Str} {t : String} (h : tyTab.lookup x = some t) : bootBuiltins x = some (.type t) ∧ x ≠ "__name__" := by
  have key : ∀ p ∈ tyTab, bootBuiltins p.1 = some (.type p.2) ∧ p.1 ≠ "__name__" := by decide +kernel
  have := List.lookup_eq_some_iff.mp h
  obtain ⟨l1, l2, e, _⟩ := this
  exact key (x, t) (by rw [e]; simp)

/-- a call of an own def -/
theorem s_call {X : Cx} {W : EX} (G : Good2 X ct C W) {f : Str} (hf : ct.fns.contains f = true) {e : Expr} {es : List Expr} {ms : Env → Hh → Out (List D)} {p pos : Pos} (hg : Gl X f) (hdb : (f == ("__debug__" : Str)) = false) (ha : PA X (e :: es) (tA X.K W ms))
    (he : starEach (e :: es) X.env = (false, eval e X.env) :: starEach es X.env) (hpl : (backTo pos (starEach es X.env)).any (·.1) = false) :
    PE X (.Call (.Name f p) (e :: es) [] pos) (tE X.K W fun env h => (ms env h).bind (C f)) := by
  obtain ⟨k, a, fd, ps, h1, h2, h3, h4, h5⟩ := G.call f hf
  exact weakE (pe_callG (E := exK X.mg W) h4 h5 G.guards hg h1 h2 h3 .nil (passes_call G.tk fun _ _ _ _ e => e) ha hdb he hpl) fun sg H Q q => by
      obtain ⟨env, h, mu, re, rh, q⟩ := q
      refine ⟨env, h, mu, re, rh, q.bind.mono fun ds mu1 H1 h1 x1 r1 q1 vs rs => ?_⟩
      show spX X.K X.mg C f (vs ++ []) H1 Q (exK X.mg W)
      rw [List.append_nil]
      exact spW.mono ex_exK ⟨ds, h1, mu1, r1, rs, q1⟩
theorem s_meth {X : Cx} {W : EX} (G : Good2 X ct C W) {m c f : Str} (hf : ct.mets.lookup m = some (c, f)) {o e : Expr} {es : List Expr} {mo : Env → Hh → Out D} {ms : Env → Hh → Out (List D)} {apos pos : Pos} (hl : es.length < 28) (ho : PE X o (tE X.K W mo)) (ha : PA X (e :: es) (tA X.K W ms))
    (hbase : attributeBase o m X.env (eval o X.env) = eval o X.env) (hfew : (backTo pos (starEach (e :: es) X.env)).all (fun x => !x.1) = true) (hline : (apos.endLine == pos.line) = true)
    (he : starEach (e :: es) X.env = (false, eval e X.env) :: starEach es X.env) (hpl : (backTo pos (starEach es X.env)).any (·.1) = false) :
    PE X (.Call (.Attribute o m apos) (e :: es) [] pos) (tE X.K W fun env h => (mo env h).bind fun x h1 => need (isIns h1 x c m) ((ms env h1).bind fun ds h2 => C f (x :: ds) h2)) := by
  obtain ⟨k, Cc, a, fd, ps, kc, hm, h3, h4, h5⟩ := G.met m c f hf
  have hfew' : ((backTo pos (starEach (e :: es) X.env)).all (fun x => !x.1) && (backToKw pos (keywordEach [] X.env)).all (fun x => x.1.isSome)
      && decide ((e :: es).length + ([] : List Keyword).length + (if ([] : List Keyword).isEmpty then 0 else 1) < 30)) = true := by
    rw [hfew]
    simp [keywordEach, backToKw]
    omega
  exact weakE (pe_methG (E := exK X.mg W) ho kc.cl hm h4 h5 G.guards h3 .nil (passes_call G.tk fun _ _ _ _ e => e) ha hbase hfew' hline he hpl) fun sg H Q q => by
    obtain ⟨env, h, mu, re, rh, q⟩ := q
    refine ⟨env, h, mu, re, rh, q.bind.mono fun x mu1 H1 h1 x1 r1 q1 v rv => ?_⟩
    obtain ⟨⟨n, fs, rfl, e1, e2⟩, q1⟩ := pO.need q1
    simp only [Rep] at rv
    obtain ⟨p, rfl, em⟩ := rv
    obtain ⟨C', dx, vs, e3, kc', ks, rs⟩ := r1.obj n _ p e1 em
    have := ClsK.same _ kc' kc
    subst this
    refine ⟨p, dx, vs, rfl, e3, flds_none ks e2, env, h1, mu1, re.mono x1, r1, q1.bind.mono fun ds mu2 H2 h2 x2 r2 q2 ws rw' => ?_⟩
    show spX X.K X.mg C f (V.ref p :: (ws ++ [])) H2 Q (exK X.mg W)
    rw [List.append_nil]
    refine spW.mono ex_exK ⟨_, h2, mu2, r2, ?_, q2⟩
    simp only [Reps]
    exact ⟨_, _, rfl, Rep.mono x2 _ _ (by simp only [Rep]; exact ⟨p, rfl, em⟩), rw'⟩
theorem s_meth0 {X : Cx} {W : EX} (G : Good2 X ct C W) {m c f : Str} (hf : ct.mets.lookup m = some (c, f)) {o : Expr} {mo : Env → Hh → Out D} {apos pos : Pos} (ho : PE X o (tE X.K W mo))
    (hbase : attributeBase o m X.env (eval o X.env) = eval o X.env) (hline : (apos.endLine == pos.line) = true) :
    PE X (.Call (.Attribute o m apos) [] [] pos) (tE X.K W fun env h => (mo env h).bind fun x h1 => need (isIns h1 x c m) (C f [x] h1)) := by
  obtain ⟨k, Cc, a, fd, ps, kc, hm, h3, h4, h5⟩ := G.met m c f hf
  exact weakE (pe_methG0 (E := exK X.mg W) ho kc.cl hm h4 h5 G.guards h3 .nil (passes_call G.tk fun _ _ _ _ e => e) hbase hline) fun sg H Q q => by
    obtain ⟨env, h, mu, re, rh, q⟩ := q
    refine ⟨env, h, mu, re, rh, q.bind.mono fun x mu1 H1 h1 x1 r1 q1 v rv => ?_⟩
    obtain ⟨⟨n, fs, rfl, e1, e2⟩, q1⟩ := pO.need q1
    have rv0 := rv
    simp only [Rep] at rv
    obtain ⟨p, rfl, em⟩ := rv
    obtain ⟨C', dx, vs, e3, kc', ks, rs⟩ := r1.obj n _ p e1 em
    have := ClsK.same _ kc' kc
    subst this
    refine ⟨p, dx, vs, rfl, e3, flds_none ks e2, ?_⟩
    show spX X.K X.mg C f ([V.ref p] ++ []) H1 Q (exK X.mg W)
    rw [List.append_nil]
    exact spW.mono ex_exK ⟨_, h1, mu1, r1, Reps.one rv0, q1⟩
theorem s_make {X : Cx} {W : EX} (G : Good2 X ct C W) {c f : Str} (hf : ct.cls.lookup c = some f) {e : Expr} {es : List Expr} {ms : Env → Hh → Out (List D)} {p pos : Pos} (hg : Gl X c) (hdb : (c == ("__debug__" : Str)) = false) (ha : PA X (e :: es) (tA X.K W ms))
    (he : starEach (e :: es) X.env = (false, eval e X.env) :: starEach es X.env) (hpl : (backTo pos (starEach es X.env)).any (·.1) = false) :
    PE X (.Call (.Name c p) (e :: es) [] pos) (tE X.K W fun env h => (ms env h).bind fun ds h1 => (C f (.obj h1.length :: ds) (h1 ++ [.ins c []])).bind fun v h2 => madeD h1.length v h2) := by
  obtain ⟨k, Cc, a, fd, ps, h0, kc, hM, h3, h4, h5⟩ := G.mks c f hf
  exact weakE (pe_makeG (E := exK X.mg W) hM h4 h5 G.guards hg h0 h3 .nil (passes_call G.tk fun _ _ _ _ e => e) ha hdb he hpl) fun sg H Q q => by
    obtain ⟨env, h, mu, re, rh, q⟩ := q
    refine ⟨env, h, mu, re, rh, q.bind.mono fun ds mu1 H1 h1 x1 r1 q1 vs rs => ?_⟩
    intro x dx ex ed hne
    rw [List.append_nil]
    have x2 := Ext.newI (mu := mu1) (C := Cc) ex ed hne
    have r2 := r1.newI (c := c) ex ed hne kc
    have rx : Rep X.K (mu1 ++ [x]) (upd (upd H1 dx (.own x)) x (.ins Cc dx [])) (.obj h1.length) (.ref x) := by
      simp only [Rep]
      exact ⟨x, rfl, by rw [← r1.len]; simp⟩
    refine spW.mono ex_exK ⟨_, _, _, r2, ?_, ((q1.ext x2).bind).mono fun v mu3 H3 h3 x3 r3 q3 w rw' => ?_⟩
    · simp only [Reps]
      exact ⟨_, _, rfl, rx, Reps.mono x2 _ _ rs⟩
    · unfold madeD at q3
      split at q3 <;> first | exact False.elim q3 | skip
      simp only [Rep] at rw'
      exact ⟨rw', q3.ok r3 _ (Rep.mono x3 _ _ rx)⟩
end
end Ip

/-! Ip, part I: the translation is sound: the induction. -/
namespace Ip
open PySem PySem.Spec PyProof.Rows L2
section
variable {ct : Cf} {C : CallT}
abbrev ShE (ct : Cf) (C : CallT) (n : Nat) : Prop := ∀ (X : Cx) (W : EX), Good2 X ct C W → ∀ e t, trE n X.N ct X.env.scope e = some t → PE X e (tE X.K W (ev C t))
abbrev ShT (ct : Cf) (C : CallT) (n : Nat) : Prop := ∀ (X : Cx) (W : EX), Good2 X ct C W → ∀ e t, trE n X.N ct X.env.scope e = some t → PT X e (tT X.K W (evT C t))

theorem evs_one {t : Ex} (env : Env) (h : Hh) : evs C [t] env h = one1 (ev C t) env h := by simp only [evs, one1]
theorem evs_two {t u : Ex} (env : Env) (h : Hh) : evs C [t, u] env h = two2 (ev C t) (ev C u) env h := by simp only [evs, two2, one1]
theorem evIt_plain {t : Ex} (ht : ∀ b ts, t = .bi b ts → b ≠ .range ∧ b ≠ .enumerate ∧ b ≠ .zip) (env : Env) (h : Hh) : evIt C t env h = (ev C t env h).bind itSeq := by
  cases t with
  | bi b ts =>
    obtain ⟨h1, h2, h3⟩ := ht b ts rfl
    simp only [evIt, ev, bind_assoc]
    congr 1
    funext ds h
    cases b <;> first | rfl | contradiction
  | _ => rfl
/-- what a comprehension's translation is made of -/
theorem trLc {n : Nat} {N : List Str} {sc : Scope} {elt : Expr} {gs : List Comprehension} {scope : Scope} {pos : Pos} {t : Ex} (h : trE (n + 1) N ct sc (.ListComp elt gs scope pos) = some t) :
    ∃ tg iter ifs ti tt te mc, gs = [⟨tg, iter, ifs, 0⟩] ∧ blkC N sc scope (ownOf N scope) = true ∧ notSet iter = true ∧ trE n N ct sc iter = some ti ∧ trT N (isOwn scope) tg = some tt ∧ trE n N ct (relS scope sc) elt = some te ∧
      ownTB tt ((ownOf N scope).map (·.2)) = true ∧ tgOk ti tg = true ∧ ((ifs = [] ∧ mc = none ∧ t = .lc ti tt te ((ownOf N scope).map (·.2))) ∨ ∃ c tc, ifs = [c] ∧ trE n N ct (relS scope sc) c = some tc ∧ mc = some tc ∧ t = .lcIf ti tt tc te ((ownOf N scope).map (·.2))) := by
  rcases gs with _ | ⟨⟨tg, iter, ifs, k⟩, _ | ⟨g2, gs⟩⟩
  · simp only [trE, reduceCtorEq] at h
  · by_cases hk : k = 0
    case neg =>
      unfold trE at h
      split at h <;> first | (cases h; done) | simp_all
    case pos =>
      subst hk
      simp only [trE] at h
      split at h
      · rename_i hb
        simp only [Bool.and_eq_true] at hb
        split at h
        · rename_i ti tt te e1 e2 e3
          split at h
          · rename_i ho
            simp only [Bool.and_eq_true] at ho
            split at h
            · cases h
              exact ⟨tg, iter, _, ti, tt, te, none, rfl, hb.1, hb.2, e1, e2, e3, ho.1, ho.2, .inl ⟨rfl, rfl, rfl⟩⟩
            · split at h
              · rename_i c _ tc e4
                cases h
                exact ⟨tg, iter, _, ti, tt, te, some tc, rfl, hb.1, hb.2, e1, e2, e3, ho.1, ho.2, .inr ⟨c, tc, rfl, e4, rfl, rfl⟩⟩
              · cases h
            · cases h
          · cases h
        · cases h
      · cases h
  · simp only [trE, reduceCtorEq] at h
theorem trE_bi {n : Nat} {N : List Str} {sc : Scope} {e : Expr} {b : Bi} {ts : List Ex} (h : trE (n + 1) N ct sc e = some (.bi b ts)) :
    ∃ f p a as pos, e = .Call (.Name f p) (a :: as) [] pos ∧ isGl sc f = true ∧ okName f = true ∧ mapO (trE n N ct sc) (a :: as) = some ts ∧ biTab.lookup f = some b ∧ biAr b ts.length = true := by
  cases e with
  | ListComp elt gs scope pos =>
    obtain ⟨tg, iter, ifs, ti, tt, te, mc, _, _, _, _, _, _, _, _, h1 | ⟨c, tc, _, _, _, h1⟩⟩ := trLc h
    · cases h1.2.2
    · cases h1
  | Call f as kws pos =>
    cases f with
    | Name f p =>
      rcases as with _ | ⟨a, as⟩
      · simp only [trE, reduceCtorEq] at h
      · rcases kws with _ | ⟨k, kws⟩
        · simp only [trE] at h
          split at h
          · rename_i hb
            simp only [Bool.and_eq_true] at hb
            split at h
            · simp only [Option.map_eq_some_iff, reduceCtorEq, and_false, exists_false] at h
            · simp only [Option.map_eq_some_iff, reduceCtorEq, and_false, exists_false] at h
            · simp only [Option.map_eq_some_iff, reduceCtorEq, and_false, exists_false] at h
            · simp only [Option.map_eq_some_iff, reduceCtorEq, and_false, exists_false] at h
            · simp only [Option.map_eq_some_iff, reduceCtorEq, and_false, exists_false] at h
            · split at h <;> cases h
            · cases h
            · split at h
              · rename_i ts' e1
                split at h
                · rename_i b' e2
                  split at h
                  · rename_i e3
                    cases h
                    exact ⟨f, p, a, as, pos, rfl, hb.1, hb.2, e1, e2, e3⟩
                  · cases h
                · split at h
                  · cases h
                  · split at h <;> cases h
              · cases h
          · cases h
        · simp only [trE, reduceCtorEq] at h
    | Attribute o m ap =>
      rcases as with _ | ⟨a, as⟩
      · rcases kws with _ | ⟨k, kws⟩
        · simp only [trE] at h
          split at h
          · split at h
            · split at h
              · cases h
              · simp only [Option.map_eq_some_iff, reduceCtorEq, and_false, exists_false] at h
            · cases h
          · cases h
        · simp only [trE, reduceCtorEq] at h
      · rcases kws with _ | ⟨k, kws⟩
        · simp only [trE] at h
          split at h
          · split at h
            · split at h
              · cases h
              · simp only [Option.map_eq_some_iff, reduceCtorEq, and_false, exists_false] at h
            · cases h
          · cases h
        · simp only [trE, reduceCtorEq] at h
    | _ => simp only [trE, reduceCtorEq] at h
  | Constant c k p => cases c <;> simp only [trE, reduceCtorEq, Option.some.injEq] at h
  | Name x p =>
    simp only [trE] at h
    split at h
    · split at h
      · simp only [Option.map_eq_some_iff, reduceCtorEq, and_false, exists_false] at h
      · split at h
        · split at h
          · cases h
          · simp only [Option.map_eq_some_iff, reduceCtorEq, and_false, exists_false] at h
        · cases h
    · cases h
  | Tuple es k p => simp only [trE, Option.map_eq_some_iff, reduceCtorEq, and_false, exists_false] at h
  | List es p => simp only [trE, Option.map_eq_some_iff, reduceCtorEq, and_false, exists_false] at h
  | Dict keys values p =>
    simp only [trE] at h
    split at h
    · cases h
    split at h
    · split at h
      · simp only [Option.map_eq_some_iff, reduceCtorEq, and_false, exists_false] at h
      · cases h
    · cases h
  | BinOp a o b p => simp only [trE] at h; split at h <;> cases h
  | UnaryOp o a p => cases o <;> simp only [trE, Option.map_eq_some_iff, reduceCtorEq, and_false, exists_false] at h
  | Compare a ops bs p =>
    rcases ops with _ | ⟨o, _ | ⟨o', _ | ⟨o'', ops⟩⟩⟩ <;> rcases bs with _ | ⟨b1, _ | ⟨b2, _ | ⟨b3, bs⟩⟩⟩ <;> first | (simp only [trE, reduceCtorEq] at h; done) | (simp only [trE] at h; split at h <;> cases h)
  | BoolOp o es p =>
    rcases es with _ | ⟨a, _ | ⟨b, r⟩⟩ <;> simp only [trE, reduceCtorEq, Option.bind_eq_some_iff] at h
    obtain ⟨us, e1, e2⟩ := h
    obtain ⟨t1, ts1, rfl, e3, e4⟩ := mapO_cons e1
    obtain ⟨t2, ts2, rfl, e5, e6⟩ := mapO_cons e4
    unfold trBo at e2
    split at e2
    · cases o <;> cases e2
    · cases e2
  | IfExp c a b p => simp only [trE] at h; split at h <;> cases h
  | Subscript a b p =>
    cases b with
    | Slice lo hi st p2 =>
      cases st with
      | none => simp only [trE] at h; split at h <;> cases h
      | some st => simp only [trE] at h; split at h <;> cases h
    | _ => simp only [trE, notSlice, if_true] at h; split at h <;> cases h
  | Attribute a f p =>
    simp only [trE] at h
    split at h
    · simp only [Option.map_eq_some_iff, reduceCtorEq, and_false, exists_false] at h
    · cases h
  | JoinedStr vs p =>
    rcases vs with _ | ⟨v1, _ | ⟨v2, r⟩⟩ <;> simp only [trE, Option.map_eq_some_iff, reduceCtorEq, and_false, exists_false] at h
  | FormattedValue a k f p =>
    cases f with
    | none =>
      simp only [trE] at h
      split at h
      · simp only [Option.map_eq_some_iff, reduceCtorEq, and_false, exists_false] at h
      · cases h
    | some f => simp only [trE, reduceCtorEq] at h
  | _ => simp only [trE, reduceCtorEq] at h
/-- what is walked -/
theorem sndI {n : Nat} (ih : ShE ct C n) (ihs : ∀ m, m < n → ShE ct C m) {X : Cx} {W : EX} (G : Good2 X ct C W) {e tg : Expr} {t : Ex} (h : trE n X.N ct X.env.scope e = some t) (htg : tgOk t tg = true) : PI X tg e (tI X.K W (evIt C t)) := by
  by_cases hb : ∃ b ts, t = .bi b ts ∧ (b = .range ∨ b = .enumerate ∨ b = .zip)
  · obtain ⟨b, ts, rfl, hb⟩ := hb
    cases n with
    | zero => cases h
    | succ n =>
      have ihn := ihs n (Nat.lt_succ_self n)
      obtain ⟨f, p, a, as, pos, rfl, hg, hok, hm, hf, har⟩ := trE_bi h
      have hgl := gl_of hg
      have := bi_name hf
      subst this
      obtain ⟨t1, ts1, rfl, e1, e2⟩ := mapO_cons hm
      have hl := len_of e2
      rcases hb with rfl | rfl | rfl
      · -- range
        rcases as with _ | ⟨a2, _ | ⟨a3, as⟩⟩
        · cases mapO_nil e2
          exact congI (s_itRange1 hgl (G.bi .range) (ihn X W G _ _ e1) (star_of e1 [] X.env)) fun env h => by rw [evIt, evs_one]
        · obtain ⟨t2, ts2, rfl, e3, e4⟩ := mapO_cons e2
          cases mapO_nil e4
          exact congI (s_itRange2 hgl (G.bi .range) (ihn X W G _ _ e1) (ihn X W G _ _ e3) (star_of e3 [] X.env) (by rw [star_of e1, star_of e3]; rfl)) fun env h => by rw [evIt, evs_two]
        · simp [biAr, hl] at har
      · -- enumerate
        cases tg <;> simp only [tgOk, Bool.false_eq_true] at htg
        rcases as with _ | ⟨a2, as⟩
        · cases mapO_nil e2
          exact congI (s_itEnum G.toGood hgl (G.bi .enumerate) (ihn X W G _ _ e1) (star_of e1 [] X.env)) fun env h => by rw [evIt, evs_one]
        · simp [biAr, hl] at har
      · cases tg <;> simp only [tgOk, Bool.false_eq_true] at htg
        rcases as with _ | ⟨a2, _ | ⟨a3, as⟩⟩
        · simp [biAr, hl] at har
        · obtain ⟨t2, ts2, rfl, e3, e4⟩ := mapO_cons e2
          cases mapO_nil e4
          exact congI (s_itZip G.toGood hgl (G.bi .zip) (ihn X W G _ _ e1) (ihn X W G _ _ e3) (star_of e3 [] X.env) (by rw [star_of e1, star_of e3]; rfl) (any_of X.env _ e2)) fun env h => by rw [evIt, evs_two]
        · simp [biAr, hl] at har
  · refine congI (s_itSeq (ih X W G _ _ h)) fun env h => evIt_plain (fun b ts e => ?_) env h
    refine ⟨fun z => hb ⟨b, ts, e, .inl z⟩, fun z => hb ⟨b, ts, e, .inr (.inl z)⟩, fun z => hb ⟨b, ts, e, .inr (.inr z)⟩⟩

/-- and, or of several values -/
theorem s_boE {n : Nat} (ih : ShE ct C n) {X : Cx} {W : EX} (G : Good2 X ct C W) {o : BoolOp} {pos : Pos} : ∀ {es : List Expr} {ts : List Ex} {t : Ex}, mapO (trE n X.N ct X.env.scope) es = some ts → trBo o ts = some t → PE X (.BoolOp o es pos) (tE X.K W (ev C t))
  | [], ts, t, h, e => by cases mapO_nil h; cases e
  | [a], ts, t, h, e => by
    obtain ⟨t1, ts1, rfl, e1, e2⟩ := mapO_cons h
    cases mapO_nil e2
    cases e
    exact pe_one (ih X W G _ _ e1)
  | a :: b :: r, ts, t, h, e => by
    obtain ⟨t1, ts1, rfl, e1, e2⟩ := mapO_cons h
    obtain ⟨t2, ts2, rfl, e3, e4⟩ := mapO_cons e2
    unfold trBo at e
    split at e
    · rename_i t' e5
      have hr := s_boE ih G (pos := pos) e2 e5
      cases o with
      | And => cases e; exact congE (s_and (ih X W G _ _ e1) hr) fun env h => by simp only [ev]
      | Or => cases e; exact congE (s_or (ih X W G _ _ e1) hr) fun env h => by simp only [ev]
    · cases e
theorem pw_one {X : Cx} {o : BoolOp} {a : Expr} {t : TT} {pos : Pos} (h : PT X a t) : PW X (.BoolOp o [a] pos) t := by
  cases o
  · exact pw_and1 h
  · exact pw_or1 h
theorem s_boT {n : Nat} (ih : ShT ct C n) {X : Cx} {W : EX} (G : Good2 X ct C W) {o : BoolOp} {pos : Pos} : ∀ {es : List Expr} {ts : List Ex} {t : Ex}, mapO (trE n X.N ct X.env.scope) es = some ts → trBo o ts = some t → PW X (.BoolOp o es pos) (tT X.K W (evT C t))
  | [], ts, t, h, e => by cases mapO_nil h; cases e
  | [a], ts, t, h, e => by
    obtain ⟨t1, ts1, rfl, e1, e2⟩ := mapO_cons h
    cases mapO_nil e2
    cases e
    exact pw_one (ih X W G _ _ e1)
  | a :: b :: r, ts, t, h, e => by
    obtain ⟨t1, ts1, rfl, e1, e2⟩ := mapO_cons h
    obtain ⟨t2, ts2, rfl, e3, e4⟩ := mapO_cons e2
    unfold trBo at e
    split at e
    · rename_i t' e5
      have hr := s_boT ih G (pos := pos) e2 e5
      cases o with
      | And => cases e; exact congW (s_andT (ih X W G _ _ e1) hr) evT_and
      | Or => cases e; exact congW (s_orT (ih X W G _ _ e1) hr) evT_or
    · cases e
end
end Ip

/-! Ip, part J: the translation is sound: the induction, its step. -/
namespace Ip
open PySem PySem.Spec PyProof.Rows L2
section
variable {ct : Cf} {C : CallT}
theorem pts_of {X : Cx} {ifs : List Expr} {mc : Env → Hh → Out Bool} {c : Expr} (h : PT X c (tT X.K W0 mc)) : PTs X [c] (ttO X.K (some mc)) := pts_one h
theorem s_lc {X : Cx} {W : EX} (G : Good2 X ct C W) {elt tg iter : Expr} {ifs : List Expr} {scope : Scope} {own : List (Str × Nat)} {pos : Pos} {mi : Env → Hh → Out Its} {t : Ex} {mc : Option (Env → Hh → Out Bool)} {me : Env → Hh → Out D}
    (hi : PI X tg iter (tI X.K W mi)) (ok : BlkOk X.N X.env.scope scope own)
    (hg : ∀ (s : Shared) (H : Hp) (Ca : Addr) (cl : List (Str × Addr)) (fp : List Addr), PG (X.blk s H scope (compEnvC scope cl Ca X.env) fp) tg (tN X.K t))
    (ht : ∀ (s : Shared) (H : Hp) (Ca : Addr) (cl : List (Str × Addr)) (fp : List Addr), PTs (X.blk s H scope (compEnvC scope cl Ca X.env) fp) ifs (ttO X.K mc))
    (he : ∀ (s : Shared) (H : Hp) (Ca : Addr) (cl : List (Str × Addr)) (fp : List Addr), PE (X.blk s H scope (compEnvC scope cl Ca X.env) fp) elt (tE X.K W0 me))
    (hs : ∀ x, foldedSetIterable iter X.env x = pure x) (ho : OwnT t (own.map (·.2))) :
    PE X (.ListComp elt [⟨tg, iter, ifs, 0⟩] scope pos) (tE X.K W fun env h => (mi env h).bind fun x h1 => (lcL (eltO mc me t (own.map (·.2)) env) x.2 x.1 h1).bind fun ys h2 => mkL ys h2) :=
  weakE (pe_lc G.calm G.nd hi ok hg ht he hs) fun sg H Q q => tLc_of ho q
theorem s_setLc {X : Cx} {W : EX} (G : Good2 X ct C W) {elt tg iter : Expr} {ifs : List Expr} {scope : Scope} {own : List (Str × Nat)} {pos spos : Pos} {mi : Env → Hh → Out Its} {t : Ex} {mc : Option (Env → Hh → Out Bool)} {me : Env → Hh → Out D}
    {i : Nat} {y : Str} {py : Pos} (hy : X.N[i]? = some y) (hyl : X.env.scope.names.lookup y = some .local)
    (hsw : swapsWith (.ListComp elt [⟨tg, iter, ifs, 0⟩] scope pos) (some (.Name y py)) spos.line X.env = pure true)
    (hi : PI X tg iter (tI X.K W mi)) (ok : BlkOk X.N X.env.scope scope own)
    (hg : ∀ (s : Shared) (H : Hp) (Ca : Addr) (cl : List (Str × Addr)) (fp : List Addr), PG (X.blk s H scope (compEnvC scope cl Ca X.env) fp) tg (tN X.K t))
    (ht : ∀ (s : Shared) (H : Hp) (Ca : Addr) (cl : List (Str × Addr)) (fp : List Addr), PTs (X.blk s H scope (compEnvC scope cl Ca X.env) fp) ifs (ttO X.K mc))
    (he : ∀ (s : Shared) (H : Hp) (Ca : Addr) (cl : List (Str × Addr)) (fp : List Addr), PE (X.blk s H scope (compEnvC scope cl Ca X.env) fp) elt (tE X.K W0 me))
    (hs : ∀ x, foldedSetIterable iter X.env x = pure x) (ho : OwnT t (own.map (·.2))) :
    PS X (.Assign [.Name y py] (.ListComp elt [⟨tg, iter, ifs, 0⟩] scope pos) spos) (tS X.K W fun env h => ((mi env h).bind fun x h1 => (lcL (eltO mc me t (own.map (·.2)) env) x.2 x.1 h1).bind fun ys h2 => mkL ys h2).bind fun d h1 => (evA C (.var i) d env h1).bind fun e1 h2 => .ok (.nx e1) h2) :=
  weakS (ps_setLc G.calm G.nd hy hyl hsw hi ok hg ht he hs) fun Dn sg H q => by
    show tLc _ _ _ _ _ sg H _
    refine tLc_of (W := W) ho ?_
    obtain ⟨env, h, mu, re, rh, q⟩ := q
    refine ⟨env, h, mu, re, rh, q.bind.mono fun d mu1 H1 h1 x1 r1 q1 v rv => ?_⟩
    have q2 := q1.ok r1
    exact q2 _ ((re.mono x1).set rv)
/-- a comprehension -/
theorem sndLc {n : Nat} (ih : ShE ct C n) (iht : ShT ct C n) (ihs : ∀ m, m < n → ShE ct C m) {X : Cx} {W : EX} (G : Good2 X ct C W) {elt : Expr} {gs : List Comprehension} {scope : Scope} {pos : Pos} {t : Ex} (h : trE (n + 1) X.N ct X.env.scope (.ListComp elt gs scope pos) = some t) :
    ∃ (tg iter : Expr) (ifs : List Expr) (own : List (Str × Nat)) (mi : Env → Hh → Out Its) (tt : Ex) (mc : Option (Env → Hh → Out Bool)) (me : Env → Hh → Out D), gs = [⟨tg, iter, ifs, 0⟩] ∧
    PI X tg iter (tI X.K W mi) ∧ BlkOk X.N X.env.scope scope own ∧
    (∀ (s : Shared) (H : Hp) (Ca : Addr) (cl : List (Str × Addr)) (fp : List Addr), PG (X.blk s H scope (compEnvC scope cl Ca X.env) fp) tg (tN X.K tt)) ∧
    (∀ (s : Shared) (H : Hp) (Ca : Addr) (cl : List (Str × Addr)) (fp : List Addr), PTs (X.blk s H scope (compEnvC scope cl Ca X.env) fp) ifs (ttO X.K mc)) ∧
    (∀ (s : Shared) (H : Hp) (Ca : Addr) (cl : List (Str × Addr)) (fp : List Addr), PE (X.blk s H scope (compEnvC scope cl Ca X.env) fp) elt (tE X.K W0 me)) ∧
    (∀ x, foldedSetIterable iter X.env x = pure x) ∧ OwnT tt (own.map (·.2)) ∧
    ∀ env h, ev C t env h = (mi env h).bind fun x h1 => (lcL (eltO mc me tt (own.map (·.2)) env) x.2 x.1 h1).bind fun ys h2 => mkL ys h2 := by
  obtain ⟨tg, iter, ifs, ti, tt, te, mc, rfl, hb, hns, e1, e2, e3, ho, htg, hm⟩ := trLc h
  have ok := blkOk_by hb
  have hk : scope.kind = .function := ok.kind
  refine ⟨tg, iter, ifs, ownOf X.N scope, evIt C ti, tt, mc.map (evT C), ev C te, rfl, sndI ih ihs G e1 htg, ok, fun s H Ca cl fp => ?_, fun s H Ca cl fp => ?_, fun s H Ca cl fp => ?_, fun x => folded_of X.env hns x, ownT_of ho, fun env hh => ?_⟩
  · exact (s_tg (G.blk hk s H Ca cl fp).toGood (blk_ok s H Ca cl fp) e2).1
  · rcases hm with ⟨rfl, rfl, _⟩ | ⟨c, tc, rfl, e4, rfl, _⟩
    · exact pts_nil
    · exact pts_one (iht _ _ (G.blk hk s H Ca cl fp) _ _ e4)
  · exact ih _ _ (G.blk hk s H Ca cl fp) _ _ e3
  · rcases hm with ⟨rfl, rfl, rfl⟩ | ⟨c, tc, rfl, e4, rfl, rfl⟩
    · exact ev_lc env hh
    · exact ev_lcIf env hh

/-- a dict's pairs -/
theorem ppsOf {X : Cx} {W : EX} {f : Expr → Option Ex} (ih : ∀ e t, f e = some t → PE X e (tE X.K W (ev C t))) {pos : Pos} : ∀ {keys : List (Option Expr)} {values es : List Expr} {ts : List Ex}, interl keys values = some es → mapO f es = some ts →
    ∃ ps : List (Ex × Ex), ts = flatE ps ∧ keys.length = values.length ∧ keys.all (·.isSome) = true ∧ PPs X pos keys values (ps.map fun p => (tE X.K W (ev C p.1), tE X.K W (ev C p.2)))
  | [], [], es, ts, h, e => by
    cases h
    cases mapO_nil e
    exact ⟨[], rfl, rfl, rfl, pps_nil⟩
  | [], _ :: _, es, ts, h, e => by cases h
  | none :: _, _, es, ts, h, e => by simp [interl] at h
  | some k :: _, [], es, ts, h, e => by simp [interl] at h
  | some k :: ks, v :: vs, es, ts, h, e => by
    simp only [interl, Option.map_eq_some_iff] at h
    obtain ⟨r, h, rfl⟩ := h
    obtain ⟨t1, ts1, rfl, e1, e2⟩ := mapO_cons e
    obtain ⟨t2, ts2, rfl, e3, e4⟩ := mapO_cons e2
    obtain ⟨ps, rfl, a, b, c⟩ := ppsOf ih (pos := pos) h e4
    exact ⟨(t1, t2) :: ps, rfl, by simp [a], by simpa using b, pps_cons (ih _ _ e1) (ih _ _ e3) c⟩
/-- a text's parts -/
theorem pjOf {X : Cx} {W : EX} {f : Expr → Option Ex} (ih : ∀ e t, f e = some t → PE X e (tE X.K W (ev C t))) : ∀ {es : List Expr} {ts : List Ex}, mapO f es = some ts → PJ X es (ts.map fun t => tE X.K W (ev C t))
  | [], ts, e => by
    cases mapO_nil e
    exact .nil
  | e :: es, ts, h => by
    obtain ⟨t1, ts1, rfl, e1, e2⟩ := mapO_cons h
    exact .cons (ih _ _ e1) (pjOf ih e2)
theorem stepE {n : Nat} (ih : ShE ct C n) (iht : ShT ct C n) (ihs : ∀ m, m < n → ShE ct C m) : ShE ct C (n + 1) := by
  intro X W G e t h
  cases e with
  | ListComp elt gs scope pos =>
    obtain ⟨tg, iter, ifs, own, mi, tt, mc, me, rfl, a1, a2, a3, a4, a5, a6, a7, a8⟩ := sndLc ih iht ihs G h
    exact congE (s_lc G a1 a2 a3 a4 a5 a6 a7) a8
  | Call f as kws pos =>
    cases f with
    | Name f p =>
      rcases as with _ | ⟨a, as⟩
      · simp only [trE, reduceCtorEq] at h
      · rcases kws with _ | ⟨k, kws⟩
        · simp only [trE] at h
          split at h
          · rename_i hb
            simp only [Bool.and_eq_true] at hb
            split at h
            · rename_i x e1
              rw [Option.map_eq_some_iff] at h
              obtain ⟨tx, e2, rfl⟩ := h
              obtain ⟨g, p2, pos2, rfl, rfl, rfl, hg2, hlk⟩ := lenArg_of e1
              have := lk_name hlk
              subst this
              exact congE (s_lenum G.calm (gl_of hb.1) (G.bi .list) (gl_of hg2) (G.bi .enumerate) (ih X W G _ _ e2) (star_of e2 [] X.env) rfl) fun env h => by simp only [ev]
            · rename_i x e1
              rw [Option.map_eq_some_iff] at h
              obtain ⟨tx, e2, rfl⟩ := h
              obtain ⟨g, p2, pos2, rfl, rfl, rfl, hg2, hlk⟩ := lenArg_of e1
              have := lk_name hlk
              subst this
              exact congE (s_lrev G.calm (gl_of hb.1) (G.bi .list) (gl_of hg2) G.rev (ih X W G _ _ e2) (star_of e2 [] X.env) rfl) fun env h => by simp only [ev]
            · rename_i x e1
              rw [Option.map_eq_some_iff] at h
              obtain ⟨tx, e2, rfl⟩ := h
              obtain ⟨g, p2, pos2, rfl, rfl, rfl, hg2, hlk⟩ := lenArg_of e1
              have := lk_name hlk
              subst this
              exact congE (s_lset G.calm G.units (gl_of hb.1) (G.bi .len) (gl_of hg2) G.set (ih X W G _ _ e2) (star_of e2 [] X.env)) fun env h => by simp only [ev]
            · rename_i x e1
              rw [Option.map_eq_some_iff] at h
              obtain ⟨tx, e2, rfl⟩ := h
              obtain ⟨g, p2, pos2, rfl, rfl, rfl, hg2, hlk⟩ := lenArg_of e1
              have := lk_name hlk
              subst this
              exact congE (s_sset G.calm (gl_of hb.1) (G.bi .sorted) (gl_of hg2) G.set (ih X W G _ _ e2) (star_of e2 [] X.env)) fun env h => by simp only [ev]
            · rename_i x e1
              rw [Option.map_eq_some_iff] at h
              obtain ⟨tx, e2, rfl⟩ := h
              obtain ⟨g, p2, pos2, rfl, rfl, rfl, hg2, hlk⟩ := lenArg_of e1
              have := lk_name hlk
              subst this
              exact congE (s_lrange1 G.calm (gl_of hb.1) (G.bi .list) (gl_of hg2) (G.bi .range) (ih X W G _ _ e2) (star_of e2 [] X.env)) fun env h => by simp only [ev, evs_one]
            · rename_i x y e1
              split at h
              · rename_i t u e2 e3
                cases h
                obtain ⟨g, p2, pos2, rfl, rfl, rfl, hg2, hlk⟩ := lenArg_of e1
                have := lk_name hlk
                subst this
                exact congE (s_lrange2 G.calm (gl_of hb.1) (G.bi .list) (gl_of hg2) (G.bi .range) (ih X W G _ _ e2) (ih X W G _ _ e3) (star_of e3 [] X.env) (star_of e2 [y] X.env)) fun env h => by simp only [ev, evs_two]
              · cases h
            · cases h
            split at h
            · rename_i ts' e1
              have hA := s_args (C := C) (fun e t => ih X W G e t) e1
              obtain ⟨t1, ts1, rfl, e3, e4⟩ := mapO_cons e1
              have he := star_of e3 as X.env
              have hpl := any_of X.env pos e4
              split at h
              · rename_i b' e2
                split at h
                · cases h
                  have := bi_name e2
                  subst this
                  exact congE (s_bi G.toGood b' (gl_of hb.1) (G.bi b') hA he hpl) fun env h => by simp only [ev]
                · cases h
              · split at h
                · rename_i hf
                  cases h
                  exact congE (s_call G hf (gl_of hb.1) (okName_of hb.2).1 hA he hpl) fun env h => by simp only [ev]
                · split at h
                  · rename_i g eg
                    cases h
                    exact congE (s_make G eg (gl_of hb.1) (okName_of hb.2).1 hA he hpl) fun env h => by simp only [ev]
                  · cases h
            · cases h
          · cases h
        · simp only [trE, reduceCtorEq] at h
    | Attribute o m ap =>
      rcases as with _ | ⟨a, as⟩
      · rcases kws with _ | ⟨k, kws⟩
        · simp only [trE] at h
          split at h
          · rename_i e2
            split at h
            · rename_i hb
              split at h
              · rename_i c f em
                cases h
                exact congE (s_meth0 G em (ih X W G _ _ e2) (attr_of_ X.env e2) hb) fun env h => by simp only [ev, evs, Out.bind_ok]
              · rw [Option.map_eq_some_iff] at h
                obtain ⟨t, e1, rfl⟩ := h
                have := mt0_name e1
                subst this
                exact congE (s_mt0 (ih X W G _ _ e2) (attr_of_ X.env e2) hb) fun env h => by simp only [ev]
            · cases h
          · cases h
        · simp only [trE, reduceCtorEq] at h
      · rcases kws with _ | ⟨k, kws⟩
        · simp only [trE] at h
          split at h
          · rename_i e2 e3
            split at h
            · rename_i hb
              simp only [Bool.and_eq_true, decide_eq_true_eq] at hb
              have hA := s_args (C := C) (fun e t => ih X W G e t) e3
              have e3' := e3
              obtain ⟨t1, ts1, rfl, e4, e5⟩ := mapO_cons e3
              split at h
              · rename_i c f em
                cases h
                exact congE (s_meth G em (by omega) (ih X W G _ _ e2) hA (attr_of_ X.env e2) (all_of X.env pos e3') hb.1 (star_of e4 as X.env) (any_of X.env pos e5)) fun env h => by simp only [ev]
              · rw [Option.map_eq_some_iff] at h
                obtain ⟨t, e1, rfl⟩ := h
                have := mt_name e1
                subst this
                exact congE (s_mt G.toGood (by omega) (ih X W G _ _ e2) hA (attr_of_ X.env e2) (all_of X.env pos e3') hb.1 (star_of e4 as X.env) (any_of X.env pos e5)) fun env h => by simp only [ev]
            · cases h
          · cases h
        · simp only [trE, reduceCtorEq] at h
    | _ => simp only [trE, reduceCtorEq] at h
  | Constant c k p =>
    cases c <;> simp only [trE, reduceCtorEq, Option.some.injEq] at h <;> subst h
    · exact s_con (d := .non) pe_non (fun _ _ => by simp [Rep]) fun _ _ => rfl
    · exact s_con (d := .bl _) pe_bl (fun _ _ => by simp [Rep]) fun _ _ => rfl
    · exact s_con (d := .int _) pe_int (fun _ _ => by simp [Rep]) fun _ _ => rfl
    · exact s_con (d := .str _) pe_str (fun _ _ => by simp [Rep]) fun _ _ => rfl
  | Name x p =>
    simp only [trE] at h
    split at h
    · rename_i hn
      obtain ⟨hd, hcd⟩ := okName_of hn
      split at h
      · rename_i hv
        rw [Option.map_eq_some_iff] at h
        obtain ⟨i, e1, rfl⟩ := h
        exact s_var (slot_of e1) (vis_of hv) hd hcd
      · split at h
        · rename_i hg
          split at h
          · rename_i d e1
            cases h
            obtain ⟨u, v, h1, h2, h3⟩ := G.con x d e1
            exact s_con (pe_glob (gl_of hg) h1 h2 hd) h3 fun _ _ => by simp only [ev]
          · rename_i e1
            rw [Option.map_eq_some_iff] at h
            obtain ⟨tt, e2, rfl⟩ := h
            obtain ⟨b1, b2⟩ := ty_boot e2
            exact s_con (d := .ty tt) (pe_bltn (v := .ty tt) (gl_of hg) (G.ty x tt e2 e1) b1 rfl b2 hd) (fun _ _ => by simp [Rep]) fun _ _ => rfl
        · cases h
    · cases h
  | Tuple es k p =>
    simp only [trE, Option.map_eq_some_iff] at h
    obtain ⟨ts, e1, rfl⟩ := h
    exact congE (s_tup (s_args (C := C) (fun e t => ih X W G e t) e1)) fun env h => by simp only [ev]
  | List es p =>
    simp only [trE, Option.map_eq_some_iff] at h
    obtain ⟨ts, e1, rfl⟩ := h
    exact congE (s_lst (s_args (C := C) (fun e t => ih X W G e t) e1)) fun env h => by simp only [ev]
  | Dict keys values p =>
    simp only [trE] at h
    split at h
    · rename_i hb
      cases h
      simp only [Bool.and_eq_true, List.isEmpty_iff] at hb
      obtain ⟨rfl, rfl⟩ := hb
      exact s_dct0
    split at h
    · rename_i es e1
      split at h
      · rename_i hb
        simp only [Bool.and_eq_true, decide_eq_true_eq, Bool.not_eq_true'] at hb
        rw [Option.map_eq_some_iff] at h
        obtain ⟨ts, e2, rfl⟩ := h
        obtain ⟨ps, rfl, a1, a2, a3⟩ := ppsOf (C := C) (fun e t => ih X W G e t) (pos := p) e1 e2
        exact congE (s_dct a3 a2 a1 (fun z => by rw [z] at hb; simp at hb) hb.1) fun env h => by simp only [ev]
      · cases h
    · cases h
  | BinOp a o b p =>
    simp only [trE] at h
    split at h
    · rename_i e1 e2 e3
      cases h
      have := opOf_of e1
      subst this
      exact congE (s_bin G.toGood (ih X W G _ _ e2) (ih X W G _ _ e3)) fun env h => by simp only [ev]
    · cases h
  | UnaryOp o a p =>
    cases o <;> simp only [trE, Option.map_eq_some_iff, reduceCtorEq] at h
    · obtain ⟨t1, e1, rfl⟩ := h
      exact congE (s_not (ih X W G _ _ e1)) fun env h => by simp only [ev]
    · obtain ⟨t1, e1, rfl⟩ := h
      exact congE (s_neg (ih X W G _ _ e1)) fun env h => by rfl
  | Compare a ops bs p =>
    rcases ops with _ | ⟨o, _ | ⟨o', _ | ⟨o'', ops⟩⟩⟩ <;> rcases bs with _ | ⟨b1, _ | ⟨b2, _ | ⟨b3, bs⟩⟩⟩ <;> try (simp only [trE, reduceCtorEq] at h; done)
    · simp only [trE] at h
      split at h
      · rename_i e1 e2 e3
        cases h
        rw [← copOf_I o]
        exact congE (s_cmp G.toGood (ih X W G _ _ e2) (ih X W G _ _ e3) (nomark_of e1)) fun env h => by simp only [ev, copOf_I]
      · cases h
    · simp only [trE] at h
      split at h
      · rename_i e1 e2 e3 e4
        cases h
        rw [← copOf_I o, ← copOf_I o']
        refine congE (weakE (pe_chain (r_cmp (W := W) G.toGood (copI o)) (r_cmp (W := W) G.toGood (copI o')) (ih X W G _ _ e2) (ih X W G _ _ e3) (ih X W G _ _ e4) (lastmark_of e1)) fun _ _ _ q => tChain_of q) fun env h => by simp only [ev, copOf_I]
      · cases h
  | BoolOp o es p =>
    rcases es with _ | ⟨a, _ | ⟨b, r⟩⟩ <;> simp only [trE, reduceCtorEq, Option.bind_eq_some_iff] at h
    obtain ⟨us, e1, e2⟩ := h
    exact s_boE ih G e1 e2
  | IfExp c a b p =>
    simp only [trE] at h
    split at h
    · rename_i e1 e2 e3
      cases h
      exact congE (s_ite (iht X W G _ _ e1) (ih X W G _ _ e2) (ih X W G _ _ e3)) fun env h => by simp only [ev, evT, bind_assoc]
    · cases h
  | Subscript a b p =>
    have key : ∀ (hb : notSlice b = true) (x y : Ex), trE n X.N ct X.env.scope a = some x → trE n X.N ct X.env.scope b = some y → t = .ix x y → PE X (.Subscript a b p) (tE X.K W (ev C t)) := fun hb x y e1 e2 et => by
      subst et
      exact congE (s_ix G.toGood (ih X W G _ _ e1) (ih X W G _ _ e2) (plain_of hb)) fun env h => by simp only [ev]
    cases b with
    | Slice lo hi st p2 =>
      cases st with
      | none =>
        simp only [trE] at h
        split at h
        · rename_i x l u e1 e2 e3
          cases h
          have part : ∀ {o : Option Expr} {t : Ex}, (match o with | none => some Ex.non | some l => trE n X.N ct X.env.scope l) = some t → PO X o (tP X.K W fun env h => (ev C t env h).bind partOf) := fun {o t} e => by
            cases o with
            | none =>
              cases e
              exact s_poN
            | some l => exact s_poS (ih X W G _ _ e)
          exact congE (s_sl (ih X W G _ _ e1) (part e2) (part e3)) fun env h => by simp only [ev, bind_assoc]
        · cases h
      | some st =>
        simp only [trE] at h
        split at h
        · rename_i x l u z e1 e2 e3 e4
          cases h
          have part : ∀ {o : Option Expr} {t : Ex}, (match o with | none => some Ex.non | some l => trE n X.N ct X.env.scope l) = some t → PO X o (tP X.K W fun env h => (ev C t env h).bind partOf) := fun {o t} e => by
            cases o with
            | none =>
              cases e
              exact s_poN
            | some l => exact s_poS (ih X W G _ _ e)
          exact congE (s_slS (ih X W G _ _ e1) (part e2) (part e3) (s_poS (ih X W G _ _ e4))) fun env h => by simp only [ev, bind_assoc]
        · cases h
    | _ =>
      simp only [trE, notSlice, if_true] at h
      split at h
      · rename_i e1 e2
        cases h
        exact key rfl _ _ e1 e2 rfl
      · cases h
  | Attribute a f p =>
    simp only [trE] at h
    split at h
    · rename_i hf
      rw [Option.map_eq_some_iff] at h
      obtain ⟨t1, e1, rfl⟩ := h
      exact congE (s_fld (ih X W G _ _ e1) (attr_of_ X.env e1) (List.contains_iff_mem.mp hf)) fun env h => by simp only [ev]
    · cases h
  | JoinedStr vs p =>
    rcases vs with _ | ⟨v1, _ | ⟨v2, r⟩⟩ <;> simp only [trE, reduceCtorEq] at h
    rw [Option.map_eq_some_iff] at h
    obtain ⟨ts, e1, rfl⟩ := h
    exact s_fstr (pjOf (C := C) (fun e t => ih X W G e t) e1)
  | FormattedValue a k f p =>
    cases f with
    | none =>
      simp only [trE] at h
      split at h
      · rename_i hk
        have := eq_of_beq hk
        subst this
        rw [Option.map_eq_some_iff] at h
        obtain ⟨t1, e1, rfl⟩ := h
        exact congE (s_fmt (ih X W G _ _ e1)) fun env h => by simp only [ev]
      · cases h
    | some f => simp only [trE, reduceCtorEq] at h
  | _ => simp only [trE, reduceCtorEq] at h
end
end Ip

/-! Ip, part K: tests; statements. -/
namespace Ip
open PySem PySem.Spec PyProof.Rows L2
section
variable {ct : Cf} {C : CallT}
theorem stepT {n : Nat} (ihE : ShE ct C (n + 1)) (ih : ShE ct C n) (iht : ShT ct C n) : ShT ct C (n + 1) := by
  intro X W G e t h
  cases e with
  | UnaryOp o a p =>
    cases o
    case Not =>
      simp only [trE, Option.map_eq_some_iff] at h
      obtain ⟨t1, e1, rfl⟩ := h
      exact congT (s_notT (iht X W G _ _ e1)) evT_not
    case USub => exact s_val (ihE X W G _ _ h) fun _ => rfl
    all_goals simp only [trE, reduceCtorEq] at h
  | BoolOp o es p =>
    rcases es with _ | ⟨a, _ | ⟨b, r⟩⟩ <;> simp only [trE, reduceCtorEq, Option.bind_eq_some_iff] at h
    obtain ⟨us, e1, e2⟩ := h
    exact (s_boT iht G e1 e2).pt
  | Compare a ops bs p =>
    rcases ops with _ | ⟨o, _ | ⟨o', _ | ⟨o'', ops⟩⟩⟩ <;> rcases bs with _ | ⟨b1, _ | ⟨b2, _ | ⟨b3, bs⟩⟩⟩ <;> try (simp only [trE, reduceCtorEq] at h; done)
    · simp only [trE] at h
      split at h
      · rename_i e1 e2 e3
        cases h
        rw [← copOf_I o]
        exact congT (s_cmpT G.toGood (ih X W G _ _ e2) (ih X W G _ _ e3) (nomark_of e1)) fun env h => by simp only [evT, ev, copOf_I]
      · cases h
    · simp only [trE] at h
      split at h
      · rename_i e1 e2 e3 e4
        cases h
        rw [← copOf_I o, ← copOf_I o']
        refine weakT (pt_chain (r_cmp (W := W) G.toGood (copI o)) (r_cmp (W := W) G.toGood (copI o')) (ih X W G _ _ e2) (ih X W G _ _ e3) (ih X W G _ _ e4) (lastmark_of e1)) fun sg H Q q => ?_
        show tChain _ _ _ _ _ sg H _
        refine tChain_of ?_
        obtain ⟨env, h, mu, re, rh, q⟩ := q
        refine ⟨env, h, mu, re, rh, ?_⟩
        simp only [copOf_I] at q
        simp only [evT, ev] at q
        exact q.bind.mono fun d mu1 H1 h1 x1 r1 q1 v rv => asB_of r1 rv q1
      · cases h
  | IfExp c a b p =>
    simp only [trE] at h
    split at h
    · rename_i x y z e1 e2 e3
      cases h
      refine ⟨fun pins s sg H Q I q => ?_⟩
      show wpAny _ _ (do if ← isTrue c X.env (eval c X.env) then isTrue a X.env (eval a X.env) else isTrue b X.env (eval b X.env)) _ _ _
      have q' : tT X.K W (evT C x) sg H (fun k H1 => if k = true then tT X.K W (evT C y) sg H1 Q else tT X.K W (evT C z) sg H1 Q) := by
        obtain ⟨env, h, mu, re, rh, q⟩ := q
        have e4 : evT C (.ite x y z) env h = (evT C x env h).bind fun k h2 => if k = true then evT C y env h2 else evT C z env h2 := by
          simp only [evT, ev, bind_assoc]
          congr 1
          funext d h1
          congr 1
          funext k h2
          cases k <;> rfl
        rw [e4] at q
        refine ⟨env, h, mu, re, rh, q.bind.mono fun k mu1 H1 h1 x1 r1 q2 => ?_⟩
        cases k with
        | true => rw [if_pos rfl] at q2 ⊢; exact ⟨env, h1, mu1, re.mono x1, r1, q2⟩
        | false => rw [if_neg Bool.false_ne_true] at q2 ⊢; exact ⟨env, h1, mu1, re.mono x1, r1, q2⟩
      refine wpAny_bind (thn ((iht X W G _ _ e1).run pins s sg H _ I q') fun k s1 ⟨H1, I1, q1⟩ => ?_)
      cases k with
      | true => rw [if_pos rfl] at q1; exact (iht X W G _ _ e2).run pins s1 sg H1 Q I1 q1
      | false => rw [if_neg Bool.false_ne_true] at q1; exact (iht X W G _ _ e3).run pins s1 sg H1 Q I1 q1
    · cases h
  | _ => exact s_val (ihE X W G _ _ h) fun _ => rfl
theorem snd_all : ∀ n, (∀ m, m ≤ n → ShE ct C m) ∧ ShT ct C n
  | 0 => by
    refine ⟨fun m hm X W G e t h => ?_, fun X W G e t h => ?_⟩
    · have : m = 0 := by omega
      subst this
      cases h
    · cases h
  | n + 1 => by
    obtain ⟨h1, h2⟩ := snd_all n
    have e := stepE (h1 n (Nat.le_refl n)) h2 fun m hm => h1 m (Nat.le_of_lt hm)
    refine ⟨fun m hm => ?_, stepT e (h1 n (Nat.le_refl n)) h2⟩
    rcases Nat.lt_or_ge m (n + 1) with l | l
    · exact h1 m (by omega)
    · have : m = n + 1 := by omega
      subst this
      exact e
theorem sndE (n : Nat) : ShE ct C n := (snd_all n).1 n (Nat.le_refl n)
theorem sndT (n : Nat) : ShT ct C n := (snd_all n).2

/-! ### what is asked of a caught exception -/
theorem isaB_mem {c t : Str} {b : Bool} (h : isaB ct c t = some b) : (c, t, b) ∈ ct.isa := by
  unfold isaB at h
  rw [Option.map_eq_some_iff] at h
  obtain ⟨p, hp, rfl⟩ := h
  have h1 := List.find?_some hp
  have h2 := List.mem_of_find?_eq_some hp
  simp only [Bool.and_eq_true, beq_iff_eq] at h1
  obtain ⟨h3, h4⟩ := h1
  rw [← h3, ← h4]
  exact h2
theorem names_isa {X : Cx} {W : EX} (G : Good2 X ct C W) {B : Str} (h : (ct.exs.any fun c' => isaB ct c' B == some true) = true) (hg : isGl X.env.scope B = true) (ok : okName B = true) : ∃ Bv, CvIs X.mg B Bv ∧ Names X B Bv := by
  rw [List.any_eq_true] at h
  obtain ⟨c', _, h⟩ := h
  obtain ⟨D, v, _, _, hv, _⟩ := G.isa _ _ _ (isaB_mem (beq_iff_eq.mp h))
  refine ⟨v, hv, gl_of hg, (okName_of ok).1, ?_⟩
  rcases hv with ⟨C, rfl, h1⟩ | ⟨n, rfl, h1, h2, h3⟩
  · exact .inl h1
  · exact .inr ⟨h1, h2, h3⟩
theorem isa_one {X : Cx} {W : EX} (G : Good2 X ct C W) {c t : Str} {b : Bool} {D : Addr} (hc : X.mg c = some (.ref D)) (h : (if isGl X.env.scope t && okName t then isaB ct c t else none) = some b) : ∃ v, CvIs X.mg t v ∧ PySem.W.kitOne X.K (.ref D) v = some b ∧ Gl X t ∧ (t == ("__debug__" : Str)) = false := by
  split at h
  · rename_i hb
    simp only [Bool.and_eq_true] at hb
    obtain ⟨D', v, h1, _, hv, _, hk⟩ := G.isa _ _ _ (isaB_mem h)
    rw [hc] at h1
    cases h1
    exact ⟨v, hv, hk, gl_of hb.1, (okName_of hb.2).1⟩
  · cases h
theorem nms_ok {X : Cx} {W : EX} (G : Good2 X ct C W) {c : Str} {D : Addr} (hc : X.mg c = some (.ref D)) : ∀ {es : List Expr} {ts : List Str} {bs : List Bool}, mapO nmOf es = some ts → mapO (fun t => if isGl X.env.scope t && okName t then isaB ct c t else none) ts = some bs → ∃ vs, NmsE X es vs ∧ PySem.W.kitAny X.K (.ref D) vs = some (bs.any id) ∧ es.length = ts.length
  | [], ts, bs, h1, h2 => by
    have := mapO_nil h1
    subst this
    have := mapO_nil h2
    subst this
    exact ⟨[], .nil, rfl, rfl⟩
  | e :: es, ts, bs, h1, h2 => by
    obtain ⟨t, ts', rfl, a1, a2⟩ := mapO_cons h1
    obtain ⟨b, bs', rfl, c1, c2⟩ := mapO_cons h2
    obtain ⟨vs, n1, n2, n3⟩ := nms_ok G hc a2 c2
    unfold nmOf at a1
    split at a1
    · cases a1
      obtain ⟨v, hv, hk, g, d⟩ := isa_one G hc c1
      refine ⟨v :: vs, .cons hv g d n1, ?_, by simp [n3]⟩
      unfold PySem.W.kitAny
      rw [hk]
      cases b with
      | true => simp
      | false => simpa using n2
    · cases a1
theorem tst_ok {X : Cx} {W : EX} (G : Good2 X ct C W) {n c : Str} {D : Addr} (hc : X.mg c = some (.ref D)) {e : Expr} {q : Str ⊕ List Str} {b : Bool} (h1 : tstOf n e = some q) (h2 : tstB ct X.env.scope c q = some b) : TstE X n D e b := by
  unfold tstOf at h1
  split at h1
  · split at h1
    · rename_i hb
      simp only [Bool.and_eq_true, beq_iff_eq] at hb
      obtain ⟨rfl, rfl⟩ := hb
      cases h1
      obtain ⟨v, hv, hk, g, d⟩ := isa_one G hc h2
      exact .one hv hk g d
    · cases h1
  · split at h1
    · rename_i hb
      simp only [Bool.and_eq_true, beq_iff_eq] at hb
      obtain ⟨rfl, rfl⟩ := hb
      rw [Option.map_eq_some_iff] at h1
      obtain ⟨ts, a1, rfl⟩ := h1
      simp only [tstB] at h2
      split at h2
      · rename_i hl
        rw [Option.map_eq_some_iff] at h2
        obtain ⟨bs, a2, rfl⟩ := h2
        obtain ⟨vs, n1, n2, n3⟩ := nms_ok G hc a1 a2
        exact .tup n1 n2 (by omega)
      · cases h2
    · cases h1
  · cases h1
theorem all_ok {X : Cx} {W : EX} (G : Good2 X ct C W) {n c : Str} {D : Addr} (hc : X.mg c = some (.ref D)) : ∀ {es : List Expr} {qs : List (Str ⊕ List Str)} {bs : List Bool}, mapO (tstOf n) es = some qs → mapO (tstB ct X.env.scope c) qs = some bs → AllT X n D es bs
  | [], qs, bs, h1, h2 => by
    have := mapO_nil h1
    subst this
    have := mapO_nil h2
    subst this
    exact .nil
  | e :: es, qs, bs, h1, h2 => by
    obtain ⟨q, qs', rfl, a1, a2⟩ := mapO_cons h1
    obtain ⟨b, bs', rfl, c1, c2⟩ := mapO_cons h2
    exact .cons (tst_ok G hc a1 c1) (all_ok G hc a2 c2)
theorem cs_ok {X : Cx} {W : EX} (G : Good2 X ct C W) {B n : Str} {Bv : Value} (hB : CvIs X.mg B Bv) {es : List Expr} {qs : List (Str ⊕ List Str)} (h1 : mapO (tstOf n) es = some qs) {c' : Str} {bs : List Bool} (h : (csOf ct X.env.scope B qs).lookup c' = some bs) :
    ∃ D, X.mg c' = some (.ref D) ∧ PySem.W.exmOne X.K (.ref D) Bv = some true ∧ ExcC X.K D ∧ AllT X n D es bs := by
  obtain ⟨l1, l2, e, _⟩ := List.lookup_eq_some_iff.mp h
  have hm : (c', bs) ∈ csOf ct X.env.scope B qs := by rw [e]; simp
  unfold csOf at hm
  rw [List.mem_filterMap] at hm
  obtain ⟨c, _, hm⟩ := hm
  split at hm
  · rename_i hi
    rw [Option.map_eq_some_iff] at hm
    obtain ⟨bs', a2, hm⟩ := hm
    cases hm
    obtain ⟨D, v, hc, hC, hv, hx, _⟩ := G.isa _ _ _ (isaB_mem hi)
    have := hv.uniq hB
    subst this
    exact ⟨D, hc, hx, hC, all_ok G hc h1 a2⟩
  · cases hm
/-! ### statements -/
structure Good3 (X : Cx) (ct : Cf) (C : CallT) (W : EX) : Prop extends Good2 X ct C W where
  fn : ∀ x, X.fn x = true
  psn : PassesOwn (model X.prog X.w) X.A X.env X.xe
  stk : X.stack = X.env :: X.outer
  frm : X.env.frame = some X.env.locals
theorem Good3.tg {X : Cx} {W : EX} (G : Good3 X ct C W) (x : Str) (h : isOwn X.env.scope x = true) : Loc X.env.scope x ∧ (X.fn x = true ∨ X.env.scope.names.lookup x = some .local) := ⟨own_of h, .inl (G.fn x)⟩
theorem Good3.nox {X : Cx} {W : EX} (G : Good3 X ct C W) : Good3 X.nox ct C W0 := { G.toGood2.nox with fn := G.fn, psn := PassesOwn.never, stk := G.stk, frm := G.frm }
theorem Good3.try_ {X : Cx} {W : EX} (G : Good3 X ct C W) {w : WX} {pn : List (Addr × Obj)} {xe : Value → Shared → Prop} (tk : Takes (X.tr pn xe) w) (ps : PassesOwn (model X.prog X.w) X.A X.env xe) : Good3 (X.tr pn xe) ct C (exW X.N X.mg w) where
  nd := G.nd
  calm := G.calm
  kind := G.kind
  units := G.units
  units5 := G.units5
  guards := G.guards
  pyl := G.pyl
  con := G.con
  bi := G.bi
  rev := G.rev
  set := G.set
  ty := G.ty
  call := G.call
  met := G.met
  mks := G.mks
  exc := G.exc
  isa := G.isa
  tk := takes_exW (X := X.tr pn xe) tk
  fn := G.fn
  psn := ps
  stk := G.stk
  frm := G.frm
theorem neverS {X : Cx} {W : EX} {st : Stmt} : PS X st (tS X.K W fun _ _ => .stuck) := ⟨fun pins s sg H D I q => by
  obtain ⟨env, h, mu, re, rh, q⟩ := q
  exact q.elim⟩
theorem swN {e : Expr} {t : Option Expr} {l : Nat} {env : PySem.Env} (h : isCompB e = false) : swapsWith e t l env = pure false := by
  cases e <;> first | rfl | (simp [isCompB] at h)
theorem swT {tg e : Expr} {env : PySem.Env} (h : (match tg with | .Tuple .. | .List .. => isTupB e | _ => false) = false) : swappedStores [tg] e env = pure none := by
  cases tg <;> first | rfl | (cases e <;> first | rfl | (simp [isTupB] at h))
theorem asg1 {tg : Expr} {env : PySem.Env} (h : ∀ t p, tg ≠ .Starred t p) : (assignEach [tg] env).map (·.2) = [assign tg env] := by
  cases tg <;> first | rfl | (exact absurd rfl (h _ _))
theorem blockFn {env : PySem.Env} (h : env.scope.kind = .function) : env.blockKind = .function := by
  unfold Env.blockKind
  rw [h]
  rfl
/-- a, b = c, d of plain names -/
theorem swPar {x y : Str} {px py pt pt2 : Pos} {k k2 : Nat} {a b : Expr} {env : PySem.Env} (hk : env.scope.kind = .function) (hx : env.scope.names.lookup x = some .local) (hy : env.scope.names.lookup y = some .local) (hl : (py.line == px.line) = true) (hxy : (x != y) = true)
    (h1 : ([a, b].all (foldedForSure 8)) = false) (h2 : ([a, b].all (constantsAlone 8)) = false) (hs : ∀ es, starEach (a :: es) env = (false, eval a env) :: starEach es env) (hs2 : ∀ es, starEach (b :: es) env = (false, eval b env) :: starEach es env) :
    swappedStores [.Tuple [.Name x px, .Name y py] k pt] (.Tuple [a, b] k2 pt2) env = pure (some [x, y]) := by
  have hb := blockFn hk
  have kx : env.kindOf x = some .local := hx
  have ky : env.kindOf y = some .local := hy
  have hne : x ≠ y := by simpa using hxy
  unfold swappedStores
  have e1 : ([x, y] : List Str).eraseDups.length = 2 := by
    have : (y == x) = false := by simpa using fun e => hne e.symm
    simp [List.eraseDups_cons, this]
  simp only [List.length_cons, List.length_nil, hb, List.any_cons, List.any_nil, List.head?_cons, Option.map_some, Option.getD_some, Expr.pos, List.filterMap_cons, List.filterMap_nil, kx, ky, hl, h1, h2, e1, beq_self_eq_true, Bool.and_self, Bool.and_true, if_true]
  rw [if_neg (by decide), if_neg ?_]
  · rfl
  · intro q
    rw [Bool.or_eq_true] at q
    rcases q with q | q
    · cases a <;> first | (cases q; done) | (have := hs []; simp [starEach] at this)
    · rw [Bool.or_false] at q
      cases b <;> first | (cases q; done) | (have := hs2 []; simp [starEach] at this)
/-- name = e -/
theorem s_asgName {n : Nat} {X : Cx} {W : EX} (G : Good3 X ct C W) {x : Str} {px p : Pos} {e : Expr} {t tt : Ex} (e1 : trT X.N (isOwn X.env.scope) (.Name x ⟨0, 0, 0, 0⟩) = some tt) (e2 : trE n X.N ct X.env.scope e = some t) :
    PS X (.Assign [.Name x px] e p) (tS X.K W (evS C (.asg tt t))) := by
  have e1' : trT X.N (isOwn X.env.scope) (.Name x px) = some tt := e1
  obtain ⟨g1, g2⟩ := s_tg G.toGood G.tg e1'
  have gen : swapsWith e (some (.Name x px)) p.line X.env = pure false → PS X (.Assign [.Name x px] e p) (tS X.K W (evS C (.asg tt t))) := fun hs => by
    have := s_asg (pos := p) (sndE (ct := ct) (C := C) n X W G.toGood2 _ _ e2) (s_gN (C := C) (W := W) g1 g2) hs rfl rfl
    have eq : (evS C (.asg tt t)) = fun env h => (ev C t env h).bind fun d h1 => (evA C tt d env h1).bind fun e1 h2 => .ok (.nx e1) h2 := by
      funext env h
      simp only [evS]
    rw [eq]
    exact this
  by_cases hc : isCompB e = false
  · exact gen (swN hc)
  · cases e <;> first | (exact absurd rfl hc) | skip
    case ListComp elt gs scope pos =>
      cases n with
      | zero => cases e2
      | succ n =>
        have sw : swapsWith (.ListComp elt gs scope pos) (some (.Name x px)) p.line X.env = pure (X.env.blockKind == .function && X.env.kindOf x == some .local && px.line == pos.line && !(scope.names.any fun (n, k) => n == x && (k == .local || k == .cell))) := rfl
        cases hb : (X.env.blockKind == .function && X.env.kindOf x == some .local && px.line == pos.line && !(scope.names.any fun (n, k) => n == x && (k == .local || k == .cell))) with
        | false =>
          rw [hb] at sw
          exact gen sw
        | true =>
          rw [hb] at sw
          simp only [Bool.and_eq_true] at hb
          have hl : X.env.scope.names.lookup x = some .local := by
            have := hb.1.1.2
            have h2 : X.env.kindOf x = some .local := by
              cases h3 : X.env.kindOf x with
              | none => rw [h3] at this; cases this
              | some k => rw [h3] at this; cases k <;> first | rfl | (cases this)
            exact h2
          obtain ⟨tg, iter, ifs, own, mi, tt', mc, me, rfl, a1, a2, a3, a4, a5, a6, a7, a8⟩ := sndLc (sndE n) (sndT n) (fun m _ => sndE m) G.toGood2 e2
          have : ∃ i, tt = .var i ∧ X.N[i]? = some x := by
            unfold trT at e1
            simp only at e1
            split at e1
            · rw [Option.map_eq_some_iff] at e1
              obtain ⟨i, e3, rfl⟩ := e1
              exact ⟨i, rfl, slot_of e3⟩
            · cases e1
          obtain ⟨i, rfl, hi⟩ := this
          have r := s_setLc (spos := p) G.toGood2 hi hl sw a1 a2 a3 a4 a5 a6 a7
          have eq : (evS C (.asg (.var i) t)) = fun env h => (ev C t env h).bind fun d h1 => (evA C (.var i) d env h1).bind fun e1 h2 => .ok (.nx e1) h2 := by
            funext env h
            simp only [evS]
          have eq2 : ev C t = fun env h => (mi env h).bind fun x h1 => (lcL (eltO mc me tt' (own.map (·.2)) env) x.2 x.1 h1).bind fun ys h2 => mkL ys h2 := by
            funext env h
            exact a8 env h
          rw [eq, eq2]
          exact r
    all_goals (cases n <;> simp only [trE, reduceCtorEq] at e2)
abbrev ShS (ct : Cf) (C : CallT) (n : Nat) : Prop := ∀ (X : Cx) (W : EX), Good3 X ct C W → ∀ s t, trS n X.N ct X.env.scope s = some t → PS X s (tS X.K W (evS C t))
theorem congS {X : Cx} {W : EX} {e : Stmt} {m m' : Env → Hh → Out Fl} (h : PS X e (tS X.K W m)) (eq : ∀ env h, m' env h = m env h) : PS X e (tS X.K W m') := by
  have : m' = m := funext fun env => funext fun h => eq env h
  rw [this]
  exact h
theorem s_block {X : Cx} {W : EX} {n : Nat} (ih : ∀ s t, trS n X.N ct X.env.scope s = some t → PS X s (tS X.K W (evS C t))) : ∀ {ss : List Stmt} {ts : List Stt}, mapO (trS n X.N ct X.env.scope) ss = some ts → PSs X ss (tS X.K W (evSs C ts))
  | [], ts, h => by
    cases mapO_nil h
    exact weakSs s_nil_ fun Dn sg H q => by
      obtain ⟨env, h, mu, re, rh, q⟩ := q
      simp only [evSs] at q
      exact ⟨env, h, mu, re, rh, q⟩
  | s :: ss, ts, h => by
    obtain ⟨t1, ts1, rfl, h1, h2⟩ := mapO_cons h
    exact weakSs (s_seq (ih _ _ h1) (s_block ih h2)) fun Dn sg H q => by
      obtain ⟨env, h, mu, re, rh, q⟩ := q
      simp only [evSs] at q
      exact ⟨env, h, mu, re, rh, q⟩
theorem star1 {n : Nat} {N : List Str} {sc : Scope} {e : Expr} {t : Ex} {env : PySem.Env} (h : trE n N ct sc e = some t) (es : List Expr) : starEach (e :: es) env = (false, eval e env) :: starEach es env := star_of h es env
theorem stepS {n : Nat} (ih : ShS ct C n) : ShS ct C (n + 1) := by
  intro X W G s t h
  have iE := sndE (ct := ct) (C := C) n X W G.toGood2
  have iT := sndT (ct := ct) (C := C) n X W G.toGood2
  have iS := fun s t => ih X W G s t
  cases s with
  | Pass p => cases h; exact congS s_pass fun _ _ => by simp only [evS]
  | Break p => cases h; exact congS s_brk fun _ _ => by simp only [evS]
  | Continue p => cases h; exact congS s_cnt fun _ _ => by simp only [evS]
  | Return o p =>
    cases o with
    | none => cases h; exact congS s_retN fun _ _ => by simp only [evS]
    | some e =>
      simp only [trS, Option.map_eq_some_iff] at h
      obtain ⟨t1, e1, rfl⟩ := h
      exact congS (s_ret (iE _ _ e1)) fun _ _ => by simp only [evS]
  | Expr e p =>
    simp only [trS] at h
    split at h
    · rename_i hc
      simp only [Bool.not_eq_true'] at hc
      rw [Option.map_eq_some_iff] at h
      obtain ⟨t1, e1, rfl⟩ := h
      exact congS (s_expr (iE _ _ e1) (swN hc)) fun _ _ => by simp only [evS]
    · cases h
  | While c body orelse p =>
    rcases orelse with _ | ⟨o, os⟩
    · simp only [trS] at h
      split at h
      · rename_i e1 e2
        cases h
        exact congS (s_while G.psn (iT _ _ e1) (s_block iS e2)) fun _ _ => by simp only [evS]
      · cases h
    · simp only [trS, reduceCtorEq] at h
  | If c a b p =>
    simp only [trS] at h
    split at h
    · rename_i e1 e2 e3
      cases h
      exact congS (s_if (iT _ _ e1) (s_block iS e2) (s_block iS e3)) fun _ _ => by simp only [evS]
    · cases h
  | For tg it body orelse p =>
    rcases orelse with _ | ⟨o, os⟩
    · simp only [trS] at h
      split at h
      · rename_i hns
        split at h
        · rename_i e1 e2 e3
          split at h
          · rename_i htg
            cases h
            obtain ⟨g1, g2⟩ := s_tg G.toGood G.tg e1
            exact congS (s_for G.toGood G.psn (sndI (sndE n) (fun m _ => sndE m) G.toGood2 e2 htg) (s_gN (C := C) g1 g2) (s_block iS e3) fun x => folded_of X.env hns x) fun _ _ => by simp only [evS]
          · cases h
        · cases h
      · cases h
    · simp only [trS, reduceCtorEq] at h
  | AugAssign tg o e p =>
    cases tg with
    | Name x px =>
      cases o <;> simp only [trS, reduceCtorEq] at h
      split at h
      · rename_i hx
        split at h
        · rename_i e1 e2
          cases h
          exact congS (s_aug G.toGood (slot_of e1) (G.tg x hx) (iE _ _ e2)) fun _ _ => by first | (simp only [evS]; done) | (simp only [evS]; rfl)
        · cases h
      · cases h
    | Subscript o' i px =>
      cases o <;> simp only [trS, reduceCtorEq] at h
      split at h
      · rename_i hi
        split at h
        · rename_i e1 e2 e3
          cases h
          refine congS (s_augS (iE _ _ e1) (iE _ _ e2) (iE _ _ e3) ?_) fun _ _ => by simp only [evS]
          cases i <;> first | (intros; rfl) | (simp [notSlice] at hi)
        · cases h
      · cases h
    | _ => cases o <;> simp only [trS, reduceCtorEq] at h
  | Assign tgs e p =>
    rcases tgs with _ | ⟨tg, _ | ⟨tg2, tgs⟩⟩
    · simp only [trS, reduceCtorEq] at h
    · cases tg with
      | Name x px =>
        simp only [trS] at h
        split at h
        · rename_i e1 e2
          cases h
          exact s_asgName G e1 e2
        · cases h
      | Attribute o f px =>
        simp only [trS] at h
        split at h
        · rename_i hb
          simp only [Bool.and_eq_true, Bool.not_eq_true'] at hb
          split at h
          · rename_i e1 e2
            cases h
            exact congS (s_sfld (iE _ _ e2) (iE _ _ e1) (List.contains_iff_mem.mp hb.1) (swN hb.2)) fun _ _ => by simp only [evS]
          · cases h
        · cases h
      | Subscript o i px =>
        simp only [trS] at h
        split at h
        · rename_i hb
          simp only [Bool.and_eq_true, Bool.not_eq_true'] at hb
          split at h
          · rename_i e1 e2 e3
            cases h
            refine congS (s_asg (iE _ _ e3) (s_gsub (C := C) (W := W) (iE _ _ e1) (iE _ _ e2) ?_) (show swapsWith e (some (.Subscript o i px)) p.line X.env = pure false from swN hb.2) (swT rfl) rfl) fun _ _ => by simp only [evS]
            have hi := hb.1
            cases i <;> first | (intros; rfl) | (simp [notSlice] at hi)
          · cases h
        · cases h
      | Tuple ts k pt =>
        have other : (if !isTupB e && !isCompB e then match trT X.N (isOwn X.env.scope) (.Tuple ts k pt), trE n X.N ct X.env.scope e with
            | some tt, some t => some (Stt.asg tt t)
            | _, _ => none else none) = some t → PS X (.Assign [.Tuple ts k pt] e p) (tS X.K W (evS C t)) := fun h => by
          split at h
          · rename_i hb
            simp only [Bool.and_eq_true, Bool.not_eq_true'] at hb
            split at h
            · rename_i e1 e2
              cases h
              obtain ⟨g1, g2⟩ := s_tg G.toGood G.tg e1
              exact congS (s_asg (iE _ _ e2) (s_gN (C := C) (W := W) g1 g2) (show swapsWith e (some (.Tuple ts k pt)) p.line X.env = pure false from swN hb.2) (swT hb.1) rfl) fun _ _ => by simp only [evS]
            · cases h
          · cases h
        by_cases hp : ∃ x px y py a b k2 p2, ts = [.Name x px, .Name y py] ∧ e = .Tuple [a, b] k2 p2
        · obtain ⟨x, px, y, py, a, b, k2, p2, rfl, rfl⟩ := hp
          simp only [trS] at h
          split at h
          · rename_i hb
            simp only [Bool.and_eq_true, Bool.not_eq_true'] at hb
            split at h
            · rename_i e1 e2 e3 e4
              cases h
              have lk : ∀ {z : Str}, (X.env.scope.names.lookup z == some .local) = true → X.env.scope.names.lookup z = some .local := fun {z} q => by
                cases h3 : X.env.scope.names.lookup z with
                | none => rw [h3] at q; cases q
                | some k => rw [h3] at q; cases k <;> first | rfl | (cases q)
              have hx := lk hb.1.1.1.1.1
              have hy := lk hb.1.1.1.1.2
              have hxy := hb.1.1.2
              have hne : x ≠ y := by simpa using hxy
              have hij : _ ≠ _ := fun z => hne (Option.some.inj ((slot_of e1).symm.trans ((congrArg (X.N[·]?) z).trans (slot_of e2))))
              have hA := s_args (C := C) iE (es := [a, b]) (by unfold mapO; rw [e3]; unfold mapO; rw [e4]; rfl)
              refine congS (s_par (C := C) G.toGood (slot_of e1) (slot_of e2) hij hx hy hA (swPar G.kind hx hy hb.1.1.1.2 hxy hb.1.2 hb.2 (fun es => star1 e3 es) (fun es => star1 e4 es)) rfl) fun _ _ => by simp only [evS, ev]
            · cases h
          · cases h
        · refine other ?_
          unfold trS at h
          split at h <;> first | (cases h; done) | (rename_i heq; cases heq <;> first | exact h | exact (hp ⟨_, _, _, _, _, _, _, _, rfl, rfl⟩).elim)
      | _ => simp only [trS, reduceCtorEq] at h
    · cases tg <;> simp only [trS, reduceCtorEq] at h
  | Try body hs orelse fin p =>
    rcases hs with _ | ⟨h₀, hs⟩
    · simp only [trS, reduceCtorEq] at h
    · rcases orelse with _ | ⟨o, os⟩
      · rcases fin with _ | ⟨o, os⟩
        · have thru : ∀ {t : Stt}, (mapO (trS n X.N ct X.env.scope) body).map Stt.tr = some t → PS X (.Try body (h₀ :: hs) [] [] p) (tS X.K W (evS C t)) := fun {t} h => by
            rw [Option.map_eq_some_iff] at h
            obtain ⟨ts, e1, rfl⟩ := h
            exact congS (s_try (s_block (X := X.nox) (fun s t => ih X.nox W0 G.nox s t) e1)) fun _ _ => by simp only [evS]
          simp only [trS] at h
          split at h
          · rename_i c x s e0
            split at h
            · rename_i hb
              simp only [Bool.and_eq_true] at hb
              split at h
              · rename_i i b e1 e2
                cases h
                obtain ⟨np, px, j, p2, pos3, pos', e3⟩ := tryH_of e0
                rw [e3]
                exact congS (s_tryX G.stk G.frm G.nd (slot_of e1) (own_of hb.2) (.inl (G.fn x)) (G.exc c hb.1.1.1) (gl_of hb.1.1.2) (okName_of hb.1.2).1
                  (fun w pn xe tk psn => s_block (X := X.tr pn xe) (fun s t => ih (X.tr pn xe) _ (G.try_ tk psn) s t) e2)) fun _ _ => by simp only [evS]
              · cases h
            · exact thru h
          · split at h
            · rename_i c en x qs e0
              split at h
              · rename_i hb
                simp only [Bool.and_eq_true, Bool.not_eq_true', beq_iff_eq] at hb
                obtain ⟨⟨⟨⟨⟨⟨⟨b1, b2⟩, b3⟩, b4⟩, b5⟩, b6⟩, b7⟩, b8⟩ := hb
                obtain ⟨Bv, hcv, hB⟩ := names_isa G.toGood2 b8 b2 b3
                split at h
                · rename_i j i b e1 e2 e3
                  cases h
                  obtain ⟨np, px, es, pl, pos3, pos', e4, e5⟩ := tryQ_of e0
                  rw [e4]
                  have hij : i ≠ j := fun z => by
                    subst z
                    have := (slot_of e1).symm.trans (slot_of e2)
                    have := Option.some.inj this
                    rw [this] at b7
                    simp at b7
                  exact congS (s_tryK (Bv := Bv) G.stk G.frm G.nd (slot_of e2) (own_of b4) (.inl (G.fn x)) (slot_of e1) b1 hij (okName_of b5).1 (okName_of b5).2 hB (gl_of b6) (G.bi .isinst)
                      (fun c' bs hc => cs_ok G.toGood2 hcv e5 hc)
                      (fun w pn xe tk psn => s_block (X := X.tr pn xe) (fun s t => ih (X.tr pn xe) _ (G.try_ tk psn) s t) e3)) fun _ _ => by simp only [evS]
                · cases h
              · exact thru h
            · exact thru h
        · simp only [trS, reduceCtorEq] at h
      · simp only [trS, reduceCtorEq] at h
  | Raise e f p =>
    simp only [trS] at h
    split at h
    · rename_i c e0
      split at h
      · rename_i hb
        simp only [Bool.and_eq_true] at hb
        cases h
        obtain ⟨p1, m, j, p2, pos, rfl, rfl⟩ := raiseC_of e0
        exact congS (s_raise G.calm G.tk (G.exc c hb.1.1) (gl_of hb.1.2) (okName_of hb.2).1) fun _ _ => by simp only [evS]
      · cases h
        exact congS neverS fun _ _ => by simp only [evS]
    · cases h
      exact congS neverS fun _ _ => by simp only [evS]
  | _ => simp only [trS, reduceCtorEq] at h
end
end Ip

/-! Ip, part Q: x = dict(zip(a, b)); x.update(y); bodies. -/
namespace Ip
open PySem PySem.Spec PyProof.Rows L2
section
variable {ct : Cf} {C : CallT}
theorem sndS' : ∀ n, ShS ct C n
  | 0 => fun X W G s t h => by cases h
  | n + 1 => stepS (sndS' n)
theorem pss_dzu {X : Cx} {W : EX} (G : Good X) {i j : Nat} {x y : Str} {a b : Expr} {ta tb : Ex} {p p2 pos pos2 px pa q1 q2 apos cpos p3 : Pos} {rest : List Stmt} {m' : Env → Hh → Out Fl}
    (hi : X.N[i]? = some x) (hj : X.N[j]? = some y) (hij : i ≠ j) (hx : Loc X.env.scope x) (hf : X.fn x = true ∨ X.env.scope.names.lookup x = some .local) (vx : Vis X.env.scope x) (vy : Vis X.env.scope y) (ox : okName x = true) (oy : okName y = true)
    (hg : Gl X "dict") (hm : X.mg "dict" = none) (hg2 : Gl X "zip") (hm2 : X.mg "zip" = none) (ha : PA X [a, b] (tA X.K W (evs C [ta, tb])))
    (na : starEach [a, b] X.env = (false, eval a X.env) :: starEach [b] X.env) (hpl : (backTo pos2 (starEach [b] X.env)).any (·.1) = false) (hl : (apos.endLine == cpos.line) = true) (hr : PSs X rest (tS X.K W m')) :
    PSs X (.Assign [.Name x px] (.Call (.Name "dict" p) [.Call (.Name "zip" p2) [a, b] [] pos2] [] pos) pa :: .Expr (.Call (.Attribute (.Name x q1) "update" apos) [.Name y q2] [] cpos) p3 :: rest)
      (tS X.K W fun env h => (evS C (.dzu i ta tb j) env h).bind fun fl h1 => match fl with | .nx e => m' e h1 | o => .ok o h1) := by
  obtain ⟨dx, cx⟩ := okName_of ox
  obtain ⟨dy, cy⟩ := okName_of oy
  have s1 := ps_set (pos := pa) (pos' := px) G.nd hi hx (pe_DZ G.calm hg hm hg2 hm2 ha na hpl rfl (p := p) (p2 := p2) (pos := pos)) rfl hf
  have s2 := ps_expr (pos := p3) (pe_bm (cpos := cpos) (apos := apos) F.plainAttrs_dict F.slot_dict_update F.type_dict_update mt_update (pe_var (pos := q1) hi vx dx cx) (pa_cons (pe_var (pos := q2) hj vy dy cy) pa_nil) rfl rfl hl rfl rfl)
  refine weakSs (pss_cons s1 (pss_cons s2 (pss_frz hr))) fun Dn sg H q => ?_
  obtain ⟨env, h, mu, re, rh, q⟩ := q
  simp only [evS] at q
  rw [bind_assoc] at q
  refine ⟨env, h, mu, re, rh, q.bind.mono fun ds mu1 H1 h1 x1 r1 q1 vs rs => ?_⟩
  cases ez : env[j]? with
  | none => rw [ez] at q1; exact False.elim q1
  | some oz =>
    cases oz with
    | none => rw [ez] at q1; exact False.elim q1
    | some z =>
      rw [ez] at q1
      cases ey : env[i]? with
      | none => rw [ey] at q1; exact False.elim q1
      | some oy =>
      rw [ey] at q1
      simp only at q1
      rw [bind_assoc] at q1
      unfold dzuL at q1
      split at q1 <;> first | exact False.elim q1 | skip
      rename_i d1 d2
      unfold dzuD at q1
      split at q1 <;> first | exact False.elim q1 | skip
      rename_i n m ks2 vs2
      split at q1 <;> first | exact False.elim q1 | skip
      rename_i xs ys g1 g2
      split at q1 <;> first | exact False.elim q1 | skip
      rename_i ks g3
      by_cases hn : ks.length = ys.length ∧ (ks ++ ks2).Nodup ∧ (ks ++ ks2).length ≤ sizeLine
      case neg => rw [need_neg hn] at q1; exact False.elim q1
      rw [need_pos hn] at q1
      simp only [Out.bind_ok] at q1
      obtain ⟨n1, n2, n3⟩ := hn
      have rz : ∃ v, sg[j]? = some (some v) ∧ Rep X.K mu1 H1 (.dct ks2 vs2) v := (re.mono x1).at_ j _ ez
      obtain ⟨v, ev, rv⟩ := rz
      simp only [Reps] at rs
      obtain ⟨w1, _, rfl, rw1, w2, _, rfl, rw2, rfl⟩ := rs
      obtain ⟨l1, us1, rfl, m1, k1, rs1⟩ := ref_of r1 rw1 g1
      obtain ⟨l2, us2, rfl, m2, k2, rs2⟩ := ref_of r1 rw2 g2
      have ei := ints_of rs1 g3
      subst ei
      have rv0 := rv
      simp only [Rep] at rv
      obtain ⟨b2, rfl, o2, kvs2, eb, ek2, rvs2⟩ := rv
      have nk := List.nodup_append.mp n2
      have l12 : ks.length = us2.length := by rw [n1]; exact rs2.length
      have lk2 : kvs2.length = ks2.length := by have := congrArg List.length ek2; simpa using this
      refine ⟨l1, l2, ks, us2, rfl, .inl (.inl k1), .inl (.inl k2), l12, nk.1, ?_, fun pn hp => ?_⟩
      · rw [List.length_append] at n3; omega
      show tBM X.K "dict" rUpd (tVar i) _ (sg.set i (some (.ref pn))) (upd H1 pn (.dK (zipK ks us2))) _
      have li : i < sg.length := by rw [← re.len]; exact (List.getElem?_eq_some_iff.mp ey).1
      have zl : (zipK ks us2).length = ks.length := by have := congrArg List.length (zipK_keys l12); simpa using this
      have bp : b2 ≠ pn := ne_of_none eb hp
      refine ⟨.ref pn, by rw [List.getElem?_set_self li], .inr (.inr (.inl ⟨rfl, .inl ⟨_, upd_same⟩⟩)), .ref b2, by rw [List.getElem?_set_ne hij]; exact ev, pn, b2, zipK ks us2, kvs2, o2, rfl, rfl, upd_same, by rw [upd_ne bp]; exact eb, by rw [zl, lk2, ← List.length_append]; exact n3, ?_⟩
      have mk : mergeK (zipK ks us2) kvs2 = zipK ks us2 ++ kvs2 := mergeK_new _ _ (by
        rw [List.map_append, zipK_keys l12, ek2, ← List.map_append]
        exact n2.map _ fun a b hne e => hne (Sum.inl.inj e))
      rw [mk, upd_upd]
      refine ⟨pn, _, upd_same, fun od => ?_⟩
      rw [upd_upd]
      have x2 : Ext mu1 H1 mu1 (upd H1 pn (.frz od (.dK (zipK ks us2 ++ kvs2)))) := Ext.new hp
      refine ⟨env.set i (some (.dct (ks ++ ks2) (ys ++ vs2))), h1, mu1, ((re.mono x1).mono x2).set ?_, r1.new hp, pO.ext q1 x2⟩
      simp only [Rep]
      refine ⟨pn, rfl, od, _, upd_same, by rw [List.map_append, zipK_keys l12, ek2, List.map_append], ?_⟩
      rw [List.map_append, zipK_vals l12]
      exact (Reps.mono x2 _ _ rs2).append (Reps.mono x2 _ _ rvs2)
theorem mapO1 {α β : Type} {f : α → Option β} {a : α} {t : β} (h : f a = some t) : mapO f [a] = some [t] := by unfold mapO; rw [h]; rfl
theorem mapO2 {α β : Type} {f : α → Option β} {a b : α} {t u : β} (h : f a = some t) (h2 : f b = some u) : mapO f [a, b] = some [t, u] := by unfold mapO; rw [h, mapO1 h2]
/-- a body -/
theorem s_body {X : Cx} {W : EX} (G : Good3 X ct C W) {n : Nat} : ∀ {ss : List Stmt} {ts : List Stt}, trB n X.N ct X.env.scope ss = some ts → PSs X ss (tS X.K W (evSs C ts))
  | [], ts, h => by
    cases h
    exact weakSs s_nil_ fun Dn sg H q => by
      obtain ⟨env, h, mu, re, rh, q⟩ := q
      simp only [evSs] at q
      exact ⟨env, h, mu, re, rh, q⟩
  | [s], ts, h => by
    simp only [trB, Option.map_eq_some_iff] at h
    obtain ⟨t, e, rfl⟩ := h
    exact s_block (fun s t => sndS' n X W G s t) (n := n) (ss := [s]) (ts := [t]) (by unfold mapO; rw [e]; rfl)
  | s1 :: s2 :: rest, ts, h => by
    unfold trB at h
    split at h
    · rename_i t ez
      rw [Option.map_eq_some_iff] at h
      obtain ⟨ts', e, rfl⟩ := h
      have hr := s_body G e
      unfold trZ at ez
      split at ez <;> first | (cases ez; done) | skip
      split at ez <;> first | (cases ez; done) | skip
      rename_i hb
      split at ez <;> first | (cases ez; done) | skip
      rename_i i j t u e1 e2 e3 e4
      split at ez <;> first | (cases ez; done) | skip
      rename_i hij
      cases ez
      simp only [Bool.and_eq_true, beq_iff_eq] at hb
      obtain ⟨⟨⟨⟨⟨⟨⟨⟨⟨⟨⟨⟨rfl, g1⟩, rfl⟩, g2⟩, rfl⟩, rfl⟩, ow⟩, v1⟩, o1⟩, v2⟩, o2⟩, hl⟩, cn⟩ := hb
      have cn' : ct.con.lookup ("dict" : Str) = none := by cases q : ct.con.lookup ("dict" : Str) with
        | none => rfl
        | some _ => rw [q] at cn; cases cn
      have iE := sndE (ct := ct) (C := C) n X W G.toGood2
      have hA := s_args (C := C) (fun e t => iE e t) (mapO2 e3 e4)
      have m1 := mapO1 e4
      have tg := G.tg _ ow
      refine weakSs (pss_dzu (C := C) (W := W) G.toGood (slot_of e1) (slot_of e2) (fun z => hij (by simp [z])) tg.1 tg.2 (vis_of v1) (vis_of v2) o1 o2 (gl_of g1) (G.ty _ _ rfl cn') (gl_of g2) (G.bi .zip) hA (star_of e3 _ X.env) (any_of X.env _ m1) (by simpa using hl) hr) fun Dn sg H q => ?_
      obtain ⟨env, h, mu, re, rh, q⟩ := q
      simp only [evSs] at q
      exact ⟨env, h, mu, re, rh, q⟩
    · split at h
      · rename_i t ts' e1 e2
        cases h
        exact weakSs (s_seq (sndS' n X W G _ _ e1) (s_body G e2)) fun Dn sg H q => by
          obtain ⟨env, h, mu, re, rh, q⟩ := q
          simp only [evSs] at q
          exact ⟨env, h, mu, re, rh, q⟩
      · cases h
end
end Ip

/-! Ip, part L: defs. -/
namespace Ip
open PySem PySem.Spec PyProof.Rows L2
section
variable {ct : Cf} {C : CallT}
theorem sndS : ∀ n, ShS ct C n
  | 0 => fun X W G s t h => by cases h
  | n + 1 => stepS (sndS n)

/-- the module's facts that every def needs -/
structure Mo (P : Program) (w : World) (K : Fr) (mg : Str → Option Value) (base : Heap) (ct : Cf) : Prop where
  con : ∀ x d, ct.con.lookup x = some d → ∃ u v, mg x = some u ∧ RelV v u ∧ ∀ mu H, Rep K mu H d v
  bi : ∀ b : Bi, mg (biOf b).1 = none
  rev : mg "reversed" = none
  set : mg "set" = none
  ty : ∀ x t, tyTab.lookup x = some t → ct.con.lookup x = none → mg x = none
  seer : base.NoSeer
  lim : base.NoLimit
  tree : P.given.tree = none
  exc : ∀ c, ct.exs.contains c = true → ExcOk K mg c
  isa : ∀ c t b, (c, t, b) ∈ ct.isa → IsaOk K mg c t b
/-- room for calls, a made object's call between them, and a hundred frames more -/
abbrev lv (k : Nat) : Nat := 2 * k + 40
/-- what is known of a def: level j of the interpreter's call -/
def DefOk (P : Program) (w : World) (K : Fr) (mg : Str → Option Value) (base : Heap) (C : CallT) (k : Nat) (f : Str) : Prop :=
  ∃ (a : Addr) (fd : FuncData) (ps : List Str), mg f = some (.ref a) ∧ PySem.W.keepIn K (.ref a) = true ∧ Binds K fd ps [] ∧ FnG P w K mg base (L2.CX P w) (lv k) a fd ps (spX K mg C f)

/-- .. of a method; of a class that is made -/
def MetDef (P : Program) (w : World) (K : Fr) (mg : Str → Option Value) (base : Heap) (C : CallT) (k : Nat) (m c f : Str) : Prop :=
  ∃ (Cc a : Addr) (fd : FuncData) (ps : List Str), ClsK K c Cc ∧ Meth K Cc m a ∧ Binds K fd ps [] ∧ FnG P w K mg base (L2.CX P w) (lv k) a fd ps (spX K mg C f)
def MakeDef (P : Program) (w : World) (K : Fr) (mg : Str → Option Value) (base : Heap) (C : CallT) (k : Nat) (c f : Str) : Prop :=
  ∃ (Cc a : Addr) (fd : FuncData) (ps : List Str), mg c = some (.ref Cc) ∧ ClsK K c Cc ∧ Mk K Cc a ∧ Binds K fd ps [] ∧ FnG P w K mg base (L2.CX P w) (lv k) a fd ps (spX K mg C f)
theorem pyl_of {P : Program} {w : World} {A : Around} {base : Heap} {env : PySem.Env} {l : List PySem.Env} {k : Nat} (hs : base.NoSeer) (hl : base.NoLimit) (ht : P.given.tree = none) (hr : Room (lv k) A) (hf : A.frames = some (env :: l)) (h1 : env.scope.isGenerator = false) (h2 : env.scope.isCoroutine = false)
    (h3 : env.builtins = builtinsNs) (h4 : env.globals = mainGlobals) (s : Shared) (hb : ∀ b o, base.get? b = some o → s.heap.get? b = some o) : PylongRoom (model P w) A s := by
  refine PylongRoom.of (hl.keeps hb) ?_ (SeerAt.of (hs.keeps hb) ht hf h1 h2 h3 h4)
  have : A.depth + 3 * (2 * k + 40) + 5 < recursionLimit := hr.dp
  have e : Builtin.pylongFrames = 100 := by decide
  omega
/-- THE RULE for a def -/
theorem def_fn {P : Program} {w : World} {K : Fr} {mg : Str → Option Value} {base : Heap} {x : Str} {st : Stmt} {f : Addr} {fd : FuncData} {N ps : List Str} {j k n : Nat} {body : List Stt} {T : Tb}
    {nm qn : Str} (M : Mo P w K mg base ct) (F : Fun K nm qn st f fd) (S : FnScope N ps (defScope st)) (hb : mapO (trS n N ct (defScope st)) (defBody st) = some body ∨ trB n N ct (defScope st) (defBody st) = some body) (hT : T x = some ⟨ps.length, N.length, body⟩)
    (hc : ∀ y, ct.fns.contains y = true → DefOk P w K mg base (callF T j) k y) (hcm : ∀ m c f, ct.mets.lookup m = some (c, f) → MetDef P w K mg base (callF T j) k m c f) (hck : ∀ c f, ct.cls.lookup c = some f → MakeDef P w K mg base (callF T j) k c f) :
    FnG P w K mg base (L2.CX P w) (lv (k + 1)) f fd ps (spX K mg (callF T (j + 1)) x) := by
  have elv : lv (k + 1) = (lv k + 1) + 1 := by show 2 * (k + 1) + 40 = 2 * k + 40 + 1 + 1; omega
  rw [elv]
  obtain ⟨oc, od, kV, doc, pm, an, cdv, ct', osl, rfl, lk, hcd⟩ := F.ex
  refine fnG_of (k := lv k + 1) lk hcd S (fun vs H Q E h => ?_) (fun A outer s H vs Q E hr1 hgd h => ?_)
  · obtain ⟨ds, h, mu, rh, rs, q⟩ := h
    simp only [callF, hT] at q
    unfold runF at q
    obtain ⟨hl, _⟩ := pO.need q
    rw [← rs.length]
    exact hl
  · have hr := hr1.mono (Nat.le_succ (lv k))
    obtain ⟨ds, h, mu, rh, rs, q⟩ := h
    simp only [callF, hT] at q
    unfold runF at q
    obtain ⟨hl, q⟩ := pO.need q
    refine ⟨tS K (exOf mg E) (evSs (callF T j) body), ?_, ?_⟩
    · have G : Good3 (cxOf (L2.CX P w) P w K mg base N qn (defScope st) f cdv A outer s H E) ct (callF T j) (exOf mg E) := {
        nd := S.nd
        calm := rfl
        kind := S.kind
        units := hr.units
        units5 := Nat.lt_of_le_of_lt (Nat.add_le_add_left (by omega : 65 ≤ 16 * lv k + 200) _) hr.un
        guards := hgd
        pyl := fun hf s' hs' => pyl_of M.seer M.lim M.tree hr hf S.gen S.co rfl rfl s' hs'
        con := M.con
        bi := M.bi
        rev := M.rev
        set := M.set
        ty := M.ty
        call := fun y hy => by
          obtain ⟨a, fd', ps', h1, h2, h3, h4⟩ := hc y hy
          exact ⟨lv k, a, fd', ps', h1, h2, h3, h4, hr⟩
        met := fun m c g hy => by
          obtain ⟨Cc, a, fd', ps', h1, h2, h3, h4⟩ := hcm m c g hy
          exact ⟨lv k, Cc, a, fd', ps', h1, h2, h3, h4, hr⟩
        mks := fun c g hy => by
          obtain ⟨Cc, a, fd', ps', h0, h1, h2, h3, h4⟩ := hck c g hy
          exact ⟨lv k, Cc, a, fd', ps', h0, h1, h2, h3, h4, hr1⟩
        exc := M.exc
        isa := M.isa
        tk := Takes.imp (takes_of (E := E) rfl rfl rfl rfl) fun c d σ H ⟨hd, n, hn, z⟩ => by subst hd; exact z c hn
        fn := fun _ => rfl
        psn := passes_of rfl
        stk := rfl
        frm := rfl }
      rcases hb with hb | hb
      · exact s_block (fun s t => sndS n _ _ G s t) hb
      · exact s_body G hb
    · refine ⟨ds.map some ++ List.replicate (N.length - ds.length) none, h, mu, ⟨?_, fun i d e => ?_⟩, rh, q.bind.mono fun fl mu1 H1 h1 x1 r1 q1 => ?_⟩
      · unfold L2.start
        simp [rs.length]
      · by_cases hi : i < ds.length
        · rw [List.getElem?_append_left (by simpa using hi), List.getElem?_map] at e
          cases e2 : ds[i]? with
          | none => rw [e2] at e; cases e
          | some d' =>
            rw [e2] at e
            cases e
            obtain ⟨v, e3, rv⟩ := rs.get e2
            refine ⟨v, ?_, rv⟩
            unfold L2.start
            rw [List.getElem?_append_left (by rw [List.length_map, ← rs.length]; exact hi), List.getElem?_map, e3]
            rfl
        · rw [List.getElem?_append_right (by simpa using hi)] at e
          rw [List.getElem?_replicate] at e
          split at e <;> cases e
      · cases fl with
        | rt d => exact fun v rv => q1.ok r1 v rv
        | nx e => exact fun sg re => q1.ok r1 _ (by simp [Rep])
        | bk e => exact False.elim q1
        | ct e => exact False.elim q1
end
end Ip

/-! Ip, part M: the law's own call. -/
namespace Ip
open PySem PySem.Spec PyProof.Rows L2
section
variable {P : Program} {w : World} {K : Fr} {mg mb : Str → Option Value} {s1 : Shared}

/-- what stands at an address that only the script can share -/
theorem notScript {H : Hp} {a b : Addr} {o ob : Obj} (hA : ∀ b, H b ≠ none → b = a) (ha : s1.heap.get? a = some ob) (hb : s1.heap.get? b = some o) (hne : o ≠ ob) : H b = none := by
  refine Classical.byContradiction fun z => hne ?_
  rw [hA b z, ha] at hb
  exact (Option.some.inj hb).symm

/-- the base under the law's call: the heap but the script -/
theorem base_facts {H : Hp} {a : Addr} {vs : List Value} (hA : ∀ b, H b ≠ none → b = a) (hK : H a ≠ none → K.lookup a = none) (ha : s1.heap.get? a = some { cls := .type "list", data := .seq vs.toArray })
    (KX : K.In s1.heap) (hns : s1.heap.Ns mainGlobals mg) (hb : s1.heap.Ns builtinsNs mb) (hbb : ∀ x : Str, x ≠ "__name__" → mb x = bootBuiltins x) (hl : s1.heap.NoLimit) (hs : s1.heap.NoSeer) :
    Mod K mg (hidT s1.heap H) ∧ (hidT s1.heap H).NoSeer := by
  have stay : ∀ {b : Addr} {o : Obj}, s1.heap.get? b = some o → o ≠ { cls := .type "list", data := .seq vs.toArray } → (hidT s1.heap H).get? b = some o := fun e n => hidT_get e (notScript hA ha e n)
  have nsS : ∀ {b : Addr} {m : Str → Option Value}, s1.heap.Ns b m → (hidT s1.heap H).Ns b m := by
    rintro b m ⟨o, es, ep, e, d, r⟩
    refine ⟨o, es, ep, stay e fun z => ?_, d, r⟩
    rw [z] at d
    cases d
  have kin : K.In (hidT s1.heap H) := by
    intro b o e
    refine hidT_get (KX b o e) ?_
    cases q : H b with
    | none => rfl
    | some u =>
      have nb : H b ≠ none := by rw [q]; simp
      have e2 := hA b nb
      subst e2
      rw [hK nb] at e
      cases e
  refine ⟨⟨kin, nsS hns, ⟨mb, nsS hb, hbb⟩, ?_⟩, ⟨?_, ?_, ?_, ?_⟩⟩
  · obtain ⟨mc, p, q⟩ := hl
    exact ⟨mc, nsS p, q⟩
  · obtain ⟨mc, p, q⟩ := hs.statics
    exact ⟨mc, nsS p, q⟩
  · obtain ⟨mc, p, q⟩ := hs.mods
    exact ⟨mc, nsS p, q⟩
  · obtain ⟨mc, p, q⟩ := hs.imp
    exact ⟨mc, nsS p, q⟩
  · obtain ⟨m, bm, ob, p1, p2, p3, p4, p5⟩ := hs.main
    refine ⟨m, bm, ob, nsS p1, p2, stay p3 fun z => ?_, p4, p5⟩
    rw [z] at p4
    exact absurd p4 (by simp)

/-- from a promise to the call, the script tracked as H says -/
theorem call_core {H : Hp} {k : Nat} {fa a : Addr} {fd : FuncData} {x : Str} {sp : Sp} {vs : List Value} {ns : List Int} (hA : ∀ b, H b ≠ none → b = a) (hO : Only H) (hK : H a ≠ none → K.lookup a = none) (hok : HOk P w H s1.heap)
    (ha : s1.heap.get? a = some { cls := .type "list", data := .seq vs.toArray })
    (KX : K.In s1.heap) (hns : s1.heap.Ns mainGlobals mg) (hb : s1.heap.Ns builtinsNs mb) (hbb : ∀ x : Str, x ≠ "__name__" → mb x = bootBuiltins x) (hl : s1.heap.NoLimit) (hs : s1.heap.NoSeer) (hg : s1.gens = #[]) (hr : Room k callerA)
    (F : ∀ base : Heap, K.In base → base.Ns mainGlobals mg → base.NoSeer → base.NoLimit → FnG P w K mg base CX0 k fa fd [x] sp) (hbind : ∀ (s : Shared) (u : Value), BindsTo s fd ⟨[u], []⟩ [(x, u)])
    (hsp : sp [.ref a] H (fun v _ => v = .bl true) fun _ _ _ => False) :
    codeAny (model P w) callerA (.call (.ref fa) ⟨[.ref a], []⟩) (fun r s' => r = .ok (.ret (.bool true)) ∧ OldK s1.heap s'.heap ∧ s'.os = s1.os ∧ AllBare s'.gens) s1 := by
  obtain ⟨M, S⟩ := base_facts hA hK ha KX hns hb hbb hl hs
  have nofr : ∀ b, b ∉ frs ([] : List PySem.Env) := fun b z => by
    have z' : b ∈ ([] : List Addr) := z
    simp at z'
  have e0 : Env0 P w K mg (hidT s1.heap H) callerA [] s1 H := by
    refine ⟨rfl, M, fun b o e => of_hidT e, ?_, trivial, fun b hb => absurd hb (nofr b), hok, .of_eq hg⟩
    rw [hidT_size]
    exact Nat.le_refl _
  have run := (F _ M.kin M.glob S M.nolimit).run callerA [] s1 H ⟨[.ref a], []⟩ [.ref a] [.ref a] _ _ hr rfl e0 (hbind s1 (.ref a)) (.cons rfl .nil) hsp
  refine codeAny_mono run ?_
  intro r s' h
  rcases r with e | fl
  · exact False.elim h
  · cases fl with
    | ret u =>
      obtain ⟨v, H', os, bare, un, hok', rv, q⟩ := h
      have q' : v = .bl true := q
      subst q'
      have ru : u = Value.bool true := rv
      subst ru
      refine ⟨rfl, OldK.of_keep fun b o e => ?_, os, bare⟩
      rcases hO b with z | ⟨ob, xs, z⟩
      · exact un.keep b o e z (nofr b) (by simp)
      · have g1 := (hok b _ z).1
        have g2 := (hok' b _ (un.frzs b ob _ z)).1
        rw [e] at g1
        cases g1
        exact g2
    | _ => exact False.elim h

theorem call_law {k : Nat} {fa a : Addr} {fd : FuncData} {x : Str} {sp : Sp} {vs : List Value} {ns : List Int} (hi : IntsAre vs ns) (hz : ns.length ≤ sizeLine)
    (ha : s1.heap.get? a = some { cls := .type "list", data := .seq vs.toArray })
    (KX : K.In s1.heap) (hns : s1.heap.Ns mainGlobals mg) (hb : s1.heap.Ns builtinsNs mb) (hbb : ∀ x : Str, x ≠ "__name__" → mb x = bootBuiltins x) (hl : s1.heap.NoLimit) (hs : s1.heap.NoSeer) (hg : s1.gens = #[]) (hr : Room k callerA)
    (F : ∀ base : Heap, K.In base → base.Ns mainGlobals mg → base.NoSeer → base.NoLimit → FnG P w K mg base CX0 k fa fd [x] sp) (hbind : ∀ (s : Shared) (u : Value), BindsTo s fd ⟨[u], []⟩ [(x, u)])
    (hsp : ∀ H : Hp, Only H → SqL K H a (ns.map V.int) → sp [.ref a] H (fun v _ => v = .bl true) fun _ _ _ => False) :
    codeAny (model P w) callerA (.call (.ref fa) ⟨[.ref a], []⟩) (fun r s' => r = .ok (.ret (.bool true)) ∧ OldK s1.heap s'.heap ∧ s'.os = s1.os ∧ AllBare s'.gens) s1 := by
  have rv := vals_ints hi
  have hl2 := hi.length
  cases e : K.lookup a with
  | some o =>
    have e2 := KX a o e
    rw [ha] at e2
    cases e2
    have hO : Only fun _ => none := fun b => .inl rfl
    refine call_core (H := fun _ => none) (ns := ns) (fun b z => absurd rfl z) hO (fun z => absurd rfl z) (fun b u z => by cases z) ha KX hns hb hbb hl hs hg hr F hbind (hsp _ hO (.inr ⟨_, vs.toArray, _, e, rfl, rfl, rfl, ?_, ?_⟩))
    · rw [List.size_toArray, hl2]
      exact hz
    · rw [List.toList_toArray]
      exact rv
  | none =>
    let u : HO := .frz { cls := .type "list", data := .seq vs.toArray } (.lst (ns.map V.int))
    let H : Hp := upd (fun _ => none) a u
    have Ha : H a = some u := upd_same
    have Hb : ∀ b, b ≠ a → H b = none := fun b n => upd_ne n
    have hO : Only H := fun b => by
      by_cases n : b = a
      · rw [n]
        exact .inr ⟨_, _, Ha⟩
      · exact .inl (Hb b n)
    refine call_core (H := H) (ns := ns) (fun b z => ?_) hO (fun _ => e) (fun b v z => ?_) ha KX hns hb hbb hl hs hg hr F hbind (hsp H hO (.inl (.inr ⟨_, Ha⟩)))
    · exact Classical.byContradiction fun n => z (Hb b n)
    · by_cases n : b = a
      · subst n
        rw [Ha] at z
        cases z
        exact ⟨ha, by rw [List.length_map]; exact hz, vs, _, rv, ha⟩
      · rw [Hb b n] at z
        cases z
end

/-- the goal that k_head leaves -/
theorem walk_my {l : PySem.W.OpenLaw} {n k : Nat} {q : Program} {loose : List Str} {XP : (Str → Option Value) → Heap → Prop} {YP : World → Heap → Prop} {d : DefRec} {K : Params → Fr} {sp : World → Sp} {x : Str}
    (hn : l.most = some n) (hn2 : n ≤ sizeLine) (hdf : d.params.defaults = []) (hr : Room k callerA) (himp : importsNone q = true)
    (hY : ∀ (w : World) (h : Heap), YP w h → (K w.params).In h)
    (F : ∀ (w : World) (mg : Str → Option Value) (fa : Addr) (h : Heap), (K w.params).In h → h.Ns mainGlobals mg → mg d.name = some (.ref fa) →
      ∃ fd : FuncData, (∀ (s : Shared) (u : Value), BindsTo s fd ⟨[u], []⟩ [(x, u)]) ∧
        ∀ base : Heap, (K w.params).In base → base.Ns mainGlobals mg → base.NoSeer → base.NoLimit → FnG l.prog w (K w.params) mg base CX0 k fa fd [x] (sp w))
    (hsp : ∀ (w : World) (H : Hp) (a : Addr) (ns : List Int), ns.length ≤ n → Only H → SqL (K w.params) H a (ns.map V.int) → sp w [.ref a] H (fun v _ => v = .bl true) fun _ _ _ => False) :
    PySem.W.WalkO q loose XP YP l.row.toRowW d [] (fun f vs => PySem.call f vs) := by
  refine Att.attach_call hn hdf ?_
  intro w s0 s1 mg mb fa o pm cd doc a vs ns G Y ho hd hcd hmg hobj hints hlen hg
  obtain ⟨fd, hb, hF⟩ := F w mg fa s1.heap (hY w _ Y) G.T.g hmg
  exact call_law hints (Nat.le_trans hlen hn2) hobj (hY w _ Y) G.T.g G.T.b G.T.builtins G.T.nolimit (G.T.seer himp) hg hr hF hb fun H hO hS => hsp w H a ns hlen hO hS
end Ip

/-! Ip, part N: all defs of a program at once. -/
namespace Ip
open PySem PySem.Spec PyProof.Rows L2
section
variable {ct : Cf} {P : Program} {w : World} {K : Fr} {mg : Str → Option Value} {base : Heap} {T : Tb}
/-- what must be known of a def: its text as it is translated -/
structure TxIn (K : Fr) (ct : Cf) (T : Tb) (x : Str) (f : Addr) (fd : FuncData) (ps : List Str) : Prop where
  tx : ∃ (st : Stmt) (N : List Str) (n : Nat) (body : List Stt) (nm qn : Str), Fun K nm qn st f fd ∧ FnScope N ps (defScope st) ∧ (mapO (trS n N ct (defScope st)) (defBody st) = some body ∨ trB n N ct (defScope st) (defBody st) = some body) ∧ T x = some ⟨ps.length, N.length, body⟩
  b : Binds K fd ps []
/-- .. and where it stands -/
structure DefIn (K : Fr) (mg : Str → Option Value) (ct : Cf) (T : Tb) (x : Str) (f : Addr) (fd : FuncData) (ps : List Str) : Prop where
  t : TxIn K ct T x f fd ps
  g : mg x = some (.ref f)
def MetIn (K : Fr) (ct : Cf) (T : Tb) (m c x : Str) : Prop := ∃ Cc f fd ps, ClsK K c Cc ∧ Meth K Cc m f ∧ TxIn K ct T x f fd ps
def MakeIn (K : Fr) (mg : Str → Option Value) (ct : Cf) (T : Tb) (c x : Str) : Prop := ∃ Cc f fd ps, mg c = some (.ref Cc) ∧ ClsK K c Cc ∧ Mk K Cc f ∧ TxIn K ct T x f fd ps
/-- all of a program's defs -/
structure AllIn (K : Fr) (mg : Str → Option Value) (ct : Cf) (T : Tb) : Prop where
  fns : ∀ x, ct.fns.contains x = true → ∃ f fd ps, DefIn K mg ct T x f fd ps
  mets : ∀ m c x, ct.mets.lookup m = some (c, x) → MetIn K ct T m c x
  cls : ∀ c x, ct.cls.lookup c = some x → MakeIn K mg ct T c x
theorem tx_ok (M : Mo P w K mg base ct) (Ds : AllIn K mg ct T) : ∀ (j : Nat) {x : Str} {f : Addr} {fd : FuncData} {ps : List Str}, TxIn K ct T x f fd ps → FnG P w K mg base (L2.CX P w) (lv j) f fd ps (spX K mg (callF T j) x)
  | 0, x, f, fd, ps, D => by
    have no : ∀ {vs H Q E}, ¬ spX K mg (callF T 0) x vs H Q E := fun q => by
      obtain ⟨ds, h, mu, rh, rs, q⟩ := q
      exact q
    exact ⟨fun vs H Q E q => absurd q no, fun A outer s H args us vs Q E _ _ _ _ _ q => absurd q no⟩
  | j + 1, x, f, fd, ps, D => by
    obtain ⟨st, N, n, body, nm, qn, F, S, hb, hT⟩ := D.tx
    have ih := fun {x f fd ps} => tx_ok M Ds j (x := x) (f := f) (fd := fd) (ps := ps)
    refine def_fn M F S hb hT (fun y hy => ?_) (fun m c g hy => ?_) (fun c g hy => ?_)
    · obtain ⟨f', fd', ps', D'⟩ := Ds.fns y hy
      obtain ⟨st', N', n', body', nm', qn', F', _⟩ := D'.t.tx
      exact ⟨f', fd', ps', D'.g, F'.kp, D'.t.b, ih D'.t⟩
    · obtain ⟨Cc, f', fd', ps', h1, h2, h3⟩ := Ds.mets m c g hy
      exact ⟨Cc, f', fd', ps', h1, h2, h3.b, ih h3⟩
    · obtain ⟨Cc, f', fd', ps', h0, h1, h2, h3⟩ := Ds.cls c g hy
      exact ⟨Cc, f', fd', ps', h0, h1, h2, h3.b, ih h3⟩
/-- a promise that lets no exception out -/
theorem FnG.calm {k : Nat} {f : Addr} {fd : FuncData} {ps : List Str} {C : CallT} {x : Str} (F : FnG P w K mg base (L2.CX P w) k f fd ps (spX K mg C x)) : FnG P w K mg base CX0 k f fd ps fun vs H Q _ => spW K W0 C x vs H Q := by
  have up : ∀ {vs H Q}, spW K W0 C x vs H Q → spX K mg C x vs H Q E00 := fun q => q.mono fun _ _ z => z.elim
  refine ⟨fun vs H Q E q => F.len vs H Q E00 (up q), fun A outer s H args us vs Q E hr hgd e0 hb r q => codeAny_mono (F.run A outer s H args us vs Q E00 hr hgd e0 hb r (up q)) fun r s' h => ?_⟩
  cases r with
  | error e =>
    obtain ⟨_, _, _, _, _, _, _, _, _, _, _, _, z⟩ := h
    exact z.elim
  | ok fl => cases fl <;> exact h
/-- one def's promise at its own place -/
theorem one_ok (M : Mo P w K mg base ct) (Ds : AllIn K mg ct T) (j : Nat) {x : Str} {f : Addr} {fd : FuncData} {ps : List Str} (D : DefIn K mg ct T x f fd ps) :
    FnG P w K mg base CX0 (lv (j + 1)) f fd ps fun vs H Q _ => spW K W0 (callF T (j + 1)) x vs H Q := (tx_ok M Ds (j + 1) D.t).calm
theorem frz_of {H : Hp} {a : Addr} {ns : List Int} (hO : Only H) (hS : SqL K H a (ns.map V.int)) : Rep K [] H (.frz (ns.map D.int)) (.ref a) := by
  have all : ∀ ms : List Int, Reps K [] H (ms.map D.int) (ms.map V.int) := fun ms => by
    induction ms with
    | nil => simp [Reps]
    | cons m ms ih => simp only [List.map_cons, Reps]; exact ⟨_, _, rfl, by simp [Rep], ih⟩
  have rs := all ns
  simp only [Rep]
  refine ⟨a, _, rfl, ?_, rs⟩
  rcases hS with (h | ⟨o, h⟩) | h
  · rcases hO a with z | ⟨o, xs, z⟩
    · rw [h] at z
      cases z
    · rw [h] at z
      cases z
  · exact .inl ⟨o, h⟩
  · exact .inr h
/-- the law's own promise, from the plain law -/
theorem law_sp {x : Str} {j : Nat} {n : Nat} (h : ∀ ns : List Int, ns.length ≤ n → ∃ h', callF T j x [.frz (ns.map D.int)] [] = .ok (.bl true) h') (H : Hp) (a : Addr) (ns : List Int) (hl : ns.length ≤ n) (hO : Only H) (hS : SqL K H a (ns.map V.int)) :
    spW K W0 (callF T j) x [.ref a] H (fun v _ => v = .bl true) := by
  obtain ⟨h', e⟩ := h ns hl
  refine ⟨[.frz (ns.map D.int)], [], [], ⟨rfl, List.nodup_nil, fun n o a e => by simp at e⟩, Reps.one (frz_of hO hS), ?_⟩
  rw [e]
  intro mu' H' _ _ v r
  simpa [Rep] using r
end
/-- an exception of the class at S is what its own clause names -/
theorem exm_own {K : Fr} {S : Addr} (h1 : PySem.W.subIn K (.ref S) (.type "BaseException") = some true) (h2 : PySem.W.isClsIn K S = true) (h3 : PySem.W.typeIn K (.ref S) = some (.type "type")) (h4 : PySem.W.subIn K (.ref S) (.ref S) = some true) :
    PySem.W.exmOne K (.ref S) (.ref S) = some true := by
  have e1 : (PySem.W.subIn K (.ref S) (.type "BaseException") == some true) = true := by rw [h1] <;> rfl
  have e2 : ((PySem.W.clsIn K S).isSome && PySem.W.typeIn K (.ref S) == some (.type "type")) = true := by
    have h2' : (PySem.W.clsIn K S).isSome = true := h2
    rw [h2', h3] <;> rfl
  show (if (PySem.W.subIn K (.ref S) (.type "BaseException") == some true) = true then (if ((PySem.W.clsIn K S).isSome && PySem.W.typeIn K (.ref S) == some (.type "type")) = true then PySem.W.subIn K (.ref S) (.ref S) else none) else none) = some true
  rw [if_pos e1, if_pos e2]
  exact h4
theorem exm_own2 {K : Fr} {D S : Addr} {b : Bool} (h1 : PySem.W.subIn K (.ref S) (.type "BaseException") = some true) (h2 : PySem.W.isClsIn K S = true) (h3 : PySem.W.typeIn K (.ref S) = some (.type "type")) (h4 : PySem.W.subIn K (.ref D) (.ref S) = some b) :
    PySem.W.exmOne K (.ref D) (.ref S) = some b := by
  have e1 : (PySem.W.subIn K (.ref S) (.type "BaseException") == some true) = true := by rw [h1] <;> rfl
  have e2 : ((PySem.W.clsIn K S).isSome && PySem.W.typeIn K (.ref S) == some (.type "type")) = true := by
    have h2' : (PySem.W.clsIn K S).isSome = true := h2
    rw [h2', h3] <;> rfl
  show (if (PySem.W.subIn K (.ref S) (.type "BaseException") == some true) = true then (if ((PySem.W.clsIn K S).isSome && PySem.W.typeIn K (.ref S) == some (.type "type")) = true then PySem.W.subIn K (.ref D) (.ref S) else none) else none) = some b
  rw [if_pos e1, if_pos e2]
  exact h4
theorem kit_own2 {K : Fr} {D S : Addr} {b : Bool} (h2 : PySem.W.isClsIn K S = true) (h3 : PySem.W.typeIn K (.ref S) = some (.type "type")) (h4 : PySem.W.subIn K (.ref D) (.ref S) = some b) (h5 : PySem.W.subIn K (.ref D) (.ref D) = some true) :
    PySem.W.kitOne K (.ref D) (.ref S) = some b := by
  have e2 : ((PySem.W.clsIn K S).isSome && PySem.W.typeIn K (.ref S) == some (.type "type")) = true := by
    have h2' : (PySem.W.clsIn K S).isSome = true := h2
    rw [h2', h3] <;> rfl
  unfold PySem.W.kitOne
  split
  · rename_i e
    have : D = S := Value.ref.inj (beq_iff_eq.mp e)
    subst this
    rw [h5] at h4
    exact h4
  · show (if ((PySem.W.clsIn K S).isSome && PySem.W.typeIn K (.ref S) == some (.type "type")) = true then PySem.W.subIn K (.ref D) (.ref S) else none) = some b
    rw [if_pos e2]
    exact h4
theorem kit_bi2 {K : Fr} {D : Addr} {n : String} {b : Bool} (h2 : PySem.W.kitMeta n = true) (h4 : PySem.W.subIn K (.ref D) (.type n) = some b) : PySem.W.kitOne K (.ref D) (.type n) = some b := by
  unfold PySem.W.kitOne
  rw [if_neg (by intro e; cases beq_iff_eq.mp e)]
  show (if PySem.W.kitMeta n = true then PySem.W.subIn K (.ref D) (.type n) else none) = some b
  rw [if_pos h2]
  exact h4
theorem exm_bi2 {K : Fr} {D : Addr} {n : String} {b : Bool} (h1 : PySem.W.subIn K (.type n) (.type "BaseException") = some true) (h2 : PySem.W.kitMeta n = true) (h4 : PySem.W.subIn K (.ref D) (.type n) = some b) : PySem.W.exmOne K (.ref D) (.type n) = some b := by
  have e1 : (PySem.W.subIn K (.type n) (.type "BaseException") == some true) = true := by rw [h1] <;> rfl
  show (if (PySem.W.subIn K (.type n) (.type "BaseException") == some true) = true then (if PySem.W.kitMeta n = true then PySem.W.subIn K (.ref D) (.type n) else none) else none) = some b
  rw [if_pos e1, if_pos h2]
  exact h4
end Ip

/-! Ip, part W: total outcomes, rules for loops, facts of plain values. -/
namespace Ip
open PySem

/-- it ends well, with P -/
def W {α : Type} (o : Out α) (P : α → Hh → Prop) : Prop := ∃ a h, o = .ok a h ∧ P a h
section
variable {α β : Type}
@[simp] theorem W_ok (a : α) (h : Hh) (P : α → Hh → Prop) : W (.ok a h) P ↔ P a h :=
  ⟨fun ⟨_, _, e, p⟩ => by injection e with e1 e2; subst e1 e2; exact p, fun p => ⟨a, h, rfl, p⟩⟩
@[simp] theorem W_bind (o : Out α) (f : α → Hh → Out β) (P : β → Hh → Prop) : W (o.bind f) P ↔ W o fun a h => W (f a h) P := by
  constructor
  · rintro ⟨b, h, e, p⟩
    cases o with
    | ok a h1 => exact ⟨a, h1, rfl, b, h, e, p⟩
    | exn c h1 => cases e
    | stuck => cases e
  · rintro ⟨a, h1, e, b, h, e2, p⟩
    subst e
    exact ⟨b, h, e2, p⟩
@[simp] theorem W_need (c : Prop) (o : Out α) (P : α → Hh → Prop) : W (need c o) P ↔ c ∧ W o P := by
  by_cases h : c
  · rw [need_pos h]; exact ⟨fun w => ⟨h, w⟩, fun w => w.2⟩
  · rw [need_neg h]; exact ⟨fun ⟨_, _, e, _⟩ => (by cases e), fun w => absurd w.1 h⟩
@[simp] theorem W_calm (o : Out α) (P : α → Hh → Prop) : W o.calm P ↔ W o P := by
  cases o with
  | ok a h => exact Iff.rfl
  | exn c h => exact ⟨fun ⟨_, _, e, _⟩ => (by cases e), fun ⟨_, _, e, _⟩ => (by cases e)⟩
  | stuck => exact Iff.rfl
@[simp] theorem W_stuck (P : α → Hh → Prop) : W .stuck P ↔ False := ⟨fun ⟨_, _, e, _⟩ => (by cases e), False.elim⟩
theorem W_mono {o : Out α} {P Q : α → Hh → Prop} (h : W o P) (k : ∀ a h, P a h → Q a h) : W o Q := by
  obtain ⟨a, h1, e, p⟩ := h
  exact ⟨a, h1, e, k a h1 p⟩
theorem W_eq {o : Out α} {a : α} {h : Hh} {P : α → Hh → Prop} (e : o = .ok a h) (p : P a h) : W o P := ⟨a, h, e, p⟩
@[simp] theorem W_if (c : Prop) [Decidable c] (a b : Out α) (P : α → Hh → Prop) : W (if c then a else b) P ↔ (c → W a P) ∧ (¬ c → W b P) := by
  by_cases h : c <;> simp [h]
end

theorem W_callF {T : Tb} {f : Str} {fn : Fn} (hf : T f = some fn) (k : Nat) (ds : List D) (h : Hh) : callF T (k + 1) f ds h = runF (callF T k) fn ds h := by
  show (match T f with
    | some fn => runF (callF T k) fn ds h
    | none => .stuck) = _
  rw [hf]

/-! ### loops -/
theorem whN_up {c : Env → Hh → Out Bool} {b : Env → Hh → Out Fl} : ∀ (n : Nat) (env : Env) (h : Hh), whN c b n env h ≠ .stuck → ∀ m, n ≤ m → whN c b m env h = whN c b n env h := by
  intro n
  induction n with
  | zero => intro env h hn; exact absurd rfl hn
  | succ n ih =>
    intro env h hn m hm
    cases m with
    | zero => omega
    | succ m =>
      simp only [whN] at hn ⊢
      cases hc : c env h with
      | stuck => rfl
      | exn x h1 => rfl
      | ok t h1 =>
        rw [hc] at hn
        simp only [Out.bind_ok] at hn ⊢
        by_cases ht : t = true
        · simp only [ht, if_true] at hn ⊢
          cases hb : b env h1 with
          | stuck => rfl
          | exn x h2 => rfl
          | ok fl h2 =>
            rw [hb] at hn
            simp only [Out.bind_ok] at hn ⊢
            cases fl with
            | nx e => exact ih e h2 hn m (by omega)
            | ct e => exact ih e h2 hn m (by omega)
            | bk e => rfl
            | rt d => rfl
        · simp only [if_neg ht]
theorem W_whO_of_N {c : Env → Hh → Out Bool} {b : Env → Hh → Out Fl} {env : Env} {h : Hh} {P : Fl → Hh → Prop} (n : Nat) (w : W (whN c b n env h) P) : W (whO c b env h) P := by
  obtain ⟨a, h1, e, p⟩ := w
  have hn : whN c b n env h ≠ .stuck := by rw [e]; exact fun e => by cases e
  unfold whO
  have H : ∃ n, whN c b n env h ≠ .stuck := ⟨n, hn⟩
  rw [dif_pos H]
  have hc := Classical.choose_spec H
  refine ⟨a, h1, ?_, p⟩
  rcases Nat.le_total n (Classical.choose H) with hle | hle
  · rw [whN_up n env h hn _ hle, e]
  · rw [← whN_up _ env h hc n hle, e]
/-- a while loop by an invariant and a measure -/
theorem W_whO {c : Env → Hh → Out Bool} {b : Env → Hh → Out Fl} {P : Fl → Hh → Prop} (I : Nat → Env → Hh → Prop)
    (step : ∀ n env h, I n env h → W (c env h) fun t h1 => (t = true → W (b env h1) fun fl h2 => match fl with
      | .nx e => ∃ m, m < n ∧ I m e h2
      | .ct e => ∃ m, m < n ∧ I m e h2
      | .bk e => P (.nx e) h2
      | .rt d => P (.rt d) h2) ∧ (t = false → P (.nx env) h1))
    {n : Nat} {env : Env} {h : Hh} (hI : I n env h) : W (whO c b env h) P := by
  have key : ∀ n env h, I n env h → W (whN c b (n + 1) env h) P := by
    intro n
    induction n using Nat.strongRecOn with
    | ind n ih =>
      intro env h hI
      obtain ⟨t, h1, e1, ht, hf⟩ := step n env h hI
      simp only [whN]
      rw [e1, Out.bind_ok]
      cases t with
      | false => exact ⟨_, _, if_neg (by simp), hf rfl⟩
      | true =>
        obtain ⟨fl, h2, e2, p⟩ := ht rfl
        rw [if_pos rfl, e2, Out.bind_ok]
        cases fl with
        | nx e =>
          obtain ⟨m, hm, hI2⟩ := p
          obtain ⟨a, h3, e3, p3⟩ := ih m hm e h2 hI2
          exact ⟨a, h3, (whN_up (m + 1) e h2 (by rw [e3]; exact fun e => by cases e) n (by omega)).trans e3, p3⟩
        | ct e =>
          obtain ⟨m, hm, hI2⟩ := p
          obtain ⟨a, h3, e3, p3⟩ := ih m hm e h2 hI2
          exact ⟨a, h3, (whN_up (m + 1) e h2 (by rw [e3]; exact fun e => by cases e) n (by omega)).trans e3, p3⟩
        | bk e => exact ⟨_, _, rfl, p⟩
        | rt d => exact ⟨_, _, rfl, p⟩
  exact W_whO_of_N (n + 1) (key n env h hI)
/-- a for loop by an invariant over what is left -/
theorem W_frL {f : D → Env → Hh → Out Env} {b : Env → Hh → Out Fl} {chk : List (Nat × List D)} {P : Fl → Hh → Prop} (I : List D → Env → Hh → Prop)
    (stay : ∀ xs env h, I xs env h → chkOk chk h)
    (step : ∀ x xs env h, I (x :: xs) env h → W (f x env h) fun e1 h1 => W (b e1 h1) fun fl h2 => match fl with
      | .nx e => I xs e h2
      | .ct e => I xs e h2
      | .bk e => P (.nx e) h2
      | .rt d => P (.rt d) h2)
    (done : ∀ env h, I [] env h → P (.nx env) h) : ∀ {xs : List D} {env : Env} {h : Hh}, I xs env h → W (frL f b chk xs env h) P := by
  intro xs
  induction xs with
  | nil => intro env h hI; simp only [frL, W_need, W_ok]; exact ⟨stay _ _ _ hI, done _ _ hI⟩
  | cons x xs ih =>
    intro env h hI
    simp only [frL, W_need, W_bind]
    refine ⟨stay _ _ _ hI, W_mono (step x xs env h hI) fun e1 h1 p => W_mono p fun fl h2 q => ?_⟩
    cases fl with
    | nx e => exact ih q
    | ct e => exact ih q
    | bk e => rw [W_ok]; exact q
    | rt d => rw [W_ok]; exact q
/-- a comprehension by an invariant over what is made and what is left -/
theorem W_lcL {f : D → Hh → Out (Option D)} {chk : List (Nat × List D)} {P : List D → Hh → Prop} (I : List D → List D → Hh → Prop)
    (stay : ∀ a xs h, I a xs h → chkOk chk h)
    (step : ∀ a x xs h, I a (x :: xs) h → W (f x h) fun o h1 => I (a ++ o.toList) xs h1)
    (done : ∀ a h, I a [] h → P a h) {xs : List D} {h : Hh} (hI : I [] xs h) : W (lcL f chk xs h) P := by
  have key : ∀ (xs : List D) (a : List D) (h : Hh), I a xs h → W (lcL f chk xs h) fun ys h1 => P (a ++ ys) h1 := by
    intro xs
    induction xs with
    | nil => intro a h hI; simp only [lcL, W_need, W_ok, List.append_nil]; exact ⟨stay _ _ _ hI, done _ _ hI⟩
    | cons x xs ih =>
      intro a h hI
      simp only [lcL, W_need, W_bind, W_calm, W_ok]
      refine ⟨stay _ _ _ hI, W_mono (step a x xs h hI) fun o h1 p => W_mono (ih _ h1 p) fun ys h2 q => ?_⟩
      rw [← List.append_assoc]; exact q
  exact W_mono (key xs [] h hI) fun ys h1 p => by rw [List.nil_append] at p; exact p

/-! ### heaps -/
/-- all but one list (if any) stay as they are -/
def Kp (x : Nat → Prop) (h h' : Hh) : Prop := h.length ≤ h'.length ∧ ∀ m, m < h.length → ¬ x m → h'[m]? = h[m]?
theorem Kp.refl (x : Nat → Prop) (h : Hh) : Kp x h h := ⟨Nat.le_refl _, fun _ _ _ => rfl⟩
theorem Kp.trans {x : Nat → Prop} {a b c : Hh} (p : Kp x a b) (q : Kp x b c) : Kp x a c :=
  ⟨Nat.le_trans p.1 q.1, fun m hm hx => (q.2 m (Nat.lt_of_lt_of_le hm p.1) hx).trans (p.2 m hm hx)⟩
theorem Kp.app (x : Nat → Prop) (h j : Hh) : Kp x h (h ++ j) := ⟨by simp, fun m hm _ => List.getElem?_append_left hm⟩
theorem Kp.set {x : Nat → Prop} {n : Nat} (hx : x n) (h : Hh) (o : O) : Kp x h (h.set n o) := ⟨by simp, fun m _ hm => List.getElem?_set_ne (fun e => hm (by rw [← e]; exact hx))⟩
theorem Kp.setNew {x : Nat → Prop} {a b : Hh} {n : Nat} (p : Kp x a b) (hn : a.length ≤ n) (o : O) : Kp x a (b.set n o) := ⟨by simpa using p.1, fun m hm hx => by rw [List.getElem?_set_ne (by omega)]; exact p.2 m hm hx⟩
theorem Kp.mono {x y : Nat → Prop} {a b : Hh} (p : Kp x a b) (hxy : ∀ m, x m → y m) : Kp y a b := ⟨p.1, fun m hm hy => p.2 m hm fun hx => hy (hxy m hx)⟩
theorem Kp.get {x : Nat → Prop} {a b : Hh} (p : Kp x a b) {m : Nat} {o : O} (hm : a[m]? = some o) (hx : ¬ x m) : b[m]? = some o := by
  rw [p.2 m (List.getElem?_eq_some_iff.mp hm).1 hx]; exact hm
theorem lt_of_get {h : Hh} {m : Nat} {o : O} (hm : h[m]? = some o) : m < h.length := (List.getElem?_eq_some_iff.mp hm).1
@[simp] theorem get_new (h : Hh) (o : O) : (h ++ [o])[h.length]? = some o := by simp

/-! ### values of ints, None and tuples of them -/
def G : Nat → D → Prop
  | _, .int _ => True
  | _, .non => True
  | n + 1, .tup ds => ∀ d, d ∈ ds → G n d
  | _, _ => False
@[simp] theorem G_int (n : Nat) (i : Int) : G n (.int i) := by cases n <;> trivial
@[simp] theorem G_non (n : Nat) : G n .non := by cases n <;> trivial
@[simp] theorem G_tup (n : Nat) (ds : List D) : G (n + 1) (.tup ds) ↔ ∀ d, d ∈ ds → G n d := Iff.rfl

theorem canLayAll0_of {ps : List PyData} (h : ∀ p, p ∈ ps → p.canLay0 = true) : PyData.canLayAll0 ps = true := by
  induction ps with
  | nil => rfl
  | cons p ps ih => rw [PyData.canLayAll0, h p (by simp), ih fun q hq => h q (by simp [hq])]; rfl
theorem depthAll_of {n : Nat} {ps : List PyData} (h : ∀ p, p ∈ ps → p.depth ≤ n) : PyData.depthAll ps ≤ n := by
  induction ps with
  | nil => exact Nat.zero_le _
  | cons p ps ih => rw [PyData.depthAll]; exact Nat.max_le.mpr ⟨h p (by simp), ih fun q hq => h q (by simp [hq])⟩

/-- the plain data of a value without lists -/
def pd : Nat → D → PyData
  | _, .int i => .int i
  | n + 1, .tup ds => .tuple (ds.map (pd n))
  | _, _ => .none
theorem toP_int (m : Nat) (h : Hh) (i : Int) : toP m h (.int i) = some (.int i) := by cases m <;> rfl
theorem toP_non (m : Nat) (h : Hh) : toP m h .non = some .none := by cases m <;> rfl
theorem mapM_some {α β : Type} {f : α → Option β} {g : α → β} : ∀ {xs : List α}, (∀ x, x ∈ xs → f x = some (g x)) → xs.mapM f = some (xs.map g)
  | [], _ => rfl
  | x :: xs, h => by
    rw [List.mapM_cons, h x (by simp), mapM_some (g := g) fun y hy => h y (by simp [hy])]; rfl
theorem toP_G (h : Hh) : ∀ (n : Nat) (d : D) (m : Nat), G n d → n ≤ m → toP m h d = some (pd n d) := by
  intro n
  induction n with
  | zero => intro d m g _; cases d <;> first | exact toP_int .. | exact toP_non .. | cases g
  | succ n ih =>
    intro d m g hm
    cases d with
    | int i => exact toP_int ..
    | non => exact toP_non ..
    | tup ds =>
      cases m with
      | zero => omega
      | succ m =>
        show (ds.mapM (toP m h)).map PyData.tuple = _
        rw [mapM_some (g := pd n) fun d hd => ih d m (g d hd) (by omega)]; rfl
    | _ => cases g
theorem canLay_pd : ∀ (n : Nat) (d : D), (pd n d).canLay0 = true := by
  intro n
  induction n with
  | zero => intro d; cases d <;> rfl
  | succ n ih =>
    intro d
    cases d <;> first | rfl | skip
    rename_i ds
    show PyData.canLayAll0 (ds.map (pd n)) = true
    exact canLayAll0_of fun p hp => by obtain ⟨d, _, e⟩ := List.mem_map.mp hp; exact e ▸ ih d
theorem depth_pd : ∀ (n : Nat) (d : D), (pd n d).depth ≤ n := by
  intro n
  induction n with
  | zero => intro d; cases d <;> exact Nat.le_refl _
  | succ n ih =>
    intro d
    cases d <;> first | exact Nat.zero_le _ | skip
    rename_i ds
    show PyData.depthAll (ds.map (pd n)) + 1 ≤ n + 1
    exact Nat.succ_le_succ (depthAll_of fun p hp => by obtain ⟨d, _, e⟩ := List.mem_map.mp hp; exact e ▸ ih d)
theorem eqvAll_map {f : D → PyData} : ∀ {xs ys : List D}, (∀ x, x ∈ xs → ∀ y, y ∈ ys → (PyData.eqv (f x) (f y) = true ↔ x = y)) → (PyData.eqvAll (xs.map f) (ys.map f) = true ↔ xs = ys)
  | [], [], _ => by simp [PyData.eqvAll]
  | [], _ :: _, _ => by simp [PyData.eqvAll]
  | _ :: _, [], _ => by simp [PyData.eqvAll]
  | x :: xs, y :: ys, h => by
    simp only [List.map_cons, PyData.eqvAll, Bool.and_eq_true, List.cons.injEq]
    rw [h x (by simp) y (by simp), eqvAll_map fun a ha b hb => h a (by simp [ha]) b (by simp [hb])]
theorem eqv_pd : ∀ (n : Nat) (x y : D), G n x → G n y → (PyData.eqv (pd n x) (pd n y) = true ↔ x = y) := by
  intro n
  induction n with
  | zero =>
    intro x y gx gy
    cases x <;> cases y <;> first | cases gx; done | cases gy; done | simp [pd, PyData.eqv]
  | succ n ih =>
    intro x y gx gy
    cases x <;> first | (cases gx; done) | skip
    all_goals cases y <;> first | (cases gy; done) | (simp [pd, PyData.eqv]; done) | skip
    rename_i xs ys
    simp only [pd, PyData.eqv, D.tup.injEq]
    exact eqvAll_map fun a ha b hb => ih a b (gx a ha) (gy b hb)
theorem eqD_G {h : Hh} {x y : D} (gx : G 60 x) (gy : G 60 y) : eqD h x y = some (@decide (x = y) (Classical.propDecidable _)) := by
  unfold eqD
  rw [toP_G h 60 x 66 gx (by omega), toP_G h 60 y 66 gy (by omega)]
  have sh : ∀ d : D, SeqAt.shaped (pd 60 d) = true := fun d => by
    unfold SeqAt.shaped; rw [canLay_pd, Bool.true_and]; exact decide_eq_true (Nat.le_trans (depth_pd 60 d) (by omega))
  show (if (SeqAt.shaped (pd 60 x) && SeqAt.shaped (pd 60 y)) = true then some (PyData.eqv (pd 60 x) (pd 60 y)) else none) = _
  rw [sh, sh]
  refine (if_pos rfl).trans (congrArg some ?_)
  exact Bool.eq_iff_iff.mpr ((eqv_pd 60 x y gx gy).trans (@decide_eq_true_iff _ (Classical.propDecidable _)).symm)
theorem eqD_L {h : Hh} {n m : Nat} {xs ys : List D} (hn : h[n]? = some (.lst xs)) (hm : h[m]? = some (.lst ys)) (gx : ∀ x, x ∈ xs → G 60 x) (gy : ∀ y, y ∈ ys → G 60 y) :
    eqD h (.ref n) (.ref m) = some (@decide (xs = ys) (Classical.propDecidable _)) := by
  unfold eqD
  have tx : ∀ (n : Nat) (xs : List D), h[n]? = some (.lst xs) → (∀ x, x ∈ xs → G 60 x) → toP 66 h (.ref n) = some (.list (xs.map (pd 60))) := by
    intro n xs hn gx
    show (match h[n]? with
      | some (.lst ds) => (ds.mapM (toP 65 h)).map PyData.list
      | _ => none) = _
    rw [hn]
    show (xs.mapM (toP 65 h)).map PyData.list = _
    rw [mapM_some (g := pd 60) fun d hd => toP_G h 60 d 65 (gx d hd) (by omega)]; rfl
  rw [tx n xs hn gx, tx m ys hm gy]
  have sh : ∀ ds : List D, SeqAt.shaped (.list (ds.map (pd 60))) = true := fun ds => by
    unfold SeqAt.shaped
    rw [PyData.canLay0, canLayAll0_of fun p hp => by obtain ⟨d, _, e⟩ := List.mem_map.mp hp; exact e ▸ canLay_pd 60 d, Bool.true_and]
    refine decide_eq_true (Nat.le_trans (Nat.succ_le_succ (depthAll_of (n := 60) fun p hp => ?_)) (by omega : 60 + 1 ≤ 64))
    obtain ⟨d, _, e⟩ := List.mem_map.mp hp; exact e ▸ depth_pd 60 d
  show (if (SeqAt.shaped (.list (xs.map (pd 60))) && SeqAt.shaped (.list (ys.map (pd 60)))) = true then some (PyData.eqv (.list (xs.map (pd 60))) (.list (ys.map (pd 60)))) else none) = _
  rw [sh, sh]
  refine (if_pos rfl).trans (congrArg some ?_)
  refine Bool.eq_iff_iff.mpr (Iff.trans ?_ (@decide_eq_true_iff _ (Classical.propDecidable _)).symm)
  rw [PyData.eqv]
  exact eqvAll_map fun a ha b hb => eqv_pd 60 a b (gx a ha) (gy b hb)

/-! ### sizes -/
theorem mulok {a b : Int} (n m : Nat) (ha : a.natAbs < 2 ^ n) (hb : b.natAbs < 2 ^ m) (h : n + m ≤ 134217728) : IntMulOk a b :=
  IntMulOk.of_le (intBits_le_iff.mpr ha) (intBits_le_iff.mpr hb) h
theorem mulokL {a b : Int} (h : a.natAbs < 2 ^ 64) : IntMulOk a b := IntMulOk.of_left (intBits_le_iff.mpr h)
theorem mulokR {a b : Int} (h : b.natAbs < 2 ^ 64) : IntMulOk a b := IntMulOk.of_right (intBits_le_iff.mpr h)

/-! ### fractions -/
/-- a fraction as the program tells it -/
def Fq (q : Rat) : D := .tup [.int q.num, .int q.den]
theorem Fq_inj {p q : Rat} : Fq p = Fq q ↔ p = q := by
  constructor
  · intro e
    simp only [Fq, D.tup.injEq, List.cons.injEq, D.int.injEq] at e
    exact Rat.ext e.1 (by omega)
  · rintro rfl; rfl
@[simp] theorem G_Fq (n : Nat) (q : Rat) : G (n + 1) (Fq q) := by simp [Fq]
theorem num_of_pos {a b : Int} (hb : 0 < b) : (Rat.divInt a b).num = a / (Int.gcd a b : Int) := by
  rw [Rat.num_divInt, Int.sign_eq_one_of_pos hb, Int.one_mul, Int.gcd_comm]
theorem den_of_pos {a b : Int} (hb : 0 < b) : ((Rat.divInt a b).den : Int) = b / (Int.gcd a b : Int) := by
  rw [Rat.den_divInt, if_neg (by omega), Int.gcd_comm, Int.natCast_ediv]
  congr 1; omega
end Ip

/-! Ip, part X: the interpreter's rules, one by one, for simp. -/
namespace Ip
open PySem
section
variable (C : CallT) (env : Env) (h : Hh) (a b c e : Ex) (es : List Ex) (i j : Int)
@[simp] theorem ev_non : ev C .non env h = .ok .non h := by rw [ev]
@[simp] theorem ev_bl (k : Bool) : ev C (.bl k) env h = .ok (.bl k) h := by rw [ev]
@[simp] theorem ev_int : ev C (.int i) env h = .ok (.int i) h := by rw [ev]
@[simp] theorem ev_str (x : Str) : ev C (.str x) env h = .ok (.str x) h := by rw [ev]
@[simp] theorem ev_con (d : D) : ev C (.con d) env h = .ok d h := by rw [ev]
theorem ev_var (k : Nat) : ev C (.var k) env h = match env[k]? with
    | some (some d) => .ok d h
    | _ => .stuck := by first | (rw [ev]; done) | (rw [ev]; rfl)
@[simp] theorem ev_v0 (d : D) (r : Env) : ev C (.var 0) (some d :: r) h = .ok d h := by rw [ev]; rfl
@[simp] theorem ev_v1 (d : D) (x0 : Option D) (r : Env) : ev C (.var 1) (x0 :: some d :: r) h = .ok d h := by rw [ev]; rfl
@[simp] theorem ev_v2 (d : D) (x0 x1 : Option D) (r : Env) : ev C (.var 2) (x0 :: x1 :: some d :: r) h = .ok d h := by rw [ev]; rfl
@[simp] theorem ev_v3 (d : D) (x0 x1 x2 : Option D) (r : Env) : ev C (.var 3) (x0 :: x1 :: x2 :: some d :: r) h = .ok d h := by rw [ev]; rfl
@[simp] theorem ev_v4 (d : D) (x0 x1 x2 x3 : Option D) (r : Env) : ev C (.var 4) (x0 :: x1 :: x2 :: x3 :: some d :: r) h = .ok d h := by rw [ev]; rfl
@[simp] theorem ev_v5 (d : D) (x0 x1 x2 x3 x4 : Option D) (r : Env) : ev C (.var 5) (x0 :: x1 :: x2 :: x3 :: x4 :: some d :: r) h = .ok d h := by rw [ev]; rfl
@[simp] theorem ev_v6 (d : D) (x0 x1 x2 x3 x4 x5 : Option D) (r : Env) : ev C (.var 6) (x0 :: x1 :: x2 :: x3 :: x4 :: x5 :: some d :: r) h = .ok d h := by rw [ev]; rfl
@[simp] theorem ev_v7 (d : D) (x0 x1 x2 x3 x4 x5 x6 : Option D) (r : Env) : ev C (.var 7) (x0 :: x1 :: x2 :: x3 :: x4 :: x5 :: x6 :: some d :: r) h = .ok d h := by rw [ev]; rfl
@[simp] theorem ev_v8 (d : D) (x0 x1 x2 x3 x4 x5 x6 x7 : Option D) (r : Env) : ev C (.var 8) (x0 :: x1 :: x2 :: x3 :: x4 :: x5 :: x6 :: x7 :: some d :: r) h = .ok d h := by rw [ev]; rfl
@[simp] theorem ev_v9 (d : D) (x0 x1 x2 x3 x4 x5 x6 x7 x8 : Option D) (r : Env) : ev C (.var 9) (x0 :: x1 :: x2 :: x3 :: x4 :: x5 :: x6 :: x7 :: x8 :: some d :: r) h = .ok d h := by rw [ev]; rfl
@[simp] theorem ev_v10 (d : D) (x0 x1 x2 x3 x4 x5 x6 x7 x8 x9 : Option D) (r : Env) : ev C (.var 10) (x0 :: x1 :: x2 :: x3 :: x4 :: x5 :: x6 :: x7 :: x8 :: x9 :: some d :: r) h = .ok d h := by rw [ev]; rfl
@[simp] theorem ev_v11 (d : D) (x0 x1 x2 x3 x4 x5 x6 x7 x8 x9 x10 : Option D) (r : Env) : ev C (.var 11) (x0 :: x1 :: x2 :: x3 :: x4 :: x5 :: x6 :: x7 :: x8 :: x9 :: x10 :: some d :: r) h = .ok d h := by rw [ev]; rfl
@[simp] theorem ev_v12 (d : D) (x0 x1 x2 x3 x4 x5 x6 x7 x8 x9 x10 x11 : Option D) (r : Env) : ev C (.var 12) (x0 :: x1 :: x2 :: x3 :: x4 :: x5 :: x6 :: x7 :: x8 :: x9 :: x10 :: x11 :: some d :: r) h = .ok d h := by rw [ev]; rfl
@[simp] theorem ev_v13 (d : D) (x0 x1 x2 x3 x4 x5 x6 x7 x8 x9 x10 x11 x12 : Option D) (r : Env) : ev C (.var 13) (x0 :: x1 :: x2 :: x3 :: x4 :: x5 :: x6 :: x7 :: x8 :: x9 :: x10 :: x11 :: x12 :: some d :: r) h = .ok d h := by rw [ev]; rfl
@[simp] theorem ev_v14 (d : D) (x0 x1 x2 x3 x4 x5 x6 x7 x8 x9 x10 x11 x12 x13 : Option D) (r : Env) : ev C (.var 14) (x0 :: x1 :: x2 :: x3 :: x4 :: x5 :: x6 :: x7 :: x8 :: x9 :: x10 :: x11 :: x12 :: x13 :: some d :: r) h = .ok d h := by rw [ev]; rfl
@[simp] theorem ev_v15 (d : D) (x0 x1 x2 x3 x4 x5 x6 x7 x8 x9 x10 x11 x12 x13 x14 : Option D) (r : Env) : ev C (.var 15) (x0 :: x1 :: x2 :: x3 :: x4 :: x5 :: x6 :: x7 :: x8 :: x9 :: x10 :: x11 :: x12 :: x13 :: x14 :: some d :: r) h = .ok d h := by rw [ev]; rfl
@[simp] theorem ev_tup : ev C (.tup es) env h = (evs C es env h).bind fun ds h1 => need (ds.length ≤ sizeLine) (.ok (.tup ds) h1) := by rw [ev]
@[simp] theorem ev_lst : ev C (.lst es) env h = (evs C es env h).bind fun ds h1 => mkL ds h1 := by rw [ev]
@[simp] theorem ev_dct : ev C (.dct es) env h = (evs C es env h).bind fun ds h1 => mkDct ds h1 := by rw [ev]
@[simp] theorem ev_bin (op : Bop) : ev C (.bin op a b) env h = (ev C a env h).bind fun x h1 => (ev C b env h1).bind fun y h2 => binop op x y h2 := by rw [ev]
def negD (x : D) (h1 : Hh) : Out D := match x with
    | .int i => .ok (.int (-i)) h1
    | _ => .stuck
@[simp] theorem negD_int : negD (.int i) h = .ok (.int (-i)) h := rfl
@[simp] theorem ev_neg : ev C (.neg a) env h = (ev C a env h).bind negD := by rw [ev]; rfl
@[simp] theorem ev_cmp (op : Cop) : ev C (.cmp op a b) env h = (ev C a env h).bind fun x h1 => (ev C b env h1).bind fun y h2 => cmpop op x y h2 := by rw [ev]
@[simp] theorem ev_chain (o1 o2 : Cop) : ev C (.chain o1 o2 a b c) env h = (ev C a env h).bind fun x h1 => (ev C b env h1).bind fun y h2 => (cmpop o1 x y h2).bind fun t h3 => (asB t h3).bind fun k h4 =>
      if k = true then (ev C c env h4).bind fun z h5 => cmpop o2 y z h5 else .ok (.bl false) h4 := by rw [ev]
@[simp] theorem ev_and : ev C (.and a b) env h = (ev C a env h).bind fun x h1 => (asB x h1).bind fun c h2 => if c = true then ev C b env h2 else .ok (.bl false) h2 := by rw [ev]
@[simp] theorem ev_or : ev C (.or a b) env h = (ev C a env h).bind fun x h1 => (asB x h1).bind fun c h2 => if c = true then .ok (.bl true) h2 else ev C b env h2 := by rw [ev]
@[simp] theorem ev_not : ev C (.not a) env h = (ev C a env h).bind fun x h1 => (asB x h1).bind fun c h2 => .ok (.bl (!c)) h2 := by rw [ev]
@[simp] theorem ev_ite : ev C (.ite c a b) env h = (ev C c env h).bind fun x h1 => (asB x h1).bind fun k h2 => if k = true then ev C a env h2 else ev C b env h2 := by rw [ev]
@[simp] theorem ev_call (f : Str) : ev C (.call f es) env h = (evs C es env h).bind fun ds h1 => C f ds h1 := by rw [ev]
@[simp] theorem ev_bi (k : Bi) : ev C (.bi k es) env h = (evs C es env h).bind fun ds h1 => evB k ds h1 := by rw [ev]
@[simp] theorem ev_mt (m : Mt) : ev C (.mt m a es) env h = (ev C a env h).bind fun x h1 => need (mtOk m x) ((evs C es env h1).bind fun ds h2 => evM m x ds h2) := by rw [ev]
@[simp] theorem ev_ix : ev C (.ix a b) env h = (ev C a env h).bind fun x h1 => (ev C b env h1).bind fun y h2 => getIx x y h2 := by rw [ev]
@[simp] theorem ev_sl : ev C (.sl a b c) env h = (ev C a env h).bind fun x h1 => (ev C b env h1).bind fun l h2 => (partOf l h2).bind fun l' h3 => (ev C c env h3).bind fun u h4 => (partOf u h4).bind fun u' h5 => slD x l' u' h5 := by rw [ev]
@[simp] theorem ev_lenum : ev C (.lenum a) env h = (ev C a env h).bind fLenum := by rw [ev]
@[simp] theorem ev_lrev : ev C (.lrev a) env h = (ev C a env h).bind fLrev := by rw [ev]
@[simp] theorem ev_fld (f : Str) : ev C (.fld a f) env h = (ev C a env h).bind fun x h1 => getF x f h1 := by rw [ev]
@[simp] theorem ev_meth (f c m : Str) : ev C (.meth f c m a es) env h = (ev C a env h).bind fun x h1 => need (isIns h1 x c m) ((evs C es env h1).bind fun ds h2 => C f (x :: ds) h2) := by rw [ev]
@[simp] theorem ev_make (f c : Str) : ev C (.make f c es) env h = (evs C es env h).bind fun ds h1 => (C f (.obj h1.length :: ds) (h1 ++ [.ins c []])).bind fun v h2 => madeD h1.length v h2 := by rw [ev]
@[simp] theorem evS_sfld (f : Str) (e : Ex) : evS C (.sfld a f e) env h = (ev C e env h).bind fun y h1 => (ev C a env h1).bind fun x h2 => (setF x f y h2).bind fun _ h3 => .ok (.nx env) h3 := by rw [evS]
@[simp] theorem evS_raise (c : Str) : evS C (.raise c) env h = .exn c h := by rw [evS]
@[simp] theorem evS_tryX (b : List Stt) (c : Str) (i : Nat) (d : Str) (n : Nat) : evS C (.tryX b c i d n) env h = caught c (fun h1 => .ok (.nx ((List.replicate n none).set i (some (.str d)))) h1) (evSs C b env h) := by rw [evS]
theorem W_caught {α : Type} {c : Str} {f : Hh → Out α} {o : Out α} {P : α → Hh → Prop} (w : W o P) : W (caught c f o) P := by
  obtain ⟨a, h1, e, p⟩ := w
  exact ⟨a, h1, by rw [e, caught_ok], p⟩
@[simp] theorem evS_tryK (b : List Stt) (cs : List (Str × List Bool)) (i n : Nat) : evS C (.tryK b cs i n) env h = caughtK cs (keptK i n) (evSs C b env h) := by rw [evS]
@[simp] theorem evS_tr (b : List Stt) : evS C (.tr b) env h = (evSs C b env h).calm := by rw [evS]
@[simp] theorem madeD_non (n : Nat) : madeD n .non h = .ok (.obj n) h := rfl
theorem getF_ok {n : Nat} {c f : Str} {fs : List (Str × D)} {d : D} (hn : h[n]? = some (.ins c fs)) (e : fs.lookup f = some d) : getF (.obj n) f h = .ok d h := by
  simp only [getF, hn, e]
theorem setF_ok {n : Nat} {c f : Str} {fs : List (Str × D)} {d : D} (hn : h[n]? = some (.ins c fs)) (hl : fs.length < 1000) : setF (.obj n) f d h = .ok () (h.set n (.ins c (putD f d fs))) := by
  simp only [setF, hn, need_pos hl]
theorem isIns_of {n : Nat} {c m : Str} {fs : List (Str × D)} (hn : h[n]? = some (.ins c fs)) (e : fs.lookup m = none) : isIns h (.obj n) c m := ⟨n, fs, rfl, hn, e⟩
@[simp] theorem ev_lset : ev C (.lset a) env h = (ev C a env h).bind fLset := by rw [ev]
@[simp] theorem ev_lrange : ev C (.lrange es) env h = (evs C es env h).bind fLrange := by rw [ev]
@[simp] theorem ev_slS : ev C (.slS a b c e) env h = (ev C a env h).bind fun x h1 => (ev C b env h1).bind fun l h2 => (partOf l h2).bind fun l' h3 => (ev C c env h3).bind fun u h4 => (partOf u h4).bind fun u' h5 => (ev C e env h5).bind fun z h6 => (partOf z h6).bind fun z' h7 => slSD x l' u' z' h7 := by rw [ev]
@[simp] theorem ev_mt0 (m : Mt0) : ev C (.mt0 m a) env h = (ev C a env h).bind fun x h1 => evM0 m x h1 := by rw [ev]
@[simp] theorem evs_nil : evs C [] env h = .ok [] h := by rw [evs]
@[simp] theorem evs_cons : evs C (e :: es) env h = (ev C e env h).bind fun x h1 => (evs C es env h1).bind fun xs h2 => .ok (x :: xs) h2 := by rw [evs]
@[simp] theorem evT_def : evT C c env h = (ev C c env h).bind asB := rfl
@[simp] theorem asB_bl (k : Bool) : asB (.bl k) h = .ok k h := rfl
@[simp] theorem partOf_non : partOf .non h = .ok none h := rfl
@[simp] theorem partOf_int : partOf (.int i) h = .ok (some i) h := rfl
/-! statements -/
variable (tg : Ex) (s : Stt) (ss : List Stt) (x y : List Stt)
@[simp] theorem evS_asg : evS C (.asg tg e) env h = (ev C e env h).bind fun d h1 => (evA C tg d env h1).bind fun e1 h2 => .ok (.nx e1) h2 := by rw [evS]
@[simp] theorem evS_aug (k : Nat) : evS C (.aug k e) env h = match env[k]? with
    | some (some x) => (ev C e env h).bind fun y h1 => (addI x y h1).bind fun z h2 => .ok (.nx (env.set k (some z))) h2
    | _ => .stuck := by first | (rw [evS]; done) | (rw [evS]; rfl)
@[simp] theorem evS_augS : evS C (.augS a b e) env h = (ev C a env h).bind fun x h1 => (ev C b env h1).bind fun k h2 => (getIxL x k h2).bind fun y h3 => (ev C e env h3).bind fun z h4 => (addI y z h4).bind fun v h5 =>
      (setIx x k v h5).bind fun _ h6 => .ok (.nx env) h6 := by rw [evS]
@[simp] theorem evS_ex : evS C (.ex e) env h = (ev C e env h).bind fun _ h1 => .ok (.nx env) h1 := by rw [evS]
@[simp] theorem evS_ret : evS C (.ret e) env h = (ev C e env h).bind fun d h1 => .ok (.rt d) h1 := by rw [evS]
@[simp] theorem evS_retN : evS C .retN env h = .ok (.rt .non) h := by rw [evS]
@[simp] theorem evS_ite : evS C (.ite c x y) env h = (evT C c env h).bind fun k h1 => if k = true then evSs C x env h1 else evSs C y env h1 := by rw [evS]
@[simp] theorem evS_whl : evS C (.whl c x) env h = whO (evT C c) (evSs C x) env h := by rw [evS]
@[simp] theorem evS_fr : evS C (.fr tg a x) env h = (evIt C a env h).bind fun t h1 => frL (evA C tg) (evSs C x) t.2 t.1 env h1 := by rw [evS]
theorem evS_dzu {i j : Nat} {a b : Ex} : evS C (.dzu i a b j) env h = (evs C [a, b] env h).bind fun ds h2 => match env[j]?, env[i]? with
    | some (some z), some _ => (dzuL ds z h2).bind fun d h3 => .ok (.nx (env.set i (some d))) h3
    | _, _ => .stuck := by first | (rw [evS]; done) | (rw [evS]; rfl)
@[simp] theorem evS_pass : evS C .pass env h = .ok (.nx env) h := by rw [evS]
@[simp] theorem evS_brk : evS C .brk env h = .ok (.bk env) h := by rw [evS]
@[simp] theorem evS_cnt : evS C .cnt env h = .ok (.ct env) h := by rw [evS]
@[simp] theorem evSs_nil : evSs C [] env h = .ok (.nx env) h := by rw [evSs]
/-- what comes behind a statement -/
def nxt (f : Env → Hh → Out Fl) (fl : Fl) (h1 : Hh) : Out Fl := match fl with
    | .nx e => f e h1
    | o => .ok o h1
@[simp] theorem nxt_nx (f : Env → Hh → Out Fl) (e : Env) : nxt f (.nx e) h = f e h := rfl
@[simp] theorem nxt_rt (f : Env → Hh → Out Fl) (d : D) : nxt f (.rt d) h = .ok (.rt d) h := rfl
@[simp] theorem nxt_bk (f : Env → Hh → Out Fl) (e : Env) : nxt f (.bk e) h = .ok (.bk e) h := rfl
@[simp] theorem nxt_ct (f : Env → Hh → Out Fl) (e : Env) : nxt f (.ct e) h = .ok (.ct e) h := rfl
@[simp] theorem evSs_cons : evSs C (s :: ss) env h = (evS C s env h).bind (nxt (evSs C ss)) := by rw [evSs]; rfl
@[simp] theorem evA_var (k : Nat) (d : D) : evA C (.var k) d env h = .ok (env.set k (some d)) h := rfl
@[simp] theorem evA_ix (d : D) : evA C (.ix a b) d env h = (ev C a env h).bind fun x h1 => (ev C b env h1).bind fun k h2 => (setIx x k d h2).bind fun _ h3 => .ok env h3 := rfl
@[simp] theorem evA_tup2 (k l : Nat) (d e : D) : evA C (.tup [.var k, .var l]) (.tup [d, e]) env h = .ok ((env.set k (some d)).set l (some e)) h := rfl
@[simp] theorem evA_tup3 (k l m : Nat) (d e f : D) : evA C (.tup [.var k, .var l, .var m]) (.tup [d, e, f]) env h = .ok (((env.set k (some d)).set l (some e)).set m (some f)) h := rfl
/-! operators -/
@[simp] theorem bin_add : binop .add (.int i) (.int j) h = .ok (.int (i + j)) h := rfl
@[simp] theorem bin_sub : binop .sub (.int i) (.int j) h = .ok (.int (i - j)) h := rfl
@[simp] theorem bin_mul : binop .mul (.int i) (.int j) h = need (IntMulOk i j) (.ok (.int (i * j)) h) := rfl
@[simp] theorem bin_fdiv : binop .fdiv (.int i) (.int j) h = need (j ≠ 0) (.ok (.int (i.fdiv j)) h) := rfl
@[simp] theorem bin_mod : binop .mod (.int i) (.int j) h = need (j ≠ 0) (.ok (.int (i.fmod j)) h) := rfl
@[simp] theorem bin_pow : binop .pow (.int i) (.int j) h = need (0 ≤ j ∧ j ≤ 1000000 ∧ i.natAbs < 2 ^ 64) (.ok (.int (i ^ j.toNat)) h) := rfl
@[simp] theorem bin_addB (a b : Bool) : binop .add (.bl a) (.bl b) h = .ok (.int ((if a = true then 1 else 0) + (if b = true then 1 else 0))) h := rfl
@[simp] theorem cmp_isB (a b : Bool) : cmpop .is (.bl a) (.bl b) h = .ok (.bl (decide (a = b))) h := rfl
@[simp] theorem cmp_isnotB (a b : Bool) : cmpop .isnot (.bl a) (.bl b) h = .ok (.bl (!decide (a = b))) h := rfl
@[simp] theorem cmp_inDct (ks : List Int) (ds : List D) : cmpop .in (.int i) (.dct ks ds) h = .ok (.bl (decide (i ∈ ks))) h := rfl
@[simp] theorem cmp_notinDct (ks : List Int) (ds : List D) : cmpop .notin (.int i) (.dct ks ds) h = .ok (.bl (!decide (i ∈ ks))) h := rfl
theorem ix_dct {ks : List Int} {ds : List D} {k : Int} {d : D} (e : lkD ks ds k = some d) : getIx (.dct ks ds) (.int k) h = .ok d h := by simp only [getIx, e]
@[simp] theorem it_dct (ks : List Int) (ds : List D) : itSeq (.dct ks ds) h = .ok (ks.map D.int, []) h := rfl
@[simp] theorem cmp_lt : cmpop .lt (.int i) (.int j) h = .ok (.bl (decide (i < j))) h := rfl
@[simp] theorem cmp_le : cmpop .le (.int i) (.int j) h = .ok (.bl (decide (i ≤ j))) h := rfl
@[simp] theorem cmp_gt : cmpop .gt (.int i) (.int j) h = .ok (.bl (decide (j < i))) h := rfl
@[simp] theorem cmp_ge : cmpop .ge (.int i) (.int j) h = .ok (.bl (decide (j ≤ i))) h := rfl
@[simp] theorem cmp_eqI : cmpop .eq (.int i) (.int j) h = .ok (.bl (decide (i = j))) h := by
  show ofB h (eqD h (.int i) (.int j)) = _
  rw [eqD_G (by simp) (by simp)]
  show Out.ok (D.bl _) h = _
  congr 2
  exact Bool.eq_iff_iff.mpr (by rw [@decide_eq_true_iff (D.int i = D.int j) (Classical.propDecidable _), decide_eq_true_iff]; simp)
@[simp] theorem cmp_neI : cmpop .ne (.int i) (.int j) h = .ok (.bl (decide (i ≠ j))) h := by
  show ofB h ((eqD h (.int i) (.int j)).map not) = _
  rw [eqD_G (by simp) (by simp)]
  show Out.ok (D.bl _) h = _
  congr 2
  exact Bool.eq_iff_iff.mpr (by rw [decide_eq_true_iff, Bool.not_eq_true', @decide_eq_false_iff_not _ (Classical.propDecidable _)]; simp)
@[simp] theorem addI_int : addI (.int i) (.int j) h = .ok (.int (i + j)) h := rfl
/-- one law for all plain values: an own word, so that simp keeps it -/
noncomputable def same (x y : D) : Bool := @decide (x = y) (Classical.propDecidable _)
@[simp] theorem same_iff (x y : D) : same x y = true ↔ x = y := @decide_eq_true_iff _ (Classical.propDecidable _)
@[simp] theorem same_not (x y : D) : same x y = false ↔ ¬ x = y := @decide_eq_false_iff_not _ (Classical.propDecidable _)
theorem eqX_G {x y : D} (gx : G 60 x) : eqX h x y = eqD h x y := by cases x <;> first | rfl | cases gx
theorem cmp_eqG {x y : D} (gx : G 60 x) (gy : G 60 y) : cmpop .eq x y h = .ok (.bl (same x y)) h := by
  show ofB h (eqX h x y) = _
  rw [eqX_G h gx]
  rw [eqD_G gx gy]; rfl
theorem cmp_neG {x y : D} (gx : G 60 x) (gy : G 60 y) : cmpop .ne x y h = .ok (.bl (!same x y)) h := by
  show ofB h ((eqX h x y).map not) = _
  rw [eqX_G h gx]
  rw [eqD_G gx gy]; rfl
noncomputable def sameL (x y : List D) : Bool := @decide (x = y) (Classical.propDecidable _)
@[simp] theorem sameL_iff (x y : List D) : sameL x y = true ↔ x = y := @decide_eq_true_iff _ (Classical.propDecidable _)
@[simp] theorem sameL_not (x y : List D) : sameL x y = false ↔ ¬ x = y := @decide_eq_false_iff_not _ (Classical.propDecidable _)
theorem cmp_eqL {n m : Nat} {xs ys : List D} (hn : h[n]? = some (.lst xs)) (hm : h[m]? = some (.lst ys)) (gx : ∀ x, x ∈ xs → G 60 x) (gy : ∀ y, y ∈ ys → G 60 y) :
    cmpop .eq (.ref n) (.ref m) h = .ok (.bl (sameL xs ys)) h := by
  show ofB h (eqD h (.ref n) (.ref m)) = _
  rw [eqD_L hn hm gx gy]; rfl
theorem cmp_neL {n m : Nat} {xs ys : List D} (hn : h[n]? = some (.lst xs)) (hm : h[m]? = some (.lst ys)) (gx : ∀ x, x ∈ xs → G 60 x) (gy : ∀ y, y ∈ ys → G 60 y) :
    cmpop .ne (.ref n) (.ref m) h = .ok (.bl (!sameL xs ys)) h := by
  show ofB h ((eqD h (.ref n) (.ref m)).map not) = _
  rw [eqD_L hn hm gx gy]; rfl
/-! built-ins -/
@[simp] theorem bi_abs : evB .abs [.int i] h = .ok (.int (if i < 0 then -i else i)) h := rfl
@[simp] theorem bi_lenT (ds : List D) : evB .len [.tup ds] h = .ok (.int ds.length) h := rfl
@[simp] theorem bi_lenF (ds : List D) : evB .len [.frz ds] h = .ok (.int ds.length) h := rfl
theorem bi_lenR {n : Nat} {ds : List D} (hn : h[n]? = some (.lst ds)) : evB .len [.ref n] h = .ok (.int ds.length) h := by
  show (match seqOf h (.ref n) with
    | some xs => Out.ok (D.int xs.length) h
    | none => .stuck) = _
  simp [seqOf, hn]
@[simp] theorem bi_intI : evB .int [.int i] h = .ok (.int i) h := rfl
@[simp] theorem bi_intB (k : Bool) : evB .int [.bl k] h = .ok (.int (if k then 1 else 0)) h := rfl
@[simp] theorem bi_max : evB .max [.int i, .int j] h = .ok (.int (if j > i then j else i)) h := rfl
@[simp] theorem bi_min : evB .min [.int i, .int j] h = .ok (.int (if j < i then j else i)) h := rfl
@[simp] theorem bi_tupT (ds : List D) : evB .tuple [.tup ds] h = .ok (.tup ds) h := rfl
theorem bi_tupR {n : Nat} {ds : List D} (hn : h[n]? = some (.lst ds)) : evB .tuple [.ref n] h = .ok (.tup ds) h := by
  show (match seqOf h (.ref n) with
    | some xs => Out.ok (D.tup xs) h
    | none => .stuck) = _
  simp [seqOf, hn]
@[simp] theorem bi_listT (ds : List D) : evB .list [.tup ds] h = mkL ds h := rfl
theorem bi_listR {n : Nat} {ds : List D} (hn : h[n]? = some (.lst ds)) : evB .list [.ref n] h = mkL ds h := by
  show (match seqOf h (.ref n) with
    | some xs => mkL xs h
    | none => .stuck) = _
  simp [seqOf, hn]
@[simp] theorem bi_isi (d : D) (t : String) : evB .isinst [d, .ty t] h = ofB h (isInst d t) := rfl
@[simp] theorem isi_int (t : String) : isInst (.int i) t = if t ∈ ["int", "bool", "str", "tuple", "list", "dict"] then some ("int" == t || ("int" == "bool" && t == "int")) else none := rfl
@[simp] theorem isi_bl (k : Bool) (t : String) : isInst (.bl k) t = if t ∈ ["int", "bool", "str", "tuple", "list", "dict"] then some ("bool" == t || ("bool" == "bool" && t == "int")) else none := rfl
@[simp] theorem isi_tup (ds : List D) (t : String) : isInst (.tup ds) t = if t ∈ ["int", "bool", "str", "tuple", "list", "dict"] then some ("tuple" == t || ("tuple" == "bool" && t == "int")) else none := rfl
@[simp] theorem isi_non (t : String) : isInst .non t = if t ∈ ["int", "bool", "str", "tuple", "list", "dict"] then some ("NoneType" == t || ("NoneType" == "bool" && t == "int")) else none := rfl
@[simp] theorem isi_ref (n : Nat) (t : String) : isInst (.ref n) t = if t ∈ ["int", "bool", "str", "tuple", "list", "dict"] then some ("list" == t || ("list" == "bool" && t == "int")) else none := rfl
@[simp] theorem ofB_some (k : Bool) : ofB h (some k) = .ok (.bl k) h := rfl
theorem bi_sumR {n : Nat} {ns : List Int} (hn : h[n]? = some (.lst (ns.map D.int))) : evB .sum [.ref n] h = .ok (.int ns.sum) h := by
  have hi : ∀ ns : List Int, intsOf (ns.map D.int) = some ns := fun ns => by
    induction ns with
    | nil => rfl
    | cons n ns ih => rw [List.map_cons, intsOf, ih]; rfl
  show (match seqL h (.ref n) with
    | some xs => match intsOf xs with
      | some ns => Out.ok (D.int ns.sum) h
      | none => .stuck
    | none => .stuck) = _
  simp [seqL, hn, hi]
/-! places -/
@[simp] theorem atI_nil (k : Int) : L2.atI ([] : List D) k = none := by simp [L2.atI]
theorem atI_nat (ds : List D) {k : Int} (h0 : 0 ≤ k) (h1 : k < ds.length) : L2.atI ds k = ds[k.toNat]? := by
  unfold L2.atI L2.ixN
  rw [if_pos h0, if_pos h1]; rfl
theorem getIx_T (ds : List D) {k : Int} {d : D} (e : L2.atI ds k = some d) : getIx (.tup ds) (.int k) h = .ok d h := by
  show (match L2.atI ds k with
      | some d => Out.ok d h
      | none => .stuck) = _
  rw [e]
theorem getIx_F (ds : List D) {k : Int} {d : D} (e : L2.atI ds k = some d) : getIx (.frz ds) (.int k) h = .ok d h := by
  show (match L2.atI ds k with
      | some d => Out.ok d h
      | none => .stuck) = _
  rw [e]
theorem getIx_R {n : Nat} {ds : List D} (hn : h[n]? = some (.lst ds)) {k : Int} {d : D} (e : L2.atI ds k = some d) : getIx (.ref n) (.int k) h = .ok d h := by
  show (match seqOf h (.ref n) with
    | some ds => match L2.atI ds k with
      | some d => Out.ok d h
      | none => .stuck
    | none => .stuck) = _
  simp [seqOf, hn, e]
@[simp] theorem getIx_T0 (d : D) (r : List D) : getIx (.tup (d :: r)) (.int 0) h = .ok d h := getIx_T h _ (by rw [atI_nat _ (by omega) (by rw [List.length_cons]; omega)]; rfl)
@[simp] theorem getIx_T1 (d e : D) (r : List D) : getIx (.tup (d :: e :: r)) (.int 1) h = .ok e h := getIx_T h _ (by rw [atI_nat _ (by omega) (by simp; omega)]; rfl)
@[simp] theorem getIx_T2 (d e f : D) (r : List D) : getIx (.tup (d :: e :: f :: r)) (.int 2) h = .ok f h := getIx_T h _ (by rw [atI_nat _ (by omega) (by simp; omega)]; rfl)
theorem W_mkL (ds : List D) (P : D → Hh → Prop) : W (mkL ds h) P ↔ ds.length ≤ sizeLine ∧ P (.ref h.length) (h ++ [.lst ds]) := by simp [mkL]
theorem W_append {n : Nat} {xs : List D} {d : D} (hn : h[n]? = some (.lst xs)) (P : D → Hh → Prop) : W (evM .append (.ref n) [d] h) P ↔ xs.length < sizeLine ∧ P .non (h.set n (.lst (xs ++ [d]))) := by
  show W (match h[n]? with
    | some (.lst xs) => need (xs.length < sizeLine) (.ok .non (h.set n (.lst (xs ++ [d]))))
    | _ => .stuck) P ↔ _
  rw [hn]; simp
theorem G_up : ∀ {n : Nat} {d : D}, G n d → G (n + 1) d
  | 0, d, g => by cases d <;> first | trivial | cases g
  | n + 1, d, g => by
    cases d with
    | int i => trivial
    | non => trivial
    | tup ds => exact fun x hx => G_up (g x hx)
    | _ => cases g
theorem any_pd (x : D) (gx : G 60 x) : ∀ (ys : List D), (∀ y, y ∈ ys → G 60 y) → (((ys.map (pd 60)).any fun z => PyData.eqv z (pd 60 x)) = true ↔ x ∈ ys)
  | [], _ => by simp
  | y :: ys, gy => by
    simp only [List.map_cons, List.any_cons, Bool.or_eq_true, List.mem_cons]
    rw [eqv_pd 60 y x (gy y (by simp)) gx, any_pd x gx ys fun z hz => gy z (by simp [hz])]
    exact or_congr ⟨Eq.symm, Eq.symm⟩ Iff.rfl
noncomputable def memD (x : D) (ys : List D) : Bool := @decide (x ∈ ys) (Classical.propDecidable _)
@[simp] theorem memD_iff (x : D) (ys : List D) : memD x ys = true ↔ x ∈ ys := @decide_eq_true_iff _ (Classical.propDecidable _)
@[simp] theorem memD_not (x : D) (ys : List D) : memD x ys = false ↔ ¬ x ∈ ys := @decide_eq_false_iff_not _ (Classical.propDecidable _)
theorem bin_mulT (a : List D) (k : Int) : binop .mul (.tup a) (.int k) h = need (1 ≤ k ∧ k ≤ 1000 ∧ a.length ≤ 1000) (.ok (.tup (List.replicate k.toNat a).flatten) h) := rfl
theorem intsOf_map (ns : List Int) : intsOf (ns.map D.int) = some ns := by
  induction ns with
  | nil => rfl
  | cons n ns ih => rw [List.map_cons, intsOf, ih]; rfl
theorem cmp_ltL {n m : Nat} {xs ys : List Int} (hn : h[n]? = some (.lst (xs.map D.int))) (hm : h[m]? = some (.lst (ys.map D.int))) (hl : xs.length ≤ ys.length) : cmpop .lt (.ref n) (.ref m) h = .ok (.bl (ltL xs ys)) h := by
  simp only [cmpop, cmpLt, hn, hm, intsOf_map]
  rw [if_pos hl]
theorem cmp_gtT {xs ys : List Int} (hl : xs.length = ys.length) : cmpop .gt (.tup (xs.map D.int)) (.tup (ys.map D.int)) h = .ok (.bl (ltL ys xs)) h := by
  simp only [cmpop, cmpGt, intsOf_map]
  rw [if_pos hl]
@[simp] theorem cmp_gtP (a b c d : Int) : cmpop .gt (.tup [.int a, .int b]) (.tup [.int c, .int d]) h = .ok (.bl (ltL [c, d] [a, b])) h := cmp_gtT h (xs := [a, b]) (ys := [c, d]) rfl
theorem bi_maxR {n : Nat} {ns : List Int} {m : Int} (hn : h[n]? = some (.lst (ns.map D.int))) (e : ns.max? = some m) : evB .max [.ref n] h = .ok (.int m) h := by
  show fMax [.ref n] h = _
  simp only [fMax, seqL, hn, intsOf_map, e]
theorem W_count {n : Nat} {ns : List Int} {k : Int} {P : D → Hh → Prop} (hn : h[n]? = some (.lst (ns.map D.int))) (p : P (.int (ns.count k : Nat)) h) : W (evM .count (.ref n) [.int k] h) P := by
  show W (mCount (.ref n) [.int k] h) P
  simp only [mCount, hn, intsOf_map, W_ok]
  exact p
theorem W_sortedI {n : Nat} {ns : List Int} {P : D → Hh → Prop} (hn : h[n]? = some (.lst (ns.map D.int))) (hz : ns.length ≤ 16777216) (p : P (.ref h.length) (h ++ [.lst ((ns.mergeSort leI).map D.int)])) : W (evB .sorted [.ref n] h) P := by
  show W (fSorted [.ref n] h) P
  simp only [fSorted, seqL, hn, intsOf_map, mkL, W_need, W_ok, List.length_map, List.length_mergeSort, sizeLine_eq]
  exact ⟨hz, p⟩
theorem pairsOf_map (ps : List (Int × Int)) : pairsOf (ps.map fun p => D.tup [.int p.1, .int p.2]) = some ps := by
  induction ps with
  | nil => rfl
  | cons p ps ih => rw [List.map_cons, pairsOf, ih]; rfl
theorem W_sortedP {n : Nat} {ps : List (Int × Int)} {P : D → Hh → Prop} (hn : h[n]? = some (.lst (ps.map fun p => D.tup [.int p.1, .int p.2]))) (hz : ps.length ≤ 16777216) (p : P (.ref h.length) (h ++ [.lst ((ps.mergeSort leP).map fun p => D.tup [.int p.1, .int p.2])])) : W (evB .sorted [.ref n] h) P := by
  show W (fSorted [.ref n] h) P
  cases ps with
  | nil =>
    have e : intsOf ([] : List D) = some [] := rfl
    have hn' : h[n]? = some (.lst []) := hn
    simp only [fSorted, seqL, hn', e, mkL, W_need, W_ok, List.length_map, List.length_mergeSort, sizeLine_eq]
    exact ⟨hz, by simpa using p⟩
  | cons q qs =>
    have e : intsOf ((q :: qs).map fun p : Int × Int => D.tup [.int p.1, .int p.2]) = none := rfl
    simp only [fSorted, seqL, hn, e, pairsOf_map, mkL, W_need, W_ok, List.length_map, List.length_mergeSort, sizeLine_eq]
    exact ⟨hz, p⟩
/-- sorted of a tuple of pairs -/
theorem W_sortedT {ps : List (Int × Int)} {P : D → Hh → Prop} (hz : ps.length ≤ 16777216) (p : P (.ref h.length) (h ++ [.lst ((ps.mergeSort leP).map fun p => D.tup [.int p.1, .int p.2])])) : W (evB .sorted [.tup (ps.map fun p => D.tup [.int p.1, .int p.2])] h) P := by
  show W (fSorted [.tup (ps.map fun p => D.tup [.int p.1, .int p.2])] h) P
  simp only [fSorted, seqL, pairsOf_map, mkL, W_need, W_ok, List.length_map, List.length_mergeSort, sizeLine_eq]
  exact ⟨hz, p⟩
theorem W_pop0 {n : Nat} {x : D} {xs : List D} (hn : h[n]? = some (.lst (x :: xs))) (P : D → Hh → Prop) : W (evM .popAt (.ref n) [.int 0] h) P ↔ P x (h.set n (.lst xs)) := by
  show W (match h[n]? with
    | some (.lst xs) => need (-(2 ^ 63) ≤ (0 : Int) ∧ (0 : Int) < 2 ^ 63) (match seqIndex? 0 xs.length with
      | some k => match xs[k]? with
        | some y => .ok y (h.set n (.lst (xs.eraseIdx k)))
        | none => .stuck
      | none => .stuck)
    | _ => .stuck) P ↔ _
  rw [hn]
  simp [seqIndex?]
@[simp] theorem mtOk_append (n : Nat) : mtOk .append (.ref n) := ⟨n, rfl⟩
@[simp] theorem mtOk_extend (n : Nat) : mtOk .extend (.ref n) := ⟨n, rfl⟩
@[simp] theorem mtOk_popAt (n : Nat) : mtOk .popAt (.ref n) := ⟨n, rfl⟩
@[simp] theorem mtOk_insert (n : Nat) : mtOk .insert (.ref n) := ⟨n, rfl⟩
@[simp] theorem mtOk_remove (n : Nat) : mtOk .remove (.ref n) := ⟨n, rfl⟩
@[simp] theorem mtOk_count (n : Nat) : mtOk .count (.ref n) := .inl ⟨n, rfl⟩
@[simp] theorem mtOk_index (n : Nat) : mtOk .index (.ref n) := .inl ⟨n, rfl⟩
@[simp] theorem mtOk_tup (ds : List D) : mtOk .index (.tup ds) := .inr ⟨ds, rfl⟩
@[simp] theorem mtOk_countS (x : Str) : mtOk .count (.str x) := .inr ⟨x, rfl⟩
@[simp] theorem mtOk_join (x : Str) : mtOk .join (.str x) := ⟨x, rfl⟩
@[simp] theorem mtOk_split (x : Str) : mtOk .split (.str x) := ⟨x, rfl⟩
/-! texts -/
@[simp] theorem ev_sset : ev C (.sset a) env h = (ev C a env h).bind fSset := by rw [ev]
@[simp] theorem ev_fmt : ev C (.fmt a) env h = (ev C a env h).bind fFmt := by rw [ev]
@[simp] theorem ev_fstr : ev C (.fstr es) env h = evJ C es Str.empty env h := by rw [ev]
@[simp] theorem evJ_nil (x : Str) : evJ C [] x env h = .ok (.str x) h := by rw [evJ]
@[simp] theorem evJ_cons (x : Str) : evJ C (e :: es) x env h = (ev C e env h).bind fun y h1 => glueD x y fun z => evJ C es z env h1 := by rw [evJ]
theorem glueD_str (x y : Str) (f : Str → Out D) (hz : (x ++ y).length ≤ sizeLine) : glueD x (.str y) f = f (x ++ y) := by simp only [glueD]; rw [if_pos hz]
theorem fFmt_int (hz : i.natAbs.log2 < 1920) : fFmt (.int i) h = .ok (.str (Str.ofString (toString i))) h := by simp only [fFmt]; rw [if_pos hz]
theorem bi_strI (hz : i.natAbs.log2 < 1920) : evB .str [.int i] h = .ok (.str (Str.ofString (toString i))) h := by
  show fStr [.int i] h = _
  simp only [fStr]
  rw [if_pos hz]
@[simp] theorem bi_strS (x : Str) : evB .str [.str x] h = .ok (.str x) h := rfl
theorem bi_lenS (x : Str) (hz : x.length ≤ sizeLine) : evB .len [.str x] h = .ok (.int x.length) h := by
  show need _ _ = _
  rw [need_pos hz]
theorem bi_intS {x : Str} {n : Int} (hz : x.length ≤ 640) (e : intText? x = some n) : evB .int [.str x] h = .ok (.int n) h := by
  show fInt [.str x] h = _
  simp only [fInt]
  rw [if_pos hz, e]
@[simp] theorem isi_str (x : Str) (t : String) : isInst (.str x) t = if t ∈ ["int", "bool", "str", "tuple", "list", "dict"] then some ("str" == t || ("str" == "bool" && t == "int")) else none := rfl
@[simp] theorem isi_dct (ks : List Int) (ds : List D) (t : String) : isInst (.dct ks ds) t = if t ∈ ["int", "bool", "str", "tuple", "list", "dict"] then some ("dict" == t || ("dict" == "bool" && t == "int")) else none := rfl
theorem getIx_S (x : Str) (hz : x.length ≤ sizeLine) {k : Int} {c : Nat} (e : L2.atI x.cps.toList k = some c) : getIx (.str x) (.int k) h = .ok (.str ⟨#[c]⟩) h := by
  simp only [getIx]
  rw [if_pos hz, e]
theorem slD_S (x : Str) (hz : x.length ≤ sizeLine) (lo hi : Option Int) : slD (.str x) lo hi h = .ok (.str (L2.cutS x lo hi)) h := by
  simp only [slD]
  rw [if_pos hz]
@[simp] theorem it_str (x : Str) : itSeq (.str x) h = .ok (signs x, []) h := rfl
@[simp] theorem signOf_sg (c : Nat) : signOf ⟨#[c]⟩ = some c := rfl
@[simp] theorem cmp_inS (c : Nat) (z : Str) : cmpop .in (.str ⟨#[c]⟩) (.str z) h = .ok (.bl (decide (c ∈ z.cps.toList))) h := rfl
@[simp] theorem cmp_notinS (c : Nat) (z : Str) : cmpop .notin (.str ⟨#[c]⟩) (.str z) h = .ok (.bl (!decide (c ∈ z.cps.toList))) h := rfl
@[simp] theorem cmp_eqS (x y : Str) : cmpop .eq (.str x) (.str y) h = .ok (.bl (decide (x = y))) h := rfl
@[simp] theorem cmp_neS (x y : Str) : cmpop .ne (.str x) (.str y) h = .ok (.bl (!decide (x = y))) h := rfl
@[simp] theorem bin_addS (x y : Str) : binop .add (.str x) (.str y) h = need (x.length + y.length ≤ sizeLine) (.ok (.str (x ++ y)) h) := rfl
theorem bin_mulS (x : Str) (k : Int) : binop .mul (.str x) (.int k) h = need (MulOk x k) (.ok (.str (Txt.mul x k)) h) := rfl
@[simp] theorem W_countS (x y : Str) (P : D → Hh → Prop) : W (evM .count (.str x) [.str y] h) P ↔ P (.int (Txt.count x y)) h := by
  show W (mCount (.str x) [.str y] h) P ↔ _
  simp only [mCount, W_ok]
theorem strsOf_map (xs : List Str) : strsOf (xs.map D.str) = some xs := by
  induction xs with
  | nil => rfl
  | cons x xs ih => rw [List.map_cons, strsOf, ih]; rfl
theorem W_join {x : Str} {n : Nat} {ys : List Str} {P : D → Hh → Prop} (hn : h[n]? = some (.lst (ys.map D.str))) (hz : (ys.map (·.length)).sum + ys.length * x.length ≤ 16777216) (p : P (.str (Txt.join x ys)) h) : W (evM .join (.str x) [.ref n] h) P := by
  show W (mJoin (.str x) [.ref n] h) P
  simp only [mJoin, seqOf, hn, strsOf_map]
  rw [if_pos hz]
  exact (W_ok _ _ _).mpr p
theorem W_split {x y : Str} {P : D → Hh → Prop} (hy : (y.length == 0) = false) (hx : x.length + 2 ≤ sizeLine) (hl : (Txt.split x y).length ≤ sizeLine) (p : P (.ref h.length) (h ++ [.lst ((Txt.split x y).map D.str)])) : W (evM .split (.str x) [.str y] h) P := by
  show W (mSplit (.str x) [.str y] h) P
  simp only [mSplit, W_need, W_mkL, List.length_map]
  exact ⟨⟨hy, hx⟩, hl, p⟩
theorem W_sset {z : Str} {P : D → Hh → Prop} (hz : z.length < 63) (hl : (letters z).length ≤ sizeLine) (p : P (.ref h.length) (h ++ [.lst ((letters z).map fun c => .str ⟨#[c]⟩)])) : W (fSset (.str z) h) P := by
  simp only [fSset, W_need, W_mkL, List.length_map]
  exact ⟨hz, hl, p⟩
theorem W_pop {n : Nat} {xs : List D} {x : D} (hn : h[n]? = some (.lst (xs ++ [x]))) (P : D → Hh → Prop) : W (evM0 .pop (.ref n) h) P ↔ P x (h.set n (.lst xs)) := by
  simp only [evM0, hn]
  simp
theorem W_reverse {n : Nat} {xs : List D} (hn : h[n]? = some (.lst xs)) (P : D → Hh → Prop) : W (evM0 .reverse (.ref n) h) P ↔ P .non (h.set n (.lst xs.reverse)) := by
  simp only [evM0, hn, W_ok]
theorem W_clear {n : Nat} {xs : List D} (hn : h[n]? = some (.lst xs)) (P : D → Hh → Prop) : W (evM0 .clear (.ref n) h) P ↔ P .non (h.set n (.lst [])) := by
  simp only [evM0, hn, W_ok]
theorem W_insert {n : Nat} {xs : List D} {k : Int} {d : D} (hn : h[n]? = some (.lst xs)) (P : D → Hh → Prop) : W (evM .insert (.ref n) [.int k, d] h) P ↔ (xs.length < sizeLine ∧ 0 ≤ k ∧ k < 2 ^ 63) ∧ P .non (h.set n (.lst (xs.take k.toNat ++ [d] ++ xs.drop k.toNat))) := by
  show W (mInsert (.ref n) [.int k, d] h) P ↔ _
  simp only [mInsert, hn, W_need, W_ok]
theorem W_remove {n : Nat} {ns : List Int} {k : Int} (hn : h[n]? = some (.lst (ns.map D.int))) (P : D → Hh → Prop) : W (evM .remove (.ref n) [.int k] h) P ↔ k ∈ ns ∧ P .non (h.set n (.lst ((ns.eraseIdx (ns.idxOf k)).map D.int))) := by
  show W (mRemove (.ref n) [.int k] h) P ↔ _
  have e : ∀ (ns : List Int) (i : Nat), (ns.map D.int).eraseIdx i = (ns.eraseIdx i).map D.int := fun ns => eraseIdx_map' D.int ns
  simp only [mRemove, hn, intsOf_map, W_need, W_ok, e]
theorem findIdx_map' (f : D → PyData) (x : D) : ∀ xs : List D, (∀ y, y ∈ xs → (PyData.eqv (f y) (f x) = true ↔ y = x)) → (xs.map f).findIdx (fun z => PyData.eqv z (f x)) = xs.findIdx (fun y => same y x)
  | [], _ => rfl
  | y :: ys, hh => by
    rw [List.map_cons, List.findIdx_cons, List.findIdx_cons, findIdx_map' f x ys fun z hz => hh z (by simp [hz])]
    have e : PyData.eqv (f y) (f x) = same y x := Bool.eq_iff_iff.mpr ((hh y (by simp)).trans (same_iff y x).symm)
    rw [e]
theorem shaped_G (d : D) : SeqAt.shaped (pd 60 d) = true := by
  unfold SeqAt.shaped; rw [canLay_pd, Bool.true_and]; exact decide_eq_true (Nat.le_trans (depth_pd 60 d) (by omega))
theorem shaped_GL (ds : List D) : SeqAt.shaped (.list (ds.map (pd 60))) = true ∧ SeqAt.shaped (.tuple (ds.map (pd 60))) = true := by
  have a : PyData.canLayAll0 (ds.map (pd 60)) = true := canLayAll0_of fun p hp => by obtain ⟨d, _, e⟩ := List.mem_map.mp hp; exact e ▸ canLay_pd 60 d
  have b : PyData.depthAll (ds.map (pd 60)) ≤ 60 := depthAll_of fun p hp => by obtain ⟨d, _, e⟩ := List.mem_map.mp hp; exact e ▸ depth_pd 60 d
  constructor
  · unfold SeqAt.shaped
    rw [PyData.canLay0, a, Bool.true_and]
    exact decide_eq_true (by show PyData.depthAll _ + 1 ≤ 64; omega)
  · unfold SeqAt.shaped
    rw [PyData.canLay0, a, Bool.true_and]
    exact decide_eq_true (by show PyData.depthAll _ + 1 ≤ 64; omega)
/-- the first place in a list of plain values -/
theorem W_indexR {n : Nat} {xs : List D} {x : D} {P : D → Hh → Prop} (hn : h[n]? = some (.lst xs)) (gs : ∀ y, y ∈ xs → G 60 y) (gx : G 60 x) (hx : x ∈ xs) (p : P (.int (xs.findIdx fun y => same y x : Nat)) h) : W (evM .index (.ref n) [x] h) P := by
  show W (mIndex (.ref n) [x] h) P
  have t1 : toP 66 h (.ref n) = some (.list (xs.map (pd 60))) := by
    show (match h[n]? with
      | some (.lst ds) => (ds.mapM (toP 65 h)).map PyData.list
      | _ => none) = _
    rw [hn]
    show (xs.mapM (toP 65 h)).map PyData.list = _
    rw [mapM_some (g := pd 60) fun d hd => toP_G h 60 d 65 (gs d hd) (by omega)]; rfl
  have e := findIdx_map' (pd 60) x xs fun y hy => eqv_pd 60 y x (gs y hy) gx
  have hl : xs.findIdx (fun y => same y x) < (xs.map (pd 60)).length := by
    rw [List.length_map]
    exact List.findIdx_lt_length_of_exists ⟨x, hx, by simp⟩
  simp only [mIndex, t1, toP_G h 60 x 66 gx (by omega), (shaped_GL xs).1, shaped_G x, e, hl, decide_true, Bool.and_self, if_true, W_ok]
  exact p
theorem W_indexT {xs : List D} {x : D} {P : D → Hh → Prop} (gs : ∀ y, y ∈ xs → G 59 y) (gx : G 60 x) (hx : x ∈ xs) (p : P (.int (xs.findIdx fun y => same y x : Nat)) h) : W (evM .index (.tup xs) [x] h) P := by
  show W (mIndex (.tup xs) [x] h) P
  have g60 : ∀ y, y ∈ xs → G 60 y := fun y hy => G_up (gs y hy)
  have t1 : toP 66 h (.tup xs) = some (.tuple (xs.map (pd 60))) := by
    show (xs.mapM (toP 65 h)).map PyData.tuple = _
    rw [mapM_some (g := pd 60) fun d hd => toP_G h 60 d 65 (g60 d hd) (by omega)]; rfl
  have e := findIdx_map' (pd 60) x xs fun y hy => eqv_pd 60 y x (g60 y hy) gx
  have hl : xs.findIdx (fun y => same y x) < (xs.map (pd 60)).length := by
    rw [List.length_map]
    exact List.findIdx_lt_length_of_exists ⟨x, hx, by simp⟩
  simp only [mIndex, t1, toP_G h 60 x 66 gx (by omega), (shaped_GL xs).2, shaped_G x, e, hl, decide_true, Bool.and_self, if_true, W_ok]
  exact p
theorem W_lrevR {n : Nat} {ds : List D} {P : D → Hh → Prop} (hn : h[n]? = some (.lst ds)) (hz : ds.length ≤ 16777216) (p : P (.ref h.length) (h ++ [.lst ds.reverse])) : W (fLrev (.ref n) h) P := by
  simp only [fLrev, seqL, hn, mkL, W_need, W_ok, List.length_reverse, sizeLine_eq]
  exact ⟨hz, p⟩
theorem W_lrange1 {k : Nat} {P : D → Hh → Prop} (hz : k ≤ 16777216) (p : P (.ref h.length) (h ++ [.lst (rangeD 0 k)])) : W (fLrange [.int (k : Nat)] h) P := by
  simp only [fLrange, itRange, W_bind, W_need, W_ok, mkL, Int.toNat_natCast]
  refine ⟨by omega, ?_, p⟩
  simp only [rangeD, List.length_map, List.length_range, sizeLine_eq]
  exact hz
theorem slSD_R {n : Nat} {ds : List D} {lo hi st : Option Int} {P : D → Hh → Prop} (hn : h[n]? = some (.lst ds)) (hz : ds.length ≤ 16777216) (h0 : st ≠ some 0) (p : P (.ref h.length) (h ++ [.lst (pickD ds lo hi st)])) : W (slSD (.ref n) lo hi st h) P := by
  simp only [slSD, seqL, hn, mkL, W_need, W_ok]
  exact ⟨h0, Nat.le_trans (pickL_length ds lo hi st) (by rw [sizeLine_eq]; exact hz), p⟩
theorem slSD_F {ds : List D} {lo hi st : Option Int} {P : D → Hh → Prop} (hz : ds.length ≤ 16777216) (h0 : st ≠ some 0) (p : P (.ref h.length) (h ++ [.lst (pickD ds lo hi st)])) : W (slSD (.frz ds) lo hi st h) P := by
  simp only [slSD, seqL, mkL, W_need, W_ok]
  exact ⟨h0, Nat.le_trans (pickL_length ds lo hi st) (by rw [sizeLine_eq]; exact hz), p⟩
theorem evIt_bi (k : Bi) : evIt C (.bi k es) env h = (evs C es env h).bind fun ds h1 => itB k ds h1 := rfl
@[simp] theorem itB_range : itB .range [.int j] h = need (-(2 ^ 62) ≤ j ∧ j < 2 ^ 62) (.ok (rangeD 0 j.toNat, []) h) := rfl
@[simp] theorem itB_range2 : itB .range [.int i, .int j] h = need (-(2 ^ 62) ≤ i ∧ i < 2 ^ 62 ∧ -(2 ^ 62) ≤ j ∧ j < 2 ^ 62) (.ok (rangeD i (j - i).toNat, []) h) := rfl
@[simp] theorem chkOk_nil : chkOk [] h := fun _ hp => absurd hp (by simp)
end
/-- a body's end as a call's -/
def retP (P : D → Hh → Prop) (fl : Fl) (h1 : Hh) : Prop := match fl with
      | .rt d => P d h1
      | .nx _ => P .non h1
      | _ => False
@[simp] theorem retP_rt (P : D → Hh → Prop) (d : D) (h : Hh) : retP P (.rt d) h = P d h := rfl
@[simp] theorem retP_nx (P : D → Hh → Prop) (e : Env) (h : Hh) : retP P (.nx e) h = P .non h := rfl
@[simp] theorem retP_bk (P : D → Hh → Prop) (e : Env) (h : Hh) : retP P (.bk e) h = False := rfl
@[simp] theorem retP_ct (P : D → Hh → Prop) (e : Env) (h : Hh) : retP P (.ct e) h = False := rfl
/-- a call's outcome by its body's -/
theorem W_runF {C : CallT} {n sl : Nat} {body : List Stt} {ds : List D} {h : Hh} {P : D → Hh → Prop} (hl : ds.length = n)
    (w : W (evSs C body (ds.map some ++ List.replicate (sl - ds.length) none) h) (retP P)) : W (runF C ⟨n, sl, body⟩ ds h) P := by
  unfold runF
  rw [W_need, W_bind]
  refine ⟨hl, W_mono w fun fl h1 p => ?_⟩
  cases fl <;> simp_all
theorem W_call {T : Tb} {f : Str} {n sl : Nat} {body : List Stt} (hf : T f = some ⟨n, sl, body⟩) {k : Nat} {ds : List D} {h : Hh} {P : D → Hh → Prop} (hl : ds.length = n)
    (w : W (evSs (callF T k) body (ds.map some ++ List.replicate (sl - ds.length) none) h) (retP P)) : W (callF T (k + 1) f ds h) P := by
  rw [W_callF hf]; exact W_runF hl w
end Ip

/-! Ip, part Y: helpers that stand in many laws, walked once. -/
namespace Ip
open PySem

theorem W_iff {α : Type} {o : Out α} {a : α} {h : Hh} (w : W o fun x h' => x = a ∧ h' = h) : o = .ok a h :=
  let ⟨_, _, e, e1, e2⟩ := w; by rw [e, e1, e2]

theorem gcdLoop {C : CallT} (a b : D) (one other : Int) (h : Hh) (h1 : 0 ≤ one) (h2 : 0 ≤ other) {P : Fl → Hh → Prop}
    (hP : P (.nx [some a, some b, some (.int (Int.gcd one other)), some (.int 0)]) h) :
    W (whO (evT C (.cmp .gt (.var 3) (.int 0))) (evSs C [.asg (.tup [.var 2, .var 3]) (.tup [.var 3, .bin .mod (.var 2) (.var 3)])]) [some a, some b, some (.int one), some (.int other)] h) P := by
  refine W_whO (I := fun n env h' => h' = h ∧ ∃ x y : Int, 0 ≤ x ∧ 0 ≤ y ∧ y.toNat = n ∧ Int.gcd x y = Int.gcd one other ∧ env = [some a, some b, some (.int x), some (.int y)]) ?_ ⟨rfl, one, other, h1, h2, rfl, rfl, rfl⟩
  rintro n env h' ⟨rfl, x, y, hx, hy, hn, hg, rfl⟩
  simp
  refine ⟨fun hlt => ⟨by omega, by simp only [sizeLine_eq]; omega, (x.fmod y).toNat, ?_, y, hy, x.fmod y, ?_, rfl, ?_, rfl, rfl⟩, fun hle => ?_⟩
  · rw [Int.fmod_eq_emod_of_nonneg _ hy, ← hn]
    have := Int.emod_lt_of_pos x hlt
    omega
  · rw [Int.fmod_eq_emod_of_nonneg _ hy]; exact Int.emod_nonneg _ (by omega)
  · rw [Int.fmod_eq_emod_of_nonneg _ hy, ← hg, Int.gcd_comm x y, ← Int.gcd_add_mul_left_right y (x % y) (x / y), Int.emod_add_mul_ediv]
  · have e : y = 0 := by omega
    subst e
    rw [← hg, Int.gcd_zero_right] at hP
    rw [Int.natAbs_of_nonneg hx] at hP
    exact hP

def bdFraction : List Stt := [
  .ite (.cmp .lt (.var 1) (.int 0)) [.asg (.var 0) (.bin .sub (.int 0) (.var 0)), .asg (.var 1) (.bin .sub (.int 0) (.var 1))] [],
  .asg (.var 2) (.bi .abs [.var 0]),
  .asg (.var 3) (.var 1),
  .whl (.cmp .gt (.var 3) (.int 0)) [.asg (.tup [.var 2, .var 3]) (.tup [.var 3, .bin .mod (.var 2) (.var 3)])],
  .ret (.tup [.bin .fdiv (.var 0) (.var 2), .bin .fdiv (.var 1) (.var 2)])]
theorem abs_eq (a : Int) : (if a < 0 then -a else a) = (a.natAbs : Int) := by split <;> omega
theorem fdiv_gcd_left (a b : Int) : a.fdiv (Int.gcd a b : Int) = a / (Int.gcd a b : Int) := Int.fdiv_eq_ediv_of_dvd (Int.gcd_dvd_left ..)
theorem fdiv_gcd_right (a b : Int) : b.fdiv (Int.gcd a b : Int) = b / (Int.gcd a b : Int) := Int.fdiv_eq_ediv_of_dvd (Int.gcd_dvd_right ..)
theorem Fq_of {a b : Int} (hb : 0 < b) : D.tup [.int (a.fdiv (Int.gcd a b : Int)), .int (b.fdiv (Int.gcd a b : Int))] = Fq (Rat.divInt a b) := by
  rw [fdiv_gcd_left, fdiv_gcd_right, Fq, num_of_pos hb, den_of_pos hb]
theorem gcd_pos {a b : Int} (hb : b ≠ 0) : Int.gcd a b ≠ 0 := fun e => hb (Int.gcd_eq_zero_iff.mp e).2
theorem gcd_abs (a b : Int) : Int.gcd (a.natAbs : Int) b = Int.gcd a b := by simp [Int.gcd]
/-- the fraction of two ints -/
theorem sp_fraction {T : Tb} (hT : T "_law_fraction" = some ⟨2, 4, bdFraction⟩) (k : Nat) (a b : Int) (hb : b ≠ 0) (h : Hh) :
    callF T (k + 1) "_law_fraction" [.int a, .int b] h = .ok (Fq (Rat.divInt a b)) h := by
  refine W_iff (W_call hT rfl ?_)
  have key : ∀ a b : Int, 0 < b → W (evSs (callF T k) [.asg (.var 2) (.bi .abs [.var 0]),
  .asg (.var 3) (.var 1),
  .whl (.cmp .gt (.var 3) (.int 0)) [.asg (.tup [.var 2, .var 3]) (.tup [.var 3, .bin .mod (.var 2) (.var 3)])],
  .ret (.tup [.bin .fdiv (.var 0) (.var 2), .bin .fdiv (.var 1) (.var 2)])] [some (.int a), some (.int b), none, none] h) (retP fun d h1 => d = Fq (Rat.divInt a b) ∧ h1 = h) := by
    intro a b hb
    simp
    rw [abs_eq]
    refine gcdLoop _ _ _ _ _ (by omega) (by omega) ?_
    rw [gcd_abs]
    have hg : (Int.gcd a b : Int) ≠ 0 := by have := gcd_pos (a := a) (b := b) (by omega); omega
    simp [hg, Fq_of hb]
    simp only [sizeLine_eq]; omega
  unfold bdFraction
  rw [evSs_cons, W_bind, evS_ite, W_bind]
  simp only [List.map, List.length, List.replicate, List.cons_append, List.nil_append, evT_def, ev_cmp, ev_v1, ev_int, cmp_lt, asB_bl, W_bind, W_ok, W_if, decide_eq_true_eq]
  refine ⟨fun hlt => ?_, fun hge => ?_⟩
  · have := key (-a) (-b) (by omega)
    rw [Rat.neg_divInt_neg] at this
    simpa using this
  · have := key a b (by omega)
    simpa using this

def bdTake : List Stt := [
  .ite (.cmp .eq (.var 0) (.lst [])) [.ret (.int 0)] [],
  .ret (.bin .mod (.mt .popAt (.var 0) [.int 0]) (.var 1))]
/-- the draws: a list of ints -/
def Dr (n : Nat) (h : Hh) : Prop := ∃ ds : List Int, h[n]? = some (.lst (ds.map D.int))
/-- a draw: some number below many -/
theorem sp_take {T : Tb} (hT : T "_law_take" = some ⟨2, 2, bdTake⟩) (k : Nat) (n : Nat) (many : Int) (hm : 0 < many) (h : Hh) (hd : Dr n h) :
    W (callF T (k + 1) "_law_take" [.ref n, .int many] h) fun d h' => ∃ r : Int, d = .int r ∧ 0 ≤ r ∧ r < many ∧ Dr n h' ∧ Kp (· = n) h h' := by
  obtain ⟨ds, hn⟩ := hd
  refine W_call hT rfl ?_
  have hlt := lt_of_get hn
  have hn1 : (h ++ [O.lst []])[n]? = some (.lst (ds.map D.int)) := by rw [List.getElem?_append_left hlt]; exact hn
  simp [bdTake, W_mkL]
  rw [cmp_eqL (h ++ [O.lst []]) (ys := []) hn1 (by simp) (by simp) (by simp)]
  simp
  constructor
  · rintro rfl
    exact ⟨hm, ⟨[], by simpa using hn1⟩, Kp.app _ _ _⟩
  · intro hne
    cases ds with
    | nil => exact absurd rfl hne
    | cons x xs =>
      rw [W_pop0 _ hn1]
      simp
      rw [Int.fmod_eq_emod_of_nonneg _ (by omega)]
      refine ⟨by omega, Int.emod_nonneg _ (by omega), Int.emod_lt_of_pos _ hm, ⟨xs, ?_⟩, ?_⟩
      · rw [List.getElem?_set_self (by simp; omega)]
      · exact (Kp.app (· = n) h [O.lst []]).trans (Kp.set (x := (· = n)) rfl _ _)

theorem Dr.app {n : Nat} {h : Hh} (hd : Dr n h) (j : Hh) : Dr n (h ++ j) := by
  obtain ⟨ds, hn⟩ := hd
  exact ⟨ds, by rw [List.getElem?_append_left (lt_of_get hn)]; exact hn⟩
theorem Dr.lt {n : Nat} {h : Hh} (hd : Dr n h) : n < h.length := by
  obtain ⟨ds, hn⟩ := hd
  exact lt_of_get hn
theorem W_getR {h : Hh} {n : Nat} {ds : List D} {k : Int} {d : D} {P : D → Hh → Prop} (hn : h[n]? = some (.lst ds)) (e : L2.atI ds k = some d) (p : P d h) : W (getIx (.ref n) (.int k) h) P := by
  rw [getIx_R h hn e, W_ok]; exact p

theorem divInt_parts (a b : Int) (hb : 0 < b) : ∃ g : Int, 0 < g ∧ (Rat.divInt a b).num * g = a ∧ ((Rat.divInt a b).den : Int) * g = b := by
  refine ⟨(Int.gcd a b : Int), ?_, ?_, ?_⟩
  · have := gcd_pos (a := a) (b := b) (by omega); omega
  · rw [num_of_pos hb]; exact Int.ediv_mul_cancel (Int.gcd_dvd_left ..)
  · rw [den_of_pos hb]; exact Int.ediv_mul_cancel (Int.gcd_dvd_right ..)

def bdDraws : List Stt := [
  .asg (.var 1) (.lst []),
  .fr (.var 2) (.bi .range [.bi .min [.bi .len [.var 0], .int 80]]) [.asg (.var 3) (.bi .abs [.ix (.var 0) (.var 2)]), .ite (.cmp .lt (.var 3) (.bin .pow (.int 10) (.int 18))) [.asg (.var 4) (.bin .mod (.bin .mul (.bin .mod (.bin .add (.bin .add (.var 3) (.bin .mul (.int 7919) (.var 2))) (.int 3)) (.int 2147483647)) (.int 48271)) (.int 2147483647)), .asg (.var 4) (.bin .mod (.bin .mul (.var 4) (.var 4)) (.int 2147483629)), .ex (.mt .append (.var 1) [.bin .mod (.bin .fdiv (.var 4) (.int 16)) (.int 1000)]), .ex (.mt .append (.var 1) [.bin .mod (.bin .fdiv (.var 4) (.int 16000)) (.int 1000)]), .asg (.var 4) (.bin .mod (.bin .add (.var 4) (.bin .mul (.int 40692) (.bin .add (.var 2) (.int 7)))) (.int 2147483587)), .ex (.mt .append (.var 1) [.bin .mod (.bin .fdiv (.bin .mod (.bin .mul (.var 4) (.var 4)) (.int 2147483647)) (.int 16)) (.int 1000)])] [.asg (.var 5) (.int 0), .whl (.and (.cmp .ge (.var 3) (.int 1000)) (.cmp .lt (.var 5) (.int 60))) [.ex (.mt .append (.var 1) [.bin .mod (.var 3) (.int 1000)]), .asg (.var 3) (.bin .fdiv (.var 3) (.int 1000)), .asg (.var 5) (.bin .add (.var 5) (.int 1))]]],
  .ret (.sl (.var 1) (.non) (.int 240))]
theorem get_set {h : Hh} {n : Nat} (hl : n < h.length) (o : O) : (h.set n o)[n]? = some o := List.getElem?_set_self hl
theorem memRange {x : D} {lo : Int} {n : Nat} (hx : x ∈ rangeD lo n) : ∃ i : Nat, i < n ∧ x = .int (lo + i) := by
  unfold rangeD at hx
  obtain ⟨i, hi, e⟩ := List.mem_map.mp hx
  exact ⟨i, List.mem_range.mp hi, e.symm⟩
theorem lenRange (lo : Int) (n : Nat) : (rangeD lo n).length = n := by simp [rangeD]
theorem fmod_range (a : Int) {b : Int} (hb : 0 < b) : 0 ≤ a.fmod b ∧ a.fmod b < b := by
  rw [Int.fmod_eq_emod_of_nonneg _ (by omega)]
  exact ⟨Int.emod_nonneg _ (by omega), Int.emod_lt_of_pos _ hb⟩
theorem mulokR' {a b : Int} (h0 : -(2 ^ 64) < b) (h1 : b < 2 ^ 64) : IntMulOk a b := mulokR (by omega)
theorem mulokL' {a b : Int} (h0 : -(2 ^ 64) < a) (h1 : a < 2 ^ 64) : IntMulOk a b := mulokL (by omega)
/-- a number behind a list of numbers -/
theorem W_apI {h : Hh} {n : Nat} {ds : List Int} {v : Int} {P : D → Hh → Prop} (hn : h[n]? = some (.lst (ds.map D.int))) (hl : ds.length < 16777216)
    (hP : ∀ h', Kp (· = n) h h' → h'[n]? = some (.lst ((ds ++ [v]).map D.int)) → P .non h') : W (evM .append (.ref n) [.int v] h) P := by
  rw [W_append _ hn]
  refine ⟨by simp only [sizeLine_eq, List.length_map]; exact hl, hP _ (Kp.set (x := (· = n)) rfl _ _) ?_⟩
  rw [get_set (lt_of_get hn), List.map_append]; rfl
theorem Kp.inNew {x : Nat → Prop} {a b c : Hh} {n : Nat} (p : Kp x a b) (q : Kp (· = n) b c) (hn : a.length ≤ n) : Kp x a c :=
  ⟨Nat.le_trans p.1 q.1, fun m hm hx => (q.2 m (Nat.lt_of_lt_of_le hm p.1) (by omega)).trans (p.2 m hm hx)⟩
/-- the draws of a script -/
theorem sp_draws {T : Tb} (hT : T "_law_draws" = some ⟨1, 6, bdDraws⟩) (k : Nat) (ns : List Int) (hl : ns.length ≤ 63) (h : Hh) :
    W (callF T (k + 1) "_law_draws" [.frz (ns.map D.int)] h) fun d h' => ∃ n, d = .ref n ∧ h.length ≤ n ∧ Dr n h' ∧ Kp (fun _ => False) h h' := by
  refine W_call hT rfl ?_
  simp [bdDraws, W_mkL, evIt_bi]
  have e : (if (80 : Int) < ns.length then 80 else (ns.length : Int)) = ns.length := if_neg (by omega)
  rw [e]
  refine ⟨by omega, W_frL (I := fun xs env h' => Kp (fun _ => False) h h' ∧ (∀ x, x ∈ xs → ∃ i : Nat, i < ns.length ∧ x = .int i) ∧ (∃ ds : List Int, ds.length + 60 * xs.length ≤ 60 * ns.length ∧ h'[h.length]? = some (.lst (ds.map D.int))) ∧
    ∃ a b c d : Option D, env = [some (.frz (ns.map D.int)), some (.ref h.length), a, b, c, d]) (fun xs env h' _ => chkOk_nil h') ?_ ?_ ?_⟩
  · rintro x xs env h' ⟨hk, hx, ⟨ds, hds, hn⟩, a, b, c, d, rfl⟩
    obtain ⟨i, hi, rfl⟩ := hx x (by simp)
    have hx2 : ∀ y, y ∈ xs → ∃ i : Nat, i < ns.length ∧ y = .int i := fun y hy => hx y (by simp [hy])
    have hat : L2.atI (ns.map D.int) (i : Int) = some (.int (ns[i]'hi)) := by rw [atI_nat _ (by omega) (by simpa using hi)]; simp [hi]
    simp only [List.length_cons] at hds
    have hlen := lt_of_get hn
    simp [getIx_F _ _ hat, abs_eq]
    refine ⟨fun hlt => ⟨mulokL' (by omega) (by omega), mulokR' (by omega) (by omega), ?_⟩, fun hge => ?_⟩
    · have r1 := fmod_range (((ns[i].natAbs : Int) + 7919 * i + 3)) (b := 2147483647) (by omega)
      have r2 := fmod_range (((ns[i].natAbs : Int) + 7919 * i + 3).fmod 2147483647 * 48271) (b := 2147483647) (by omega)
      generalize (((ns[i].natAbs : Int) + 7919 * i + 3).fmod 2147483647 * 48271).fmod 2147483647 = u at r2 ⊢
      refine ⟨mulokL' (by omega) (by omega), W_apI hn (by omega) fun h1 k1 g1 => W_apI g1 (by simp; omega) fun h2 k2 g2 => ⟨mulokR' (by omega) (by omega), ?_⟩⟩
      have r3 := fmod_range ((u * u).fmod 2147483629 + 40692 * ((i : Int) + 7)) (b := 2147483587) (by omega)
      generalize ((u * u).fmod 2147483629 + 40692 * ((i : Int) + 7)).fmod 2147483587 = v at r3 ⊢
      refine ⟨mulokL' (by omega) (by omega), W_apI g2 (by simp; omega) fun h3 k3 g3 => ?_⟩
      exact ⟨((hk.inNew k1 (Nat.le_refl _)).inNew k2 (Nat.le_refl _)).inNew k3 (Nat.le_refl _), hx2, _, by simp; omega, g3⟩
    · refine W_whO (I := fun n env h2 => ∃ (r : Int) (j : Nat) (es : List Int), env = [some (.frz (ns.map D.int)), some (.ref h.length), some (.int i), some (.int r), c, some (.int j)] ∧ j ≤ 60 ∧ n = 60 - j ∧ Kp (fun _ => False) h h2 ∧ es.length ≤ ds.length + j ∧ h2[h.length]? = some (.lst (es.map D.int))) ?_ ⟨_, 0, ds, rfl, by omega, rfl, hk, by omega, hn⟩
      rintro n env h2 ⟨r, j, es, rfl, hj, rfl, hk2, hes, hn2⟩
      simp
      refine ⟨fun hr => ⟨fun hj2 => W_apI hn2 (by omega) fun h3 k3 g3 => ⟨60 - (j + 1), by omega, r.fdiv 1000, j + 1, ⟨rfl, by omega⟩, by omega, rfl, hk2.inNew k3 (Nat.le_refl _), _, by simp; omega, g3⟩, fun hj2 => ?_⟩, fun hr => ?_⟩
      all_goals exact ⟨hk2, hx2, es, by omega, hn2⟩
  · rintro env h' ⟨hk, hx, ⟨ds, hds, hn⟩, a, b, c, d, rfl⟩
    simp [slD, hn, W_mkL]
    refine ⟨?_, Nat.le_trans hk.1 (Nat.le_refl _), ⟨(ds.drop (HT.sIx ds.length 0 none)).take (HT.sIx ds.length ds.length (some 240) - HT.sIx ds.length 0 none), ?_⟩, hk.trans (Kp.app _ _ _)⟩
    · simp only [sizeLine_eq, cutD, List.length_take, List.length_drop, List.length_map]; simp only [List.length_nil] at hds; omega
    · simp [cutD, List.map_take, List.map_drop]
  · refine ⟨Kp.app _ _ _, ?_, ⟨[], by simp [lenRange], by simp⟩, none, none, none, none, rfl⟩
    intro x hx
    obtain ⟨i, hi, rfl⟩ := memRange hx
    exact ⟨i, by omega, by simp⟩
theorem powmono {a b : Int} (h0 : 0 ≤ a) (h : a ≤ b) : ∀ n : Nat, a ^ n ≤ b ^ n
  | 0 => by simp
  | n + 1 => by
    rw [Int.pow_succ, Int.pow_succ]
    exact Int.le_trans (Int.mul_le_mul_of_nonneg_right (powmono h0 h n) h0) (Int.mul_le_mul_of_nonneg_left h (Int.pow_nonneg (by omega)))
end Ip

/-! Ip, part Z: fractions: the package's and the laws' sums, walked once. -/
namespace Ip
open PySem

theorem W_setR {h : Hh} {n : Nat} {ds : List D} {k : Int} {j : Nat} {v : D} {P : Unit → Hh → Prop} (hn : h[n]? = some (.lst ds)) (e : L2.ixN ds.length k = some j) (p : P () (h.set n (.lst (ds.set j v)))) : W (setIx (.ref n) (.int k) v h) P := by
  unfold setIx
  simp only [hn, e, W_ok]
  exact p
/-! ### sizes -/
/-- a fraction of numbers of at most n bits -/
def sz (n : Nat) (q : Rat) : Prop := q.num.natAbs < 2 ^ n ∧ q.den < 2 ^ n
theorem sz.mono {m n : Nat} {q : Rat} (h : sz m q) (hm : m ≤ n) : sz n q :=
  ⟨Nat.lt_of_lt_of_le h.1 (Nat.pow_le_pow_right (by omega) hm), Nat.lt_of_lt_of_le h.2 (Nat.pow_le_pow_right (by omega) hm)⟩
theorem sz_divInt {a b : Int} {n : Nat} (hb : 0 < b) (h1 : a.natAbs < 2 ^ n) (h2 : b.natAbs < 2 ^ n) : sz n (Rat.divInt a b) := by
  obtain ⟨g, hg, e1, e2⟩ := divInt_parts a b hb
  have q1 : a.natAbs = (Rat.divInt a b).num.natAbs * g.natAbs := by rw [← Int.natAbs_mul, e1]
  have q2 : b.natAbs = (Rat.divInt a b).den * g.natAbs := by rw [← e2, Int.natAbs_mul]; simp; rw [e2]
  have hg2 : 1 ≤ g.natAbs := by omega
  constructor
  · refine Nat.lt_of_le_of_lt ?_ h1
    rw [q1]; exact Nat.le_mul_of_pos_right _ hg2
  · refine Nat.lt_of_le_of_lt ?_ h2
    rw [q2]; exact Nat.le_mul_of_pos_right _ hg2
theorem mul_lt_pow {a b m n : Nat} (h1 : a < 2 ^ m) (h2 : b < 2 ^ n) : a * b < 2 ^ (m + n) := by
  rw [Nat.pow_add]
  rcases Nat.eq_zero_or_pos b with z | z
  · rw [z, Nat.mul_zero]; exact Nat.mul_pos (Nat.two_pow_pos _) (Nat.two_pow_pos _)
  · exact Nat.lt_of_lt_of_le (Nat.mul_lt_mul_of_pos_right h1 z) (Nat.mul_le_mul_left _ (Nat.le_of_lt h2))
theorem cross_lt {m n : Nat} {p q : Rat} (hp : sz m p) (hq : sz n q) : (p.num * (q.den : Int)).natAbs < 2 ^ (m + n) ∧ (q.num * (p.den : Int)).natAbs < 2 ^ (m + n) ∧ ((p.den : Int) * (q.den : Int)).natAbs < 2 ^ (m + n) := by
  refine ⟨?_, ?_, ?_⟩
  · rw [Int.natAbs_mul]; exact mul_lt_pow hp.1 hq.2
  · rw [Int.natAbs_mul, Nat.add_comm]; exact mul_lt_pow hq.1 hp.2
  · rw [Int.natAbs_mul]; exact mul_lt_pow hp.2 hq.2
theorem den_pos' (q : Rat) : (0 : Int) < q.den := by have := q.den_pos; omega
theorem add_eq (p q : Rat) : p + q = Rat.divInt (p.num * q.den + q.num * p.den) (p.den * q.den) := by
  have := Rat.divInt_add_divInt p.num q.num (d₁ := p.den) (d₂ := q.den) (by have := den_pos' p; omega) (by have := den_pos' q; omega)
  rw [Rat.num_divInt_den, Rat.num_divInt_den] at this
  exact this
theorem sub_eq (p q : Rat) : p - q = Rat.divInt (p.num * q.den - q.num * p.den) (p.den * q.den) := by
  have := Rat.divInt_sub_divInt p.num q.num (d₁ := p.den) (d₂ := q.den) (by have := den_pos' p; omega) (by have := den_pos' q; omega)
  rw [Rat.num_divInt_den, Rat.num_divInt_den] at this
  exact this
theorem mul_eq (p q : Rat) : p * q = Rat.divInt (p.num * q.num) (p.den * q.den) := by
  have := Rat.divInt_mul_divInt p.num q.num (d₁ := p.den) (d₂ := q.den)
  rw [Rat.num_divInt_den, Rat.num_divInt_den] at this
  exact this
theorem sz_add {m n : Nat} {p q : Rat} (hp : sz m p) (hq : sz n q) : sz (m + n + 1) (p + q) := by
  obtain ⟨h1, h2, h3⟩ := cross_lt hp hq
  rw [add_eq]
  refine sz_divInt (Int.mul_pos (den_pos' p) (den_pos' q)) ?_ ?_ <;> rw [Nat.pow_succ] <;> omega
theorem sz_sub {m n : Nat} {p q : Rat} (hp : sz m p) (hq : sz n q) : sz (m + n + 1) (p - q) := by
  obtain ⟨h1, h2, h3⟩ := cross_lt hp hq
  rw [sub_eq]
  refine sz_divInt (Int.mul_pos (den_pos' p) (den_pos' q)) ?_ ?_ <;> rw [Nat.pow_succ] <;> omega
theorem sz_mul {m n : Nat} {p q : Rat} (hp : sz m p) (hq : sz n q) : sz (m + n) (p * q) := by
  obtain ⟨h1, h2, h3⟩ := cross_lt hp hq
  rw [mul_eq]
  refine sz_divInt (Int.mul_pos (den_pos' p) (den_pos' q)) ?_ h3
  rw [Int.natAbs_mul]; exact mul_lt_pow hp.1 hq.1
theorem sz_zero : sz 1 0 := by constructor <;> decide
theorem sz_ok {n : Nat} {q : Rat} (h : sz n q) : q.num.natAbs < 2 ^ n ∧ ((q.den : Nat) : Int).natAbs < 2 ^ n := ⟨h.1, by simpa using h.2⟩
theorem Fq_zero : D.tup [.int 0, .int 1] = Fq 0 := rfl
@[simp] theorem ix_num (q : Rat) (h : Hh) : getIx (Fq q) (.int 0) h = .ok (.int q.num) h := getIx_T0 ..
@[simp] theorem ix_den (q : Rat) (h : Hh) : getIx (Fq q) (.int 1) h = .ok (.int q.den) h := getIx_T1 ..

@[simp] theorem evA_Fq (C : CallT) (i j : Nat) (q : Rat) (env : Env) (h : Hh) : evA C (.tup [.var i, .var j]) (Fq q) env h = .ok ((env.set i (some (.int q.num))).set j (some (.int q.den))) h := rfl
@[simp] theorem isi_Fq (q : Rat) : isInst (Fq q) "tuple" = some true := rfl
@[simp] theorem len_Fq (q : Rat) (h : Hh) : evB .len [Fq q] h = .ok (.int 2) h := rfl
@[simp] theorem seq_Fq (q : Rat) (h : Hh) : itSeq (Fq q) h = .ok ([.int q.num, .int q.den], []) h := rfl
theorem Fq_int (n : Int) : D.tup [.int n, .int 1] = Fq n := rfl
theorem div_eq (p q : Rat) : p / q = Rat.divInt (p.num * q.den) (p.den * q.num) := by
  have := Rat.divInt_mul_divInt p.num q.den (d₁ := p.den) (d₂ := q.num)
  rw [Rat.num_divInt_den] at this
  rw [← this, Rat.div_def, ← Rat.inv_divInt, Rat.num_divInt_den]
theorem cmp_neB (a b : Bool) (h : Hh) : cmpop .ne (.bl a) (.bl b) h = .ok (.bl (a != b)) h := by cases a <;> cases b <;> rfl
theorem cmp_eqB (a b : Bool) (h : Hh) : cmpop .eq (.bl a) (.bl b) h = .ok (.bl (a == b)) h := by cases a <;> cases b <;> rfl
/-! ### the package's fractions -/
def bdCommon : List Stt := [
  .asg (.tup [.var 2, .var 3]) (.tup [.bi .abs [.var 0], .bi .abs [.var 1]]),
  .whl (.cmp .gt (.var 3) (.int 0)) [.asg (.tup [.var 2, .var 3]) (.tup [.var 3, .bin .mod (.var 2) (.var 3)])],
  .ret (.var 2)]
theorem two_size : 2 ≤ sizeLine := by decide
theorem sp_common {T : Tb} (hT : T "common" = some ⟨2, 4, bdCommon⟩) (k : Nat) (a b : Int) (h : Hh) : callF T (k + 1) "common" [.int a, .int b] h = .ok (.int (Int.gcd a b)) h := by
  refine W_iff (W_call hT rfl ?_)
  simp [bdCommon, two_size]
  rw [abs_eq, abs_eq]
  refine gcdLoop _ _ _ _ _ (by omega) (by omega) ?_
  rw [gcd_abs, Int.gcd_comm, gcd_abs, Int.gcd_comm]
  simp
def bdMade : List Stt := [
  .asg (.var 2) (.call "common" [.var 0, .var 1]),
  .ite (.cmp .lt (.var 1) (.int 0)) [.asg (.var 2) (.neg (.var 2))] [],
  .ret (.tup [.bin .fdiv (.var 0) (.var 2), .bin .fdiv (.var 1) (.var 2)])]
theorem fdiv_neg (a b : Int) : a.fdiv (-b) = (-a).fdiv b := by rw [← Int.neg_fdiv_neg, Int.neg_neg]
theorem sp_made {T : Tb} (hC : T "common" = some ⟨2, 4, bdCommon⟩) (hT : T "made" = some ⟨2, 3, bdMade⟩) (k : Nat) (a b : Int) (hb : b ≠ 0) (h : Hh) : callF T (k + 2) "made" [.int a, .int b] h = .ok (Fq (Rat.divInt a b)) h := by
  refine W_iff (W_call hT rfl ?_)
  have hg := gcd_pos (a := a) hb
  simp [bdMade, sp_common hC, hb, two_size]
  refine ⟨fun hlt => ?_, fun hge => ?_⟩
  · have := Fq_of (a := -a) (b := -b) (by omega)
    rw [Rat.neg_divInt_neg, Int.neg_gcd, Int.gcd_neg] at this
    rw [← this, fdiv_neg, fdiv_neg]
  · exact Fq_of (by omega)
def bdPlus : List Stt := [
  .ret (.call "made" [.bin .add (.bin .mul (.ix (.var 0) (.int 0)) (.ix (.var 1) (.int 1))) (.bin .mul (.ix (.var 1) (.int 0)) (.ix (.var 0) (.int 1))), .bin .mul (.ix (.var 0) (.int 1)) (.ix (.var 1) (.int 1))])]
def bdLess : List Stt := [
  .ret (.call "made" [.bin .sub (.bin .mul (.ix (.var 0) (.int 0)) (.ix (.var 1) (.int 1))) (.bin .mul (.ix (.var 1) (.int 0)) (.ix (.var 0) (.int 1))), .bin .mul (.ix (.var 0) (.int 1)) (.ix (.var 1) (.int 1))])]
def bdTimes : List Stt := [
  .ret (.call "made" [.bin .mul (.ix (.var 0) (.int 0)) (.ix (.var 1) (.int 0)), .bin .mul (.ix (.var 0) (.int 1)) (.ix (.var 1) (.int 1))])]
def bdBy : List Stt := [
  .ret (.call "made" [.bin .mul (.ix (.var 0) (.int 0)) (.ix (.var 1) (.int 1)), .bin .mul (.ix (.var 0) (.int 1)) (.ix (.var 1) (.int 0))])]
def bdIsLess : List Stt := [
  .ret (.cmp .lt (.bin .mul (.ix (.var 0) (.int 0)) (.ix (.var 1) (.int 1))) (.bin .mul (.ix (.var 1) (.int 0)) (.ix (.var 0) (.int 1))))]
section
variable {T : Tb} (hC : T "common" = some ⟨2, 4, bdCommon⟩) (hM : T "made" = some ⟨2, 3, bdMade⟩) (k : Nat) {m n : Nat} {p q : Rat} (hp : sz m p) (hq : sz n q) (hmn : m + n ≤ 134217728) (h : Hh)
include hp hq hmn in
theorem muls : IntMulOk p.num (q.den : Int) ∧ IntMulOk q.num (p.den : Int) ∧ IntMulOk (p.den : Int) (q.den : Int) ∧ IntMulOk p.num q.num ∧ IntMulOk (p.den : Int) q.num :=
  ⟨mulok m n hp.1 (sz_ok hq).2 hmn, mulok n m hq.1 (sz_ok hp).2 (by omega), mulok m n (sz_ok hp).2 (sz_ok hq).2 hmn, mulok m n hp.1 hq.1 hmn, mulok m n (sz_ok hp).2 hq.1 hmn⟩
theorem dens_ne (p q : Rat) : (p.den : Int) * (q.den : Int) ≠ 0 := by
  have := Int.mul_pos (den_pos' p) (den_pos' q); omega
include hC hM hp hq hmn in
theorem sp_plus (hT : T "plus" = some ⟨2, 2, bdPlus⟩) : callF T (k + 3) "plus" [Fq p, Fq q] h = .ok (Fq (p + q)) h := by
  obtain ⟨m1, m2, m3, _⟩ := muls hp hq hmn
  refine W_iff (W_call hT rfl ?_)
  simp [bdPlus, sp_made hC hM, m1, m2, m3]
  rw [sp_made hC hM k _ _ (dens_ne p q), W_ok]
  simp [add_eq]
include hC hM hp hq hmn in
theorem sp_less (hT : T "less" = some ⟨2, 2, bdLess⟩) : callF T (k + 3) "less" [Fq p, Fq q] h = .ok (Fq (p - q)) h := by
  obtain ⟨m1, m2, m3, _⟩ := muls hp hq hmn
  refine W_iff (W_call hT rfl ?_)
  simp [bdLess, m1, m2, m3]
  rw [sp_made hC hM k _ _ (dens_ne p q), W_ok]
  simp [sub_eq]
include hC hM hp hq hmn in
theorem sp_times (hT : T "times" = some ⟨2, 2, bdTimes⟩) : callF T (k + 3) "times" [Fq p, Fq q] h = .ok (Fq (p * q)) h := by
  obtain ⟨m1, m2, m3, m4, _⟩ := muls hp hq hmn
  refine W_iff (W_call hT rfl ?_)
  simp [bdTimes, m3, m4]
  rw [sp_made hC hM k _ _ (dens_ne p q), W_ok]
  simp [mul_eq]
include hC hM hp hq hmn in
theorem sp_by (hT : T "by" = some ⟨2, 2, bdBy⟩) (h0 : q ≠ 0) : callF T (k + 3) "by" [Fq p, Fq q] h = .ok (Fq (p / q)) h := by
  obtain ⟨m1, m2, m3, m4, m5⟩ := muls hp hq hmn
  have hn : q.num ≠ 0 := fun z => h0 (Rat.num_eq_zero.mp z)
  refine W_iff (W_call hT rfl ?_)
  simp [bdBy, m1, m5]
  rw [sp_made hC hM k _ _ (by have := den_pos' p; exact Int.mul_ne_zero (by omega) hn), W_ok]
  have := Rat.divInt_mul_divInt p.num q.den (d₁ := p.den) (d₂ := q.num)
  rw [Rat.num_divInt_den] at this
  simp [← this, Rat.div_def]
  rw [← Rat.inv_divInt, Rat.num_divInt_den]
include hp hq hmn in
theorem sp_isless (hT : T "is_less" = some ⟨2, 2, bdIsLess⟩) : callF T (k + 1) "is_less" [Fq p, Fq q] h = .ok (.bl (decide (p < q))) h := by
  obtain ⟨m1, m2, m3, m4, m5⟩ := muls hp hq hmn
  refine W_iff (W_call hT rfl ?_)
  simp [bdIsLess, m1, m2, Rat.lt_iff]
end
/-! ### the laws' own fractions -/
def bdSum : List Stt := [
  .ret (.call "_law_fraction" [.bin .add (.bin .mul (.ix (.var 0) (.int 0)) (.ix (.var 1) (.int 1))) (.bin .mul (.ix (.var 1) (.int 0)) (.ix (.var 0) (.int 1))), .bin .mul (.ix (.var 0) (.int 1)) (.ix (.var 1) (.int 1))])]
def bdRest : List Stt := [
  .ret (.call "_law_fraction" [.bin .sub (.bin .mul (.ix (.var 0) (.int 0)) (.ix (.var 1) (.int 1))) (.bin .mul (.ix (.var 1) (.int 0)) (.ix (.var 0) (.int 1))), .bin .mul (.ix (.var 0) (.int 1)) (.ix (.var 1) (.int 1))])]
def bdProduct : List Stt := [
  .ret (.call "_law_fraction" [.bin .mul (.ix (.var 0) (.int 0)) (.ix (.var 1) (.int 0)), .bin .mul (.ix (.var 0) (.int 1)) (.ix (.var 1) (.int 1))])]
section
variable {T : Tb} (hM : T "_law_fraction" = some ⟨2, 4, bdFraction⟩) (k : Nat) {m n : Nat} {p q : Rat} (hp : sz m p) (hq : sz n q) (hmn : m + n ≤ 134217728) (h : Hh)
include hM hp hq hmn in
theorem sp_sum (hT : T "_law_sum" = some ⟨2, 2, bdSum⟩) : callF T (k + 2) "_law_sum" [Fq p, Fq q] h = .ok (Fq (p + q)) h := by
  obtain ⟨m1, m2, m3, _⟩ := muls hp hq hmn
  refine W_iff (W_call hT rfl ?_)
  simp [bdSum, m1, m2, m3]
  rw [sp_fraction hM k _ _ (dens_ne p q), W_ok]
  simp [add_eq]
include hM hp hq hmn in
theorem sp_rest (hT : T "_law_rest" = some ⟨2, 2, bdRest⟩) : callF T (k + 2) "_law_rest" [Fq p, Fq q] h = .ok (Fq (p - q)) h := by
  obtain ⟨m1, m2, m3, _⟩ := muls hp hq hmn
  refine W_iff (W_call hT rfl ?_)
  simp [bdRest, m1, m2, m3]
  rw [sp_fraction hM k _ _ (dens_ne p q), W_ok]
  simp [sub_eq]
include hM hp hq hmn in
theorem sp_product (hT : T "_law_product" = some ⟨2, 2, bdProduct⟩) : callF T (k + 2) "_law_product" [Fq p, Fq q] h = .ok (Fq (p * q)) h := by
  obtain ⟨m1, m2, m3, m4, _⟩ := muls hp hq hmn
  refine W_iff (W_call hT rfl ?_)
  simp [bdProduct, m3, m4]
  rw [sp_fraction hM k _ _ (dens_ne p q), W_ok]
  simp [mul_eq]
include hp hq hmn in
theorem sp_under (hT : T "_law_under" = some ⟨2, 2, bdIsLess⟩) : callF T (k + 1) "_law_under" [Fq p, Fq q] h = .ok (.bl (decide (p < q))) h := by
  obtain ⟨m1, m2, m3, m4, m5⟩ := muls hp hq hmn
  refine W_iff (W_call hT rfl ?_)
  simp [bdIsLess, m1, m2, Rat.lt_iff]
end
end Ip

/-! Iq, part A: the hands and cells of the laws k01 to k18, walked once. -/
namespace Ip
open PySem

def bdHand : List Stt := [
  .asg (.var 2) (.int 0),
  .ite (.cmp .ge (.var 0) (.bin .pow (.int 10) (.int 18))) [.asg (.var 2) (.var 0)] [],
  .ret (.lst [.var 2, .bin .mod (.bin .mul (.bin .add (.bin .add (.bin .mod (.var 0) (.int 2147483587)) (.bin .mul (.int 7919) (.var 1))) (.int 1)) (.int 48271)) (.int 2147483587)])]
/-- a hand: digits and what is mixed -/
def Hd (n : Nat) (h : Hh) : Prop := ∃ a b : Int, h[n]? = some (.lst [.int a, .int b]) ∧ 0 ≤ a ∧ 0 ≤ b ∧ b < 2147483587
theorem Hd.app {n : Nat} {h : Hh} (hd : Hd n h) (j : Hh) : Hd n (h ++ j) := by
  obtain ⟨a, b, hn, r⟩ := hd
  exact ⟨a, b, by rw [List.getElem?_append_left (lt_of_get hn)]; exact hn, r⟩
theorem Hd.lt {n : Nat} {h : Hh} (hd : Hd n h) : n < h.length := by
  obtain ⟨a, b, hn, r⟩ := hd
  exact lt_of_get hn
theorem Hd.keep {n : Nat} {h h' : Hh} {x : Nat → Prop} (hd : Hd n h) (k : Kp x h h') (hx : ¬ x n) : Hd n h' := by
  obtain ⟨a, b, hn, r⟩ := hd
  exact ⟨a, b, k.get hn hx, r⟩
theorem sp_hand {T : Tb} (hT : T "_law_hand" = some ⟨2, 3, bdHand⟩) (k : Nat) (c i : Int) (h0 : 0 ≤ i) (h1 : i < 2 ^ 40) (h : Hh) :
    W (callF T (k + 1) "_law_hand" [.int c, .int i] h) fun d h' => ∃ n, d = .ref n ∧ n = h.length ∧ Hd n h' ∧ Kp (fun _ => False) h h' := by
  refine W_call hT rfl ?_
  have r1 := fmod_range ((c.fmod 2147483587 + 7919 * i + 1) * 48271) (b := 2147483587) (by omega)
  have r2 := fmod_range c (b := 2147483587) (by omega)
  simp [bdHand, W_mkL]
  refine ⟨fun hge => ⟨mulokL' (by omega) (by omega), mulokR' (by omega) (by omega), by simp only [sizeLine_eq]; omega, ⟨_, _, get_new _ _, by omega, r1⟩, Kp.app _ _ _⟩, fun hlt => ⟨mulokL' (by omega) (by omega), mulokR' (by omega) (by omega), by simp only [sizeLine_eq]; omega, ⟨_, _, get_new _ _, by omega, r1⟩, Kp.app _ _ _⟩⟩

def bdDraw : List Stt := [
  .ite (.cmp .gt (.ix (.var 0) (.int 0)) (.int 0)) [.asg (.var 2) (.bin .mod (.ix (.var 0) (.int 0)) (.var 1)), .asg (.ix (.var 0) (.int 0)) (.bin .fdiv (.ix (.var 0) (.int 0)) (.var 1)), .ret (.var 2)] [],
  .asg (.ix (.var 0) (.int 1)) (.bin .mod (.bin .add (.bin .add (.bin .mul (.ix (.var 0) (.int 1)) (.ix (.var 0) (.int 1))) (.bin .mul (.int 69621) (.ix (.var 0) (.int 1)))) (.int 12345)) (.int 2147483587)),
  .ret (.bin .mod (.bin .fdiv (.ix (.var 0) (.int 1)) (.int 8)) (.var 1))]
theorem sp_draw {T : Tb} (hT : T "_law_draw" = some ⟨2, 3, bdDraw⟩) (k : Nat) (n : Nat) (m : Int) (hm : 0 < m) (h : Hh) (hd : Hd n h) :
    W (callF T (k + 1) "_law_draw" [.ref n, .int m] h) fun d h' => ∃ r : Int, d = .int r ∧ 0 ≤ r ∧ r < m ∧ Hd n h' ∧ Kp (· = n) h h' := by
  obtain ⟨a, b, hn, ha, hb, hb2⟩ := hd
  have hl := lt_of_get hn
  refine W_call hT rfl ?_
  have g0 : ∀ {P : D → Hh → Prop}, P (.int a) h → W (getIx (.ref n) (.int 0) h) P := fun p => W_getR hn rfl p
  have g1 : ∀ {P : D → Hh → Prop}, P (.int b) h → W (getIx (.ref n) (.int 1) h) P := fun p => W_getR hn rfl p
  simp [bdDraw]
  refine g0 ?_
  simp
  refine ⟨fun hpos => ?_, fun hz => ?_⟩
  · refine g0 ?_
    simp
    refine ⟨by omega, g0 ?_⟩
    simp
    refine ⟨by omega, W_setR (j := 0) hn rfl ?_⟩
    have r := fmod_range a hm
    refine ⟨r.1, r.2, ⟨a.fdiv m, b, by rw [get_set hl]; rfl, ?_, hb, hb2⟩, Kp.set (x := (· = n)) rfl _ _⟩
    exact Int.fdiv_nonneg ha (by omega)
  · refine g1 ?_
    refine g1 ?_
    simp
    refine ⟨mulokL' (by omega) (by omega), g1 ?_⟩
    simp
    refine ⟨mulokL' (by omega) (by omega), W_setR (j := 1) hn rfl ?_⟩
    have r := fmod_range (b * b + 69621 * b + 12345) (b := 2147483587) (by omega)
    refine W_getR (d := .int ((b * b + 69621 * b + 12345).fmod 2147483587)) (get_set hl _) rfl ?_
    simp
    have r2 := fmod_range (((b * b + 69621 * b + 12345).fmod 2147483587).fdiv 8) hm
    exact ⟨by omega, r2.1, r2.2, ⟨a, _, get_set hl _, ha, r⟩, Kp.set (x := (· = n)) rfl _ _⟩

def bdCells : List Stt := [
  .ret (.lenum (.bin .add (.sl (.var 0) (.non) (.var 1)) (.bin .mul (.lst [.int 0]) (.bi .int [.cmp .eq (.var 0) (.lst [])]))))]
theorem eqD_FL {h : Hh} {m : Nat} {xs ys : List D} (hm : h[m]? = some (.lst ys)) (gx : ∀ x, x ∈ xs → G 60 x) (gy : ∀ y, y ∈ ys → G 60 y) :
    eqD h (.frz xs) (.ref m) = some (@decide (xs = ys) (Classical.propDecidable _)) := by
  unfold eqD
  have ty : toP 66 h (.ref m) = some (.list (ys.map (pd 60))) := by
    show (match h[m]? with
      | some (.lst ds) => (ds.mapM (toP 65 h)).map PyData.list
      | _ => none) = _
    rw [hm]
    show (ys.mapM (toP 65 h)).map PyData.list = _
    rw [mapM_some (g := pd 60) fun d hd => toP_G h 60 d 65 (gy d hd) (by omega)]; rfl
  have tx : toP 66 h (.frz xs) = some (.list (xs.map (pd 60))) := by
    show (xs.mapM (toP 65 h)).map PyData.list = _
    rw [mapM_some (g := pd 60) fun d hd => toP_G h 60 d 65 (gx d hd) (by omega)]; rfl
  rw [tx, ty]
  have sh : ∀ ds : List D, SeqAt.shaped (.list (ds.map (pd 60))) = true := fun ds => by
    unfold SeqAt.shaped
    rw [PyData.canLay0, canLayAll0_of fun p hp => by obtain ⟨d, _, e⟩ := List.mem_map.mp hp; exact e ▸ canLay_pd 60 d, Bool.true_and]
    refine decide_eq_true (Nat.le_trans (Nat.succ_le_succ (depthAll_of (n := 60) fun p hp => ?_)) (by omega : 60 + 1 ≤ 64))
    obtain ⟨d, _, e⟩ := List.mem_map.mp hp; exact e ▸ depth_pd 60 d
  show (if (SeqAt.shaped (.list (xs.map (pd 60))) && SeqAt.shaped (.list (ys.map (pd 60)))) = true then some (PyData.eqv (.list (xs.map (pd 60))) (.list (ys.map (pd 60)))) else none) = _
  rw [sh, sh]
  refine (if_pos rfl).trans (congrArg some ?_)
  refine Bool.eq_iff_iff.mpr (Iff.trans ?_ (@decide_eq_true_iff _ (Classical.propDecidable _)).symm)
  rw [PyData.eqv]
  exact eqvAll_map fun a ha b hb => eqv_pd 60 a b (gx a ha) (gy b hb)
theorem enumD_map (cs : List Int) : ∀ n, enumD n (cs.map D.int) = (cs.zipIdx n).map fun p => D.tup [.int (p.2 : Nat), .int p.1] := by
  induction cs with
  | nil => intro n; rfl
  | cons c cs ih => intro n; simp [enumD, ih]
theorem W_mulL {h : Hh} {a : Nat} {xs : List D} {k : Int} {P : D → Hh → Prop} (hn : h[a]? = some (.lst xs)) (h0 : 0 ≤ k) (h1 : k < 2 ^ 40) (hz : xs.length * k.toNat ≤ 16777216) (p : P (.ref h.length) (h ++ [.lst (List.replicate k.toNat xs).flatten])) : W (binop .mul (.ref a) (.int k) h) P := by
  show W (match h[a]? with
    | some (.lst xs) => need (-(2 ^ 63) ≤ k ∧ k < 2 ^ 63 ∧ xs.length * k.toNat ≤ sizeLine) (mkL (List.replicate k.toNat xs).flatten h)
    | _ => .stuck) P
  rw [hn]
  simp only [W_need, W_mkL, sizeLine_eq]
  refine ⟨⟨by omega, by omega, hz⟩, ?_, p⟩
  rw [List.length_flatten]
  simp [Nat.mul_comm]
  rw [Nat.mul_comm]; exact hz
theorem W_addL {h : Hh} {a b : Nat} {xs ys : List D} {P : D → Hh → Prop} (hn : h[a]? = some (.lst xs)) (hm : h[b]? = some (.lst ys)) (hz : xs.length + ys.length ≤ 16777216) (p : P (.ref h.length) (h ++ [.lst (xs ++ ys)])) : W (binop .add (.ref a) (.ref b) h) P := by
  show W (match h[a]?, h[b]? with
    | some (.lst xs), some (.lst ys) => need (xs.length + ys.length ≤ sizeLine) (mkL (xs ++ ys) h)
    | _, _ => .stuck) P
  rw [hn, hm]
  simp only [W_need, W_mkL, sizeLine_eq, List.length_append]
  exact ⟨hz, hz, p⟩
theorem W_lenum {h : Hh} {n : Nat} {ds : List D} {P : D → Hh → Prop} (hn : h[n]? = some (.lst ds)) (hz : ds.length ≤ 16777216) (p : P (.ref h.length) (h ++ [.lst (enumD 0 ds)])) : W (fLenum (.ref n) h) P := by
  unfold fLenum
  simp only [seqL, hn, W_mkL, sizeLine_eq, enumD_len]
  exact ⟨hz, p⟩
/-- the cells of a script, with their places -/
theorem sp_cells {T : Tb} (hT : T "_law_cells" = some ⟨2, 2, bdCells⟩) (k : Nat) (ns : List Int) (hl : ns.length ≤ 63) (m : Int) (hm0 : 0 ≤ m) (h : Hh) :
    W (callF T (k + 1) "_law_cells" [.frz (ns.map D.int), .int m] h) fun d h' => ∃ (n : Nat) (cs : List Int), d = .ref n ∧ h.length ≤ n ∧ cs.length ≤ 64 ∧ h'[n]? = some (.lst (enumD 0 (cs.map D.int))) ∧ Kp (fun _ => False) h h' := by
  refine W_call hT rfl ?_
  have hc : cutD (ns.map D.int) none (some m) = (ns.take m.toNat).map D.int := by
    unfold cutD HT.sIx
    simp only [List.length_map]
    rw [if_neg (by omega)]
    simp [List.map_take]
  simp [bdCells, slD, W_mkL, hc]
  refine ⟨by simp only [sizeLine_eq]; omega, by simp only [sizeLine_eq]; omega, ?_⟩
  have hs : cmpop .eq (.frz (ns.map D.int)) (.ref (h.length + 2)) (h ++ [O.lst ((ns.take m.toNat).map D.int)] ++ [O.lst [.int 0]] ++ [O.lst []]) = .ok (.bl (sameL (ns.map D.int) [])) (h ++ [O.lst ((ns.take m.toNat).map D.int)] ++ [O.lst [.int 0]] ++ [O.lst []]) := by
    show ofB _ (eqD _ _ _) = _
    rw [eqD_FL (ys := []) (by simp) (by simp) (by simp)]; rfl
  simp only [List.append_assoc, List.cons_append, List.nil_append] at hs ⊢
  rw [← List.map_take, show h.length + 1 + 1 = h.length + 2 from rfl, hs, W_ok, bi_intB, W_ok]
  refine W_mulL (xs := [.int 0]) (by simp) (by split <;> omega) (by split <;> omega) (by split <;> simp) ?_
  refine W_addL (xs := (ns.take m.toNat).map D.int) (ys := (List.replicate (if sameL (ns.map D.int) [] = true then (1 : Int) else 0).toNat [D.int 0]).flatten) (by simp) (by simp) ?_ ?_
  · rw [List.length_map, List.length_take, List.length_flatten]; simp; split <;> omega
  have hr : (List.replicate (if sameL (ns.map D.int) [] = true then (1 : Int) else 0).toNat [D.int 0]).flatten = (if sameL (ns.map D.int) [] = true then [(0 : Int)] else []).map D.int := by split <;> rfl
  refine W_lenum (ds := (ns.take m.toNat ++ if sameL (ns.map D.int) [] = true then [(0 : Int)] else []).map D.int) ?_ ?_ ?_
  · rw [List.map_append, ← hr]; simp
  · have h1 : (if sameL (ns.map D.int) [] = true then [(0 : Int)] else []).length ≤ 1 := by split <;> simp
    rw [List.length_map, List.length_append, List.length_take]; omega
  · refine ⟨_, rfl, by simp only [List.length_append]; omega, _, ?_, get_new _ _, ?_⟩
    · have h1 : (if sameL (ns.map D.int) [] = true then [(0 : Int)] else []).length ≤ 1 := by split <;> simp
      rw [List.length_append, List.length_take]; omega
    · simp only [List.append_assoc]; exact Kp.app _ _ _
end Ip

/-! Iq, part B: the fractions of the laws k03, k04 and on, walked once. -/
namespace Ip
open PySem
def bdFrac : List Stt := [
  .asg (.var 2) (.bi .abs [.var 0]),
  .asg (.var 3) (.var 1),
  .whl (.cmp .gt (.var 3) (.int 0)) [.asg (.tup [.var 2, .var 3]) (.tup [.var 3, .bin .mod (.var 2) (.var 3)])],
  .ret (.tup [.bin .fdiv (.var 0) (.var 2), .bin .fdiv (.var 1) (.var 2)])]
theorem sp_frac {T : Tb} (hT : T "_law_frac" = some ⟨2, 4, bdFrac⟩) (k : Nat) (a b : Int) (hb : 0 < b) (h : Hh) : callF T (k + 1) "_law_frac" [.int a, .int b] h = .ok (Fq (Rat.divInt a b)) h := by
  refine W_iff (W_call hT rfl ?_)
  simp [bdFrac]
  rw [abs_eq]
  refine gcdLoop _ _ _ _ _ (by omega) (by omega) ?_
  rw [gcd_abs]
  have hg : (Int.gcd a b : Int) ≠ 0 := by have := gcd_pos (a := a) (b := b) (by omega); omega
  simp [hg, Fq_of hb, two_size]
  omega
def bdOne : List Stt := [
  .asg (.var 1) (.call "_law_draw" [.var 0, .int 4]),
  .ite (.cmp .eq (.var 1) (.int 0)) [.ret (.tup [.bin .sub (.call "_law_draw" [.var 0, .int 9]) (.int 4), .int 1])] [],
  .ite (.cmp .lt (.var 1) (.int 3)) [.ret (.call "_law_frac" [.bin .sub (.call "_law_draw" [.var 0, .int 60]) (.int 30), .bin .add (.int 1) (.call "_law_draw" [.var 0, .int 12])])] [],
  .ret (.call "_law_frac" [.bin .add (.bin .sub (.call "_law_draw" [.var 0, .bin .sub (.bin .mul (.int 2) (.bin .pow (.int 10) (.int 12))) (.int 1)]) (.bin .pow (.int 10) (.int 12))) (.int 1), .bin .add (.int 1) (.call "_law_draw" [.var 0, .bin .sub (.bin .pow (.int 10) (.int 12)) (.int 1)])])]
/-- a fraction of at most twelve figures -/
theorem sp_one {T : Tb} (hF : T "_law_frac" = some ⟨2, 4, bdFrac⟩) (hD : T "_law_draw" = some ⟨2, 3, bdDraw⟩) (hT : T "_law_one" = some ⟨1, 2, bdOne⟩) (k : Nat) (n : Nat) (h : Hh) (hd : Hd n h) :
    W (callF T (k + 2) "_law_one" [.ref n] h) fun d h' => ∃ q : Rat, d = Fq q ∧ sz 45 q ∧ Hd n h' ∧ Kp (· = n) h h' := by
  refine W_call hT rfl ?_
  simp [bdOne]
  refine W_mono (sp_draw hD k n 4 (by omega) h hd) ?_
  rintro d h1 ⟨r, rfl, r0, r1, hd1, k1⟩
  simp
  refine ⟨fun hr => ?_, fun hr => ⟨fun hr2 => ?_, fun hr2 => ?_⟩⟩
  · refine W_mono (sp_draw hD k n 9 (by omega) h1 hd1) ?_
    rintro d h2 ⟨u, rfl, u0, u1, hd2, k2⟩
    simp
    refine ⟨two_size, ((u - 4 : Int) : Rat), Fq_int _, ?_, hd2, k1.trans k2⟩
    constructor
    · show (u - 4).natAbs < 2 ^ 45; omega
    · show 1 < 2 ^ 45; decide
  · refine W_mono (sp_draw hD k n 60 (by omega) h1 hd1) ?_
    rintro d h2 ⟨u, rfl, u0, u1, hd2, k2⟩
    simp
    refine W_mono (sp_draw hD k n 12 (by omega) h2 hd2) ?_
    rintro d h3 ⟨v, rfl, v0, v1, hd3, k3⟩
    simp
    rw [sp_frac hF k _ _ (by omega), W_ok]
    exact ⟨_, rfl, sz_divInt (by omega) (by omega) (by omega), hd3, (k1.trans k2).trans k3⟩
  · refine ⟨mulokL' (by omega) (by omega), ?_⟩
    refine W_mono (sp_draw hD k n 1999999999999 (by omega) h1 hd1) ?_
    rintro d h2 ⟨u, rfl, u0, u1, hd2, k2⟩
    simp
    refine W_mono (sp_draw hD k n 999999999999 (by omega) h2 hd2) ?_
    rintro d h3 ⟨v, rfl, v0, v1, hd3, k3⟩
    simp
    rw [sp_frac hF k _ _ (by omega), W_ok]
    exact ⟨_, rfl, sz_divInt (by omega) (by omega) (by omega), hd3, (k1.trans k2).trans k3⟩
end Ip

/-! Iq, part L: loops by the place of their turn; what is kept on the way. -/
namespace Ip
open PySem

@[simp] theorem ev_v16 (C : CallT) (h : Hh) (d : D) (x0 x1 x2 x3 x4 x5 x6 x7 x8 x9 x10 x11 x12 x13 x14 x15 : Option D) (r : Env) : ev C (.var 16) (x0 :: x1 :: x2 :: x3 :: x4 :: x5 :: x6 :: x7 :: x8 :: x9 :: x10 :: x11 :: x12 :: x13 :: x14 :: x15 :: some d :: r) h = .ok d h := by rw [ev]; rfl
@[simp] theorem ev_v17 (C : CallT) (h : Hh) (d : D) (x0 x1 x2 x3 x4 x5 x6 x7 x8 x9 x10 x11 x12 x13 x14 x15 x16 : Option D) (r : Env) : ev C (.var 17) (x0 :: x1 :: x2 :: x3 :: x4 :: x5 :: x6 :: x7 :: x8 :: x9 :: x10 :: x11 :: x12 :: x13 :: x14 :: x15 :: x16 :: some d :: r) h = .ok d h := by rw [ev]; rfl
@[simp] theorem ev_v18 (C : CallT) (h : Hh) (d : D) (x0 x1 x2 x3 x4 x5 x6 x7 x8 x9 x10 x11 x12 x13 x14 x15 x16 x17 : Option D) (r : Env) : ev C (.var 18) (x0 :: x1 :: x2 :: x3 :: x4 :: x5 :: x6 :: x7 :: x8 :: x9 :: x10 :: x11 :: x12 :: x13 :: x14 :: x15 :: x16 :: x17 :: some d :: r) h = .ok d h := by rw [ev]; rfl
@[simp] theorem ev_v19 (C : CallT) (h : Hh) (d : D) (x0 x1 x2 x3 x4 x5 x6 x7 x8 x9 x10 x11 x12 x13 x14 x15 x16 x17 x18 : Option D) (r : Env) : ev C (.var 19) (x0 :: x1 :: x2 :: x3 :: x4 :: x5 :: x6 :: x7 :: x8 :: x9 :: x10 :: x11 :: x12 :: x13 :: x14 :: x15 :: x16 :: x17 :: x18 :: some d :: r) h = .ok d h := by rw [ev]; rfl
@[simp] theorem ev_v20 (C : CallT) (h : Hh) (d : D) (x0 x1 x2 x3 x4 x5 x6 x7 x8 x9 x10 x11 x12 x13 x14 x15 x16 x17 x18 x19 : Option D) (r : Env) : ev C (.var 20) (x0 :: x1 :: x2 :: x3 :: x4 :: x5 :: x6 :: x7 :: x8 :: x9 :: x10 :: x11 :: x12 :: x13 :: x14 :: x15 :: x16 :: x17 :: x18 :: x19 :: some d :: r) h = .ok d h := by rw [ev]; rfl
@[simp] theorem ev_v21 (C : CallT) (h : Hh) (d : D) (x0 x1 x2 x3 x4 x5 x6 x7 x8 x9 x10 x11 x12 x13 x14 x15 x16 x17 x18 x19 x20 : Option D) (r : Env) : ev C (.var 21) (x0 :: x1 :: x2 :: x3 :: x4 :: x5 :: x6 :: x7 :: x8 :: x9 :: x10 :: x11 :: x12 :: x13 :: x14 :: x15 :: x16 :: x17 :: x18 :: x19 :: x20 :: some d :: r) h = .ok d h := by rw [ev]; rfl
@[simp] theorem ev_v22 (C : CallT) (h : Hh) (d : D) (x0 x1 x2 x3 x4 x5 x6 x7 x8 x9 x10 x11 x12 x13 x14 x15 x16 x17 x18 x19 x20 x21 : Option D) (r : Env) : ev C (.var 22) (x0 :: x1 :: x2 :: x3 :: x4 :: x5 :: x6 :: x7 :: x8 :: x9 :: x10 :: x11 :: x12 :: x13 :: x14 :: x15 :: x16 :: x17 :: x18 :: x19 :: x20 :: x21 :: some d :: r) h = .ok d h := by rw [ev]; rfl
@[simp] theorem ev_v23 (C : CallT) (h : Hh) (d : D) (x0 x1 x2 x3 x4 x5 x6 x7 x8 x9 x10 x11 x12 x13 x14 x15 x16 x17 x18 x19 x20 x21 x22 : Option D) (r : Env) : ev C (.var 23) (x0 :: x1 :: x2 :: x3 :: x4 :: x5 :: x6 :: x7 :: x8 :: x9 :: x10 :: x11 :: x12 :: x13 :: x14 :: x15 :: x16 :: x17 :: x18 :: x19 :: x20 :: x21 :: x22 :: some d :: r) h = .ok d h := by rw [ev]; rfl
@[simp] theorem ev_v24 (C : CallT) (h : Hh) (d : D) (x0 x1 x2 x3 x4 x5 x6 x7 x8 x9 x10 x11 x12 x13 x14 x15 x16 x17 x18 x19 x20 x21 x22 x23 : Option D) (r : Env) : ev C (.var 24) (x0 :: x1 :: x2 :: x3 :: x4 :: x5 :: x6 :: x7 :: x8 :: x9 :: x10 :: x11 :: x12 :: x13 :: x14 :: x15 :: x16 :: x17 :: x18 :: x19 :: x20 :: x21 :: x22 :: x23 :: some d :: r) h = .ok d h := by rw [ev]; rfl
/-- a for loop by an invariant over the turns done -/
theorem W_frI {f : D → Env → Hh → Out Env} {b : Env → Hh → Out Fl} {chk : List (Nat × List D)} {P : Fl → Hh → Prop} {xs : List D} {env : Env} {h : Hh} (I : Nat → Env → Hh → Prop)
    (stay : ∀ i env h, I i env h → chkOk chk h)
    (step : ∀ i x env h, xs[i]? = some x → I i env h → W (f x env h) fun e1 h1 => W (b e1 h1) fun fl h2 => match fl with
      | .nx e => I (i + 1) e h2
      | .ct e => I (i + 1) e h2
      | .bk e => P (.nx e) h2
      | .rt d => P (.rt d) h2)
    (done : ∀ env h, I xs.length env h → P (.nx env) h) (h0 : I 0 env h) : W (frL f b chk xs env h) P := by
  refine W_frL (I := fun ys env h => ∃ i, i ≤ xs.length ∧ ys = xs.drop i ∧ I i env h) (fun _ env h ⟨i, _, _, p⟩ => stay i env h p) ?_ ?_ ⟨0, Nat.zero_le _, rfl, h0⟩
  · rintro x ys env h ⟨i, hi, e, p⟩
    have hlt : i < xs.length := by
      rcases Nat.lt_or_ge i xs.length with hl | hl
      · exact hl
      · rw [List.drop_eq_nil_of_le hl] at e; cases e
    rw [List.drop_eq_getElem_cons hlt] at e
    injection e with e1 e2
    refine W_mono (step i x env h (by rw [e1]; exact List.getElem?_eq_getElem hlt) p) fun e1 h1 w => W_mono w fun fl h2 q => ?_
    cases fl with
    | nx e => exact ⟨i + 1, hlt, e2, q⟩
    | ct e => exact ⟨i + 1, hlt, e2, q⟩
    | bk e => exact q
    | rt d => exact q
  · rintro env h ⟨i, hi, e, p⟩
    have : i = xs.length := by
      have := congrArg List.length e
      simp at this; omega
    subst this
    exact done env h p
/-- a comprehension by an invariant over the turns done -/
theorem W_lcI {f : D → Hh → Out (Option D)} {chk : List (Nat × List D)} {P : List D → Hh → Prop} {xs : List D} {h : Hh} (I : Nat → List D → Hh → Prop)
    (stay : ∀ i a h, I i a h → chkOk chk h)
    (step : ∀ i x a h, xs[i]? = some x → I i a h → W (f x h) fun o h1 => I (i + 1) (a ++ o.toList) h1)
    (done : ∀ a h, I xs.length a h → P a h) (h0 : I 0 [] h) : W (lcL f chk xs h) P := by
  refine W_lcL (I := fun a ys h => ∃ i, i ≤ xs.length ∧ ys = xs.drop i ∧ I i a h) (fun a _ h ⟨i, _, _, p⟩ => stay i a h p) ?_ ?_ ⟨0, Nat.zero_le _, rfl, h0⟩
  · rintro a x ys h ⟨i, hi, e, p⟩
    have hlt : i < xs.length := by
      rcases Nat.lt_or_ge i xs.length with hl | hl
      · exact hl
      · rw [List.drop_eq_nil_of_le hl] at e; cases e
    rw [List.drop_eq_getElem_cons hlt] at e
    injection e with e1 e2
    exact W_mono (step i x a h (by rw [e1]; exact List.getElem?_eq_getElem hlt) p) fun o h1 q => ⟨i + 1, hlt, e2, q⟩
  · rintro a h ⟨i, hi, e, p⟩
    have : i = xs.length := by
      have := congrArg List.length e
      simp at this; omega
    subst this
    exact done a h p
/-- a row of values by their places -/
def tb {α : Type} (n : Nat) (f : Nat → α) : List α := (List.range n).map f
@[simp] theorem tb_len {α : Type} (n : Nat) (f : Nat → α) : (tb n f).length = n := by simp [tb]
theorem tb_get {α : Type} {n i : Nat} (f : Nat → α) (hi : i < n) : (tb n f)[i]? = some (f i) := by simp [tb, hi]
theorem tb_succ {α : Type} (n : Nat) (f : Nat → α) : tb (n + 1) f = tb n f ++ [f n] := by simp [tb, List.range_succ]
theorem tb_congr {α : Type} {n : Nat} {f g : Nat → α} (h : ∀ i, i < n → f i = g i) : tb n f = tb n g := by
  unfold tb; exact List.map_congr_left fun i hi => h i (List.mem_range.mp hi)
theorem tb_inj {α : Type} {n : Nat} {f g : Nat → α} : tb n f = tb n g ↔ ∀ i, i < n → f i = g i := by
  refine ⟨fun e i hi => ?_, tb_congr⟩
  have := congrArg (·[i]?) e
  simp only [tb_get _ hi, Option.some.injEq] at this
  exact this
theorem tb_map {α β : Type} (n : Nat) (f : Nat → α) (g : α → β) : (tb n f).map g = tb n fun i => g (f i) := by simp [tb, Function.comp_def]
theorem tb_mem {α : Type} {n : Nat} {f : Nat → α} {x : α} (hx : x ∈ tb n f) : ∃ i, i < n ∧ x = f i := by
  obtain ⟨i, hi, e⟩ := List.mem_map.mp hx
  exact ⟨i, List.mem_range.mp hi, e.symm⟩
theorem tb_set {α : Type} {n k : Nat} (f : Nat → α) (v : α) (hk : k < n) : (tb n f).set k v = tb n fun i => if i = k then v else f i := by
  refine List.ext_getElem? fun i => ?_
  rcases Nat.lt_or_ge i n with hl | hl
  · rw [tb_get _ hl, List.getElem?_set]
    by_cases e : k = i
    · subst e; simp [hl]
    · rw [if_neg e, tb_get _ hl, if_neg (fun q => e q.symm)]
  · rw [List.getElem?_eq_none (by simp [hl]), List.getElem?_eq_none (by simp [hl])]
theorem tb_of {α : Type} [Inhabited α] (xs : List α) : xs = tb xs.length fun i => xs[i]! := by
  refine List.ext_getElem? fun i => ?_
  rcases Nat.lt_or_ge i xs.length with hl | hl
  · rw [tb_get _ hl]; simp [hl]
  · rw [List.getElem?_eq_none hl, List.getElem?_eq_none (by simp [hl])]
/-- a comprehension whose elements are told by their places -/
theorem W_lcF {f : D → Hh → Out (Option D)} {chk : List (Nat × List D)} {P : List D → Hh → Prop} {xs : List D} {h : Hh} (g : Nat → D) (J : Hh → Prop)
    (stay : ∀ h, J h → chkOk chk h)
    (step : ∀ i x h, i < xs.length → xs[i]? = some x → J h → W (f x h) fun o h1 => o = some (g i) ∧ J h1)
    (done : ∀ h, J h → P (tb xs.length g) h) (h0 : J h) : W (lcL f chk xs h) P := by
  refine W_lcI (I := fun i a h => a = tb i g ∧ J h) (fun i a h p => stay h p.2) ?_ ?_ ⟨rfl, h0⟩
  · rintro i x a h hx ⟨rfl, j⟩
    refine W_mono (step i x h (List.getElem?_eq_some_iff.mp hx).1 hx j) ?_
    rintro o h1 ⟨rfl, j1⟩
    exact ⟨by rw [tb_succ]; rfl, j1⟩
  · rintro a h ⟨rfl, j⟩
    exact done h j
/-- a comprehension of which each element has what is asked -/
theorem W_lcQ {f : D → Hh → Out (Option D)} {chk : List (Nat × List D)} {P : List D → Hh → Prop} {xs : List D} {h : Hh} (Q : Nat → D → Prop) (J : Hh → Prop)
    (stay : ∀ h, J h → chkOk chk h)
    (step : ∀ i x h, i < xs.length → xs[i]? = some x → J h → W (f x h) fun o h1 => (∃ y, o = some y ∧ Q i y) ∧ J h1)
    (done : ∀ (g : Nat → D) h, (∀ i, i < xs.length → Q i (g i)) → J h → P (tb xs.length g) h) (h0 : J h) : W (lcL f chk xs h) P := by
  refine W_lcI (I := fun i a h => (∃ g : Nat → D, a = tb i g ∧ ∀ k, k < i → Q k (g k)) ∧ J h) (fun i a h p => stay h p.2) ?_ ?_ ⟨⟨fun _ => .non, rfl, fun k hk => absurd hk (by omega)⟩, h0⟩
  · rintro i x a h hx ⟨⟨g, rfl, hg⟩, j⟩
    refine W_mono (step i x h (List.getElem?_eq_some_iff.mp hx).1 hx j) ?_
    rintro o h1 ⟨⟨y, rfl, hy⟩, j1⟩
    refine ⟨⟨fun k => if k = i then y else g k, ?_, fun k hk => ?_⟩, j1⟩
    · rw [tb_succ, if_pos rfl, tb_congr (g := g) fun k hk => if_neg (by omega)]; rfl
    · dsimp only
      by_cases e : k = i
      · rw [if_pos e, e]; exact hy
      · rw [if_neg e]; exact hg k (by omega)
  · rintro a h ⟨⟨g, rfl, hg⟩, j⟩
    exact done g h hg j
/-- a comprehension with an if -/
theorem W_lcP {f : D → Hh → Out (Option D)} {chk : List (Nat × List D)} {P : List D → Hh → Prop} {xs : List D} {h : Hh} (g : D → Option D) (J : Hh → Prop)
    (stay : ∀ h, J h → chkOk chk h)
    (step : ∀ (i : Nat) (x : D) (h : Hh), xs[i]? = some x → J h → W (f x h) fun o h1 => o = g x ∧ J h1)
    (done : ∀ h, J h → P (xs.filterMap g) h) (h0 : J h) : W (lcL f chk xs h) P := by
  refine W_lcI (I := fun i a h => a = (xs.take i).filterMap g ∧ J h) (fun i a h p => stay h p.2) ?_ ?_ ⟨rfl, h0⟩
  · rintro i x a h hx ⟨rfl, j⟩
    refine W_mono (step i x h hx j) ?_
    rintro o h1 ⟨rfl, j1⟩
    refine ⟨?_, j1⟩
    rw [List.take_add_one, hx, List.filterMap_append]
    cases hg : g x <;> simp [hg]
  · rintro a h ⟨rfl, j⟩
    rw [List.take_length]
    exact done h j
/-- a comprehension that lets none by -/
theorem W_lcNo {f : D → Hh → Out (Option D)} {chk : List (Nat × List D)} {P : List D → Hh → Prop} {xs : List D} {h : Hh} (J : Hh → Prop)
    (stay : ∀ h, J h → chkOk chk h)
    (step : ∀ (i : Nat) (x : D) (h : Hh), xs[i]? = some x → J h → W (f x h) fun o h1 => o = none ∧ J h1)
    (done : ∀ h, J h → P [] h) (h0 : J h) : W (lcL f chk xs h) P := by
  refine W_lcP (fun _ => none) J stay step (fun h j => ?_) h0
  have e : xs.filterMap (fun _ => (none : Option D)) = [] := by simp
  rw [e]; exact done h j
/-! the places that loops walk -/
theorem zipD_get' : ∀ {xs ys : List D} {i : Nat} {x y : D}, xs[i]? = some x → ys[i]? = some y → (zipD xs ys)[i]? = some (.tup [x, y])
  | x :: xs, y :: ys, 0, _, _, hx, hy => by simp_all [zipD]
  | x :: xs, y :: ys, i + 1, _, _, hx, hy => by
    simp only [zipD, List.getElem?_cons_succ] at hx hy ⊢
    exact zipD_get' hx hy
theorem zipD_len' : ∀ {xs ys : List D}, (zipD xs ys).length = min xs.length ys.length
  | [], _ => by simp [zipD]
  | _ :: _, [] => by simp [zipD]
  | x :: xs, y :: ys => by simp only [zipD, List.length_cons, zipD_len' (xs := xs) (ys := ys)]; omega
theorem zipD_tb (n : Nat) (f g : Nat → D) : zipD (tb n f) (tb n g) = tb n fun i => .tup [f i, g i] := by
  refine List.ext_getElem? fun i => ?_
  rcases Nat.lt_or_ge i n with hl | hl
  · rw [tb_get _ hl, zipD_get' (tb_get f hl) (tb_get g hl)]
  · rw [List.getElem?_eq_none (by rw [zipD_len']; simp; omega), List.getElem?_eq_none (by simp [hl])]
theorem enumD_get' : ∀ {xs : List D} {m i : Nat} {x : D}, xs[i]? = some x → (enumD m xs)[i]? = some (.tup [.int ((m + i : Nat) : Int), x])
  | x :: xs, m, 0, _, hx => by simp_all [enumD]
  | x :: xs, m, i + 1, _, hx => by
    simp only [enumD, List.getElem?_cons_succ] at hx ⊢
    rw [enumD_get' hx]
    congr 5; omega
theorem enumD_len' : ∀ {xs : List D} {m : Nat}, (enumD m xs).length = xs.length
  | [], _ => rfl
  | x :: xs, m => by simp [enumD, enumD_len' (xs := xs)]
theorem enumD_tb (n : Nat) (f : Nat → D) : enumD 0 (tb n f) = tb n fun i => .tup [.int (i : Nat), f i] := by
  refine List.ext_getElem? fun i => ?_
  rcases Nat.lt_or_ge i n with hl | hl
  · rw [tb_get _ hl, enumD_get' (tb_get f hl)]; simp
  · rw [List.getElem?_eq_none (by rw [enumD_len']; simp [hl]), List.getElem?_eq_none (by simp [hl])]
theorem rangeD_tb (n : Nat) : rangeD 0 n = tb n fun i => .int (i : Nat) := by
  unfold rangeD tb; exact List.map_congr_left fun i _ => by rw [Int.zero_add]
theorem atI_tb {n : Nat} {k : Int} (f : Nat → D) (h0 : 0 ≤ k) (h1 : k < n) : L2.atI (tb n f) k = some (f k.toNat) := by
  rw [atI_nat _ h0 (by simpa using h1), tb_get _ (by omega)]
theorem atI_tbn {n i : Nat} (f : Nat → D) (h1 : i < n) : L2.atI (tb n f) (i : Int) = some (f i) := by
  rw [atI_tb f (by omega) (by omega)]; rfl
theorem ixN_nat {n i : Nat} (h : i < n) : L2.ixN n (i : Int) = some i := by
  unfold L2.ixN
  rw [if_pos (by omega), if_pos (by omega)]; rfl
end Ip

/-! Iq, part M: plain sums of fractions, walks on pages, equations. -/
namespace Ip

/-! ### sums -/
def sm : Nat → (Nat → Rat) → Rat
  | 0, _ => 0
  | n + 1, f => sm n f + f n
theorem sm_congr {f g : Nat → Rat} : ∀ {n : Nat}, (∀ i, i < n → f i = g i) → sm n f = sm n g
  | 0, _ => rfl
  | n + 1, h => by rw [sm, sm, sm_congr fun i hi => h i (by omega), h n (by omega)]
theorem sm_add (f g : Nat → Rat) : ∀ n, sm n (fun i => f i + g i) = sm n f + sm n g
  | 0 => by simp only [sm]; grind
  | n + 1 => by simp only [sm]; rw [sm_add f g n]; grind
theorem sm_sub (f g : Nat → Rat) : ∀ n, sm n (fun i => f i - g i) = sm n f - sm n g
  | 0 => by simp only [sm]; grind
  | n + 1 => by simp only [sm]; rw [sm_sub f g n]; grind
theorem sm_mul (c : Rat) (f : Nat → Rat) : ∀ n, sm n (fun i => c * f i) = c * sm n f
  | 0 => by simp only [sm]; grind
  | n + 1 => by simp only [sm]; rw [sm_mul c f n]; grind
theorem sm_mul' (c : Rat) (f : Nat → Rat) (n : Nat) : sm n (fun i => f i * c) = sm n f * c := by
  rw [Rat.mul_comm, ← sm_mul]
  exact sm_congr fun i _ => Rat.mul_comm _ _
theorem sm_const (c : Rat) : ∀ n, sm n (fun _ => c) = n * c
  | 0 => by simp only [sm]; grind
  | n + 1 => by simp only [sm]; rw [sm_const c n]; grind
theorem sm_zero (n : Nat) : sm n (fun _ => 0) = 0 := by rw [sm_const]; grind
theorem sm_z {f : Nat → Rat} {n : Nat} (h : ∀ i, i < n → f i = 0) : sm n f = 0 := (sm_congr h).trans (sm_zero n)
theorem sm_le {f g : Nat → Rat} : ∀ {n : Nat}, (∀ i, i < n → f i ≤ g i) → sm n f ≤ sm n g
  | 0, _ => by simp only [sm]; grind
  | n + 1, h => by
    have a := sm_le (n := n) fun i hi => h i (Nat.lt_succ_of_lt hi)
    have b := h n (by omega)
    simp only [sm]; grind
theorem sm_nn {f : Nat → Rat} {n : Nat} (h : ∀ i, i < n → 0 ≤ f i) : 0 ≤ sm n f := by
  have := sm_le h
  rw [sm_zero] at this
  exact this
theorem sm_comm (f : Nat → Nat → Rat) (m : Nat) : ∀ n, sm n (fun i => sm m (fun j => f i j)) = sm m (fun j => sm n (fun i => f i j))
  | 0 => by simp only [sm]; rw [sm_zero]
  | n + 1 => by simp only [sm]; rw [sm_comm f m n, ← sm_add]
theorem sm_one {f : Nat → Rat} {k : Nat} : ∀ {n : Nat}, k < n → (∀ i, i < n → i ≠ k → f i = 0) → sm n f = f k
  | n + 1, hk, h => by
    simp only [sm]
    rcases Nat.lt_or_ge k n with hl | hl
    · rw [sm_one hl fun i hi => h i (by omega), h n (by omega) (by omega)]; grind
    · have e : k = n := by omega
      subst e
      rw [sm_z fun i hi => h i (by omega) (by omega)]; grind
/-- all are 0 where a sum of numbers from 0 on is none -/
theorem sm_all {f : Nat → Rat} : ∀ {n : Nat}, (∀ i, i < n → 0 ≤ f i) → sm n f ≤ 0 → ∀ i, i < n → f i = 0
  | n + 1, h, hs, i, hi => by
    have a := sm_nn (n := n) fun i hi => h i (Nat.lt_succ_of_lt hi)
    have b := h n (by omega)
    simp only [sm] at hs
    rcases Nat.lt_or_ge i n with hl | hl
    · exact sm_all (fun i hi => h i (by omega)) (by grind) i hl
    · have e : i = n := by omega
      subst e; grind
theorem sm_term {f : Nat → Rat} {n : Nat} (h : ∀ i, i < n → 0 ≤ f i) {k : Nat} (hk : k < n) : f k ≤ sm n f := by
  have := sm_le (f := fun i => if i = k then f k else 0) (g := f) (n := n) fun i hi => by
    split
    · next e => rw [e]; exact Rat.le_refl
    · exact h i hi
  rw [sm_one hk (by intro i _ hne; rw [if_neg hne]), if_pos rfl] at this
  exact this
theorem sm_append (f : Nat → Rat) (m : Nat) : ∀ n, sm (m + n) f = sm m f + sm n (fun i => f (m + i))
  | 0 => by simp only [sm]; grind
  | n + 1 => by rw [← Nat.add_assoc]; simp only [sm]; rw [sm_append f m n]; grind

/-! ### a number without its sign -/
def ab (q : Rat) : Rat := if q < 0 then -q else q
theorem ab_nn (q : Rat) : 0 ≤ ab q := by unfold ab; split <;> grind
theorem ab_le (q : Rat) : q ≤ ab q := by unfold ab; split <;> grind
theorem ab_add (p q : Rat) : ab (p + q) ≤ ab p + ab q := by unfold ab; split <;> split <;> split <;> grind
theorem ab_of {q : Rat} (h : 0 ≤ q) : ab q = q := by unfold ab; split <;> grind
theorem ab_zero {q : Rat} (h : ab q = 0) : q = 0 := by unfold ab at h; split at h <;> grind
theorem ab_neg (q : Rat) : ab (-q) = ab q := by unfold ab; split <;> split <;> grind
theorem ab_mulr {p : Rat} (h : 0 ≤ p) (q : Rat) : ab (q * p) = ab q * p := by
  unfold ab
  by_cases hq : q < 0
  · rw [if_pos hq]
    by_cases hp : p = 0
    · subst hp; rw [if_neg (by grind)]; grind
    · have := Rat.mul_pos (show 0 < -q by grind) (show 0 < p by grind)
      rw [if_pos (by grind)]; grind
  · rw [if_neg hq]
    have := Rat.mul_nonneg (show 0 ≤ q by grind) h
    rw [if_neg (by grind)]
theorem ab_sm (f : Nat → Rat) : ∀ n, ab (sm n f) ≤ sm n fun i => ab (f i)
  | 0 => by simp only [sm]; rw [ab_of (by grind)]; grind
  | n + 1 => by
    have a := ab_sm f n
    have b := ab_add (sm n f) (f n)
    simp only [sm]; grind
/-- how far apart rows are -/
def n1 (n : Nat) (f : Nat → Rat) : Rat := sm n fun i => ab (f i)
theorem n1_nn (n : Nat) (f : Nat → Rat) : 0 ≤ n1 n f := sm_nn fun i _ => ab_nn _
theorem n1_zero {n : Nat} {f : Nat → Rat} (h : n1 n f ≤ 0) : ∀ i, i < n → f i = 0 := fun i hi => ab_zero (sm_all (fun i _ => ab_nn _) h i hi)

/-! ### steps of a walk -/
/-- a step from a row: rows of a walk -/
def stp (n : Nat) (P : Nat → Nat → Rat) (x : Nat → Rat) (j : Nat) : Rat := sm n fun i => x i * P i j
theorem stp_congr {n : Nat} {P : Nat → Nat → Rat} {x y : Nat → Rat} (h : ∀ i, i < n → x i = y i) (j : Nat) : stp n P x j = stp n P y j := sm_congr fun i hi => by rw [h i hi]
theorem stp_add (n : Nat) (P : Nat → Nat → Rat) (x y : Nat → Rat) (j : Nat) : stp n P (fun i => x i + y i) j = stp n P x j + stp n P y j := by
  unfold stp; rw [← sm_add]; exact sm_congr fun i _ => by grind
theorem stp_sub (n : Nat) (P : Nat → Nat → Rat) (x y : Nat → Rat) (j : Nat) : stp n P (fun i => x i - y i) j = stp n P x j - stp n P y j := by
  unfold stp; rw [← sm_sub]; exact sm_congr fun i _ => by grind
theorem stp_mul (n : Nat) (P : Nat → Nat → Rat) (c : Rat) (x : Nat → Rat) (j : Nat) : stp n P (fun i => c * x i) j = c * stp n P x j := by
  unfold stp; rw [← sm_mul]; exact sm_congr fun i _ => by grind
/-- each row's numbers are together 1 -/
theorem stp_sum {n : Nat} {P : Nat → Nat → Rat} (h : ∀ i, i < n → sm n (P i) = 1) (x : Nat → Rat) : sm n (stp n P x) = sm n x := by
  unfold stp
  rw [sm_comm]
  refine sm_congr fun i hi => ?_
  rw [sm_mul, h i hi]; grind
/-- a walk with a leap: the ways are a leap's part of one row, and the rest by ways from 0 on, together 1 -/
structure Wk (n : Nat) (l : Rat) (q : Nat → Rat) (A P : Nat → Nat → Rat) : Prop where
  l0 : 0 < l
  l1 : l ≤ 1
  q0 : ∀ j, j < n → 0 ≤ q j
  q1 : sm n q = 1
  a0 : ∀ i j, i < n → j < n → 0 ≤ A i j
  a1 : ∀ i, i < n → sm n (A i) = 1
  p : ∀ i j, i < n → j < n → P i j = l * q j + (1 - l) * A i j
namespace Wk
variable {n : Nat} {l : Rat} {q : Nat → Rat} {A P : Nat → Nat → Rat} (w : Wk n l q A P)
include w
theorem p1 : ∀ i, i < n → sm n (P i) = 1 := fun i hi => by
  rw [sm_congr (fun j hj => w.p i j hi hj), sm_add, sm_mul, sm_mul, w.q1, w.a1 i hi]; grind
theorem p0 : ∀ i j, i < n → j < n → 0 ≤ P i j := fun i j hi hj => by
  rw [w.p i j hi hj]
  have a := Rat.mul_nonneg (Rat.le_of_lt w.l0) (w.q0 j hj)
  have b := Rat.mul_nonneg (show 0 ≤ 1 - l by have := w.l1; grind) (w.a0 i j hi hj)
  grind
theorem sum (x : Nat → Rat) : sm n (stp n P x) = sm n x := stp_sum w.p1 x
theorem stp_eq (x : Nat → Rat) (j : Nat) (hj : j < n) : stp n P x j = l * q j * sm n x + (1 - l) * stp n A x j := by
  unfold stp
  rw [← sm_mul, ← sm_mul, ← sm_add]
  exact sm_congr fun i hi => by rw [w.p i j hi hj]; grind
theorem a_near (x : Nat → Rat) : n1 n (stp n A x) ≤ n1 n x := by
  unfold n1 stp
  have h : sm n (fun j => ab (sm n fun i => x i * A i j)) ≤ sm n fun j => sm n fun i => ab (x i) * A i j := by
    refine sm_le fun j hj => Rat.le_trans (ab_sm _ n) (sm_le fun i hi => ?_)
    rw [ab_mulr (w.a0 i j hi hj)]; exact Rat.le_refl
  refine Rat.le_trans h ?_
  rw [← sm_comm, sm_congr (g := fun i => ab (x i)) fun i hi => ?_]
  · exact Rat.le_refl
  · rw [sm_mul, w.a1 i hi]; grind
/-- of a row together 0, a step leaves the rest of the leap at most -/
theorem near {x : Nat → Rat} (h : sm n x = 0) : n1 n (stp n P x) ≤ (1 - l) * n1 n x := by
  have e : n1 n (stp n P x) = (1 - l) * n1 n (stp n A x) := by
    unfold n1
    rw [← sm_mul]
    refine sm_congr fun j hj => ?_
    rw [w.stp_eq x j hj, h]
    have := ab_mulr (show 0 ≤ 1 - l by have := w.l1; grind) (stp n A x j)
    rw [show l * q j * 0 + (1 - l) * stp n A x j = stp n A x j * (1 - l) by grind, this]; grind
  rw [e]
  exact Rat.mul_le_mul_of_nonneg_left (w.a_near x) (by have := w.l1; grind)
/-- just one row together 0 is its own row behind a step -/
theorem only0 {x : Nat → Rat} (h : sm n x = 0) (hx : ∀ j, j < n → stp n P x j = x j) : ∀ i, i < n → x i = 0 := by
  have a := w.near h
  have e : n1 n (stp n P x) = n1 n x := sm_congr fun j hj => by rw [hx j hj]
  rw [e] at a
  have b := n1_nn n x
  refine n1_zero ?_
  have c : l * n1 n x ≤ 0 := by grind
  by_cases hl : 0 < n1 n x
  · have := Rat.mul_pos w.l0 hl; grind
  · grind
/-- there is just one row of shares -/
theorem only {x y : Nat → Rat} (h : sm n x = sm n y) (hx : ∀ j, j < n → stp n P x j = x j) (hy : ∀ j, j < n → stp n P y j = y j) : ∀ i, i < n → x i = y i := fun i hi => by
  have := w.only0 (x := fun i => x i - y i) (by rw [sm_sub, h]; grind) (fun j hj => by rw [stp_sub, hx j hj, hy j hj]) i hi
  grind
/-- shares are none below 0 -/
theorem pos {x : Nat → Rat} (h : sm n x = 1) (hx : ∀ j, j < n → stp n P x j = x j) : ∀ i, i < n → 0 ≤ x i := by
  have h1 : n1 n x ≤ l + (1 - l) * n1 n x := by
    have s1 : n1 n x ≤ sm n (fun j => l * q j + (1 - l) * ab (stp n A x j)) := by
      refine sm_le fun j hj => ?_
      have e := hx j hj
      rw [w.stp_eq x j hj, h] at e
      have a := ab_add (l * q j) (stp n A x j * (1 - l))
      have b := ab_of (Rat.mul_nonneg (Rat.le_of_lt w.l0) (w.q0 j hj))
      have c := ab_mulr (show 0 ≤ 1 - l by have := w.l1; grind) (stp n A x j)
      rw [show l * q j + stp n A x j * (1 - l) = x j by grind] at a
      grind
    rw [sm_add, sm_mul, sm_mul, w.q1] at s1
    have s2 := Rat.mul_le_mul_of_nonneg_left (w.a_near x) (show 0 ≤ 1 - l by have := w.l1; grind)
    unfold n1 at s2 ⊢
    unfold n1 at s1
    grind
  have h2 : n1 n x ≤ 1 := by
    by_cases hl : 1 < n1 n x
    · have := Rat.mul_pos w.l0 (show 0 < n1 n x - 1 by grind); grind
    · grind
  have h3 : ∀ i, i < n → ab (x i) - x i = 0 := sm_all (fun i _ => by have := ab_le (x i); grind) (by rw [sm_sub, h]; unfold n1 at h2; grind)
  intro i hi
  have := h3 i hi
  have := ab_nn (x i)
  grind
end Wk

/-! ### equations -/
/-- what fulfils all rows, the number behind included -/
def Nu (n : Nat) (R : Nat → Nat → Rat) (y : Nat → Rat) : Prop := ∀ i, i < n → sm (n + 1) (fun j => R i j * y j) = 0
/-- columns below c are done -/
def Dn (n c : Nat) (R : Nat → Nat → Rat) : Prop := ∀ i j, i < n → j < c → R i j = if i = j then 1 else 0
/-- rows without choice -/
def Rg (n : Nat) (R : Nat → Nat → Rat) : Prop := ∀ y, y n = 0 → Nu n R y → ∀ i, i < n → y i = 0
/-- a column taken off all rows, by the row a -/
def pv (R : Nat → Nat → Rat) (c a : Nat) (j : Nat) : Rat := R a j / R a c
def sw (R : Nat → Nat → Rat) (c a : Nat) (i : Nat) : Nat → Rat := if i = a then R c else R i
def ro (R : Nat → Nat → Rat) (c a : Nat) (i j : Nat) : Rat := if i = c then pv R c a j else sw R c a i j - sw R c a i c * pv R c a j
theorem Nu_ro {n : Nat} {R : Nat → Nat → Rat} {c a : Nat} (hc : c < n) (ha : a < n) (h : R a c ≠ 0) (y : Nat → Rat) : Nu n (ro R c a) y ↔ Nu n R y := by
  have ep : sm (n + 1) (fun j => pv R c a j * y j) = (R a c)⁻¹ * sm (n + 1) (fun j => R a j * y j) := by
    rw [← sm_mul]; exact sm_congr fun j _ => by unfold pv; rw [Rat.div_def]; grind
  have er : ∀ i, i ≠ c → sm (n + 1) (fun j => ro R c a i j * y j) = sm (n + 1) (fun j => sw R c a i j * y j) - sw R c a i c * sm (n + 1) (fun j => pv R c a j * y j) := fun i hi => by
    rw [← sm_mul, ← sm_sub]; exact sm_congr fun j _ => by unfold ro; rw [if_neg hi]; grind
  constructor
  · intro hy
    have hp : sm (n + 1) (fun j => pv R c a j * y j) = 0 := by
      have := hy c hc
      rw [← this]; exact sm_congr fun j _ => by unfold ro; rw [if_pos rfl]
    have hra : sm (n + 1) (fun j => R a j * y j) = 0 := by
      rw [ep] at hp
      rcases Rat.mul_eq_zero.mp hp with z | z
      · exact absurd (by rw [← Rat.inv_inv (a := R a c), z]; exact Rat.inv_zero) h
      · exact z
    have hs : ∀ i, i < n → i ≠ c → sm (n + 1) (fun j => sw R c a i j * y j) = 0 := fun i hi hne => by
      have := hy i hi
      rw [er i hne, hp] at this; grind
    intro i hi
    by_cases hia : i = a
    · rw [hia]; exact hra
    by_cases hic : i = c
    · have := hs a ha (by omega)
      rw [hic, ← this]; exact sm_congr fun j _ => by unfold sw; rw [if_pos rfl]
    · have := hs i hi hic
      rw [← this]; exact sm_congr fun j _ => by unfold sw; rw [if_neg hia]
  · intro hy
    have hp : sm (n + 1) (fun j => pv R c a j * y j) = 0 := by rw [ep, hy a ha]; grind
    intro i hi
    by_cases hic : i = c
    · rw [← hp]; exact sm_congr fun j _ => by unfold ro; rw [if_pos hic]
    · rw [er i hic, hp]
      have : sm (n + 1) (fun j => sw R c a i j * y j) = 0 := by
        by_cases hia : i = a
        · rw [← hy c hc]; exact sm_congr fun j _ => by unfold sw; rw [if_pos hia]
        · rw [← hy i hi]; exact sm_congr fun j _ => by unfold sw; rw [if_neg hia]
      rw [this]; grind
theorem Dn_ro {n : Nat} {R : Nat → Nat → Rat} {c a : Nat} (hc : c < n) (ha : a < n) (hca : c ≤ a) (h : R a c ≠ 0) (d : Dn n c R) : Dn n (c + 1) (ro R c a) := by
  intro i j hi hj
  have hpc : pv R c a c = 1 := by unfold pv; rw [Rat.div_def]; exact Rat.mul_inv_cancel _ h
  rcases Nat.lt_or_ge j c with hl | hl
  · have hp : pv R c a j = 0 := by
      unfold pv; rw [d a j ha hl, if_neg (by omega), Rat.div_def]; grind
    unfold ro
    by_cases hic : i = c
    · rw [if_pos hic, hp, if_neg (by omega)]
    · rw [if_neg hic, hp]
      have : sw R c a i j = if i = j then 1 else 0 := by
        unfold sw
        by_cases hia : i = a
        · rw [if_pos hia, d c j hc hl, if_neg (by omega), if_neg (by omega)]
        · rw [if_neg hia, d i j hi hl]
      rw [this]; grind
  · have e : j = c := by omega
    subst e
    unfold ro
    by_cases hic : i = j
    · rw [if_pos hic, hpc, if_pos hic]
    · rw [if_neg hic, hpc, if_neg hic]; grind
/-- there is a row for the next column -/
theorem Rg.some {n : Nat} {R : Nat → Nat → Rat} {c : Nat} (hc : c < n) (d : Dn n c R) (r : Rg n R) : ∃ a, c ≤ a ∧ a < n ∧ R a c ≠ 0 := by
  refine Classical.byContradiction fun no => ?_
  have hz : ∀ i, c ≤ i → i < n → R i c = 0 := fun i h1 h2 => Classical.byContradiction fun z => no ⟨i, h1, h2, z⟩
  have := r (fun j => if j < c then - R j c else if j = c then 1 else 0) (by rw [if_neg (by omega), if_neg (by omega)]) (fun i hi => ?_) c hc
  · rw [if_neg (by omega), if_pos rfl] at this
    exact absurd this (by decide)
  · have key : ∀ m, m ≤ n + 1 → sm m (fun j => R i j * (if j < c then - R j c else if j = c then 1 else 0)) = (if i < m then (if i < c then - R i c else 0) else 0) + (if c < m then R i c else 0) := by
      intro m
      induction m with
      | zero => intro _; simp only [sm]; rw [if_neg (by omega), if_neg (by omega)]; grind
      | succ m ih =>
        intro hm
        simp only [sm]
        rw [ih (by omega)]
        have hd : m < c → R i m = if i = m then 1 else 0 := fun hl => d i m hi hl
        rcases Nat.lt_trichotomy m c with hmc | hmc | hmc
        · rw [hd hmc]; grind
        · subst hmc; grind
        · grind
    rw [key (n + 1) (Nat.le_refl _)]
    have hz' : ¬ i < c → R i c = 0 := fun h1 => hz i (by omega) hi
    by_cases h1 : i < c
    · grind
    · have := hz' h1; grind
theorem Rg.ro {n : Nat} {R : Nat → Nat → Rat} {c a : Nat} (hc : c < n) (ha : a < n) (h : R a c ≠ 0) (r : Rg n R) : Rg n (ro R c a) := fun y hy hN => r y hy ((Nu_ro hc ha h y).mp hN)
/-- all columns done: the numbers behind fulfil the rows -/
theorem Dn_all {n : Nat} {R : Nat → Nat → Rat} (d : Dn n n R) : Nu n R fun j => if j = n then -1 else R j n := by
  intro i hi
  simp only [sm, if_true]
  have : sm n (fun j => R i j * (if j = n then -1 else R j n)) = R i n := by
    rw [sm_one hi, d i i hi hi, if_pos rfl, if_neg (by omega)]
    · grind
    · intro j hj hne
      rw [d i j hi hj, if_neg (fun e => hne e.symm)]; grind
  rw [this]; grind
end Ip

/-! Iq, part C: webs, ways, steps (the package's), walked once. -/
namespace Ip
open PySem

/-- nothing is changed -/
abbrev Kn (h h' : Hh) : Prop := Kp (fun _ => False) h h'
theorem Kp.gets {a b : Hh} {x : Nat → Prop} (p : Kp x a b) {m : Nat} {o : O} (hm : a[m]? = some o) (hx : ¬ x m) : b[m]? = some o := p.get hm hx
theorem Kn.get {a b : Hh} (p : Kn a b) {m : Nat} {o : O} (hm : a[m]? = some o) : b[m]? = some o := Kp.get p hm (fun h => h)
theorem get_app {h : Hh} {n : Nat} {o : O} (hn : h[n]? = some o) (j : Hh) : (h ++ j)[n]? = some o := by rw [List.getElem?_append_left (lt_of_get hn)]; exact hn
/-- the package's fractions stand in the table -/
structure KF (T : Tb) : Prop where
  common : T "common" = some ⟨2, 4, bdCommon⟩
  made : T "made" = some ⟨2, 3, bdMade⟩
  plus : T "plus" = some ⟨2, 2, bdPlus⟩
  less : T "less" = some ⟨2, 2, bdLess⟩
  times : T "times" = some ⟨2, 2, bdTimes⟩
/-- great enough for all -/
abbrev big : Nat := 60000000
section
variable {T : Tb} (F : KF T) (k : Nat) {p q : Rat} (hp : sz big p) (hq : sz big q) (h : Hh)
include F hp hq
theorem e_plus : callF T (k + 3) "plus" [Fq p, Fq q] h = .ok (Fq (p + q)) h := sp_plus F.common F.made k hp hq (by decide) h F.plus
theorem e_less : callF T (k + 3) "less" [Fq p, Fq q] h = .ok (Fq (p - q)) h := sp_less F.common F.made k hp hq (by decide) h F.less
theorem e_times : callF T (k + 3) "times" [Fq p, Fq q] h = .ok (Fq (p * q)) h := sp_times F.common F.made k hp hq (by decide) h F.times
end

def w_leads : List Stt := [
  .ret (.lcIf (.ix (.var 0) (.int 1)) (.tup [.var 2, .var 3]) (.cmp .eq (.var 2) (.var 1)) (.var 3) [2, 3])]
def w_ways : List Stt := [
  .asg (.var 4) (.call "leads" [.var 0, .var 3]),
  .ite (.cmp .eq (.var 4) (.lst [])) [.ret (.bi .tuple [.var 2])] [],
  .asg (.var 5) (.call "less" [.tup [.int 1, .int 1], .var 1]),
  .asg (.var 6) (.lst []),
  .fr (.tup [.var 7, .var 8]) (.bi .enumerate [.var 2]) [.asg (.var 9) (.call "times" [.var 5, .call "made" [.mt .count (.var 4) [.var 7], .bi .len [.var 4]]]), .ex (.mt .append (.var 6) [.call "plus" [.call "times" [.var 1, .var 8], .var 9]])],
  .ret (.bi .tuple [.var 6])]
/-- a pair as the program tells it -/
def Pd (p : Int × Int) : D := .tup [.int p.1, .int p.2]
/-- a web -/
def Wb (n : Nat) (ls : List (Int × Int)) : D := .tup [.int (n : Nat), .tup (ls.map Pd)]
/-- a row of fractions -/
def Vt (n : Nat) (f : Nat → Rat) : D := .tup (tb n fun i => Fq (f i))
/-- where the links of a page lead -/
def tos (ls : List (Int × Int)) (pg : Int) : List Int := (ls.filter fun p => decide (p.1 = pg)).map (·.2)
@[simp] theorem ix_Wb0 (n : Nat) (ls : List (Int × Int)) (h : Hh) : getIx (Wb n ls) (.int 0) h = .ok (.int n) h := getIx_T0 ..
@[simp] theorem ix_Wb1 (n : Nat) (ls : List (Int × Int)) (h : Hh) : getIx (Wb n ls) (.int 1) h = .ok (.tup (ls.map Pd)) h := getIx_T1 ..
@[simp] theorem seq_T (ds : List D) (h : Hh) : itSeq (.tup ds) h = .ok (ds, []) h := rfl
@[simp] theorem seq_V (n : Nat) (f : Nat → Rat) (h : Hh) : itSeq (Vt n f) h = .ok (tb n fun i => Fq (f i), []) h := rfl
theorem it_enumV (n : Nat) (f : Nat → Rat) (h : Hh) : itB .enumerate [Vt n f] h = .ok (tb n fun i => .tup [.int (i : Nat), Fq (f i)], []) h := by
  show Out.ok (enumD 0 (tb n fun i => Fq (f i)), []) h = _
  rw [enumD_tb]
theorem it_zipV (n : Nat) (f g : Nat → Rat) (h : Hh) : itB .zip [Vt n f, Vt n g] h = .ok (tb n fun i => .tup [Fq (f i), Fq (g i)], []) h := by
  show Out.ok (zipD (tb n fun i => Fq (f i)) (tb n fun i => Fq (g i)), []) h = _
  rw [zipD_tb]
theorem it_rangeN (n : Nat) (hn : n < 1000000) (h : Hh) : itB .range [.int (n : Nat)] h = .ok (tb n fun i => .int (i : Nat), []) h := by
  rw [itB_range, need_pos (by omega), Int.toNat_natCast, rangeD_tb]
@[simp] theorem isi_V (n : Nat) (f : Nat → Rat) : isInst (Vt n f) "tuple" = some true := rfl
@[simp] theorem len_V (n : Nat) (f : Nat → Rat) (h : Hh) : evB .len [Vt n f] h = .ok (.int (n : Nat)) h := by
  show evB .len [.tup _] h = _
  rw [bi_lenT, tb_len]
@[simp] theorem tup_V (n : Nat) (f : Nat → Rat) (h : Hh) : evB .tuple [Vt n f] h = .ok (Vt n f) h := rfl
theorem ix_V {n i : Nat} (f : Nat → Rat) (hi : i < n) (h : Hh) : getIx (Vt n f) (.int (i : Nat)) h = .ok (Fq (f i)) h := getIx_T h _ (atI_tbn _ hi)
theorem G_V (n : Nat) (f : Nat → Rat) : G 60 (Vt n f) := by
  intro d hd
  obtain ⟨i, _, rfl⟩ := tb_mem hd
  exact G_Fq _ _
theorem V_inj {n : Nat} {f g : Nat → Rat} : Vt n f = Vt n g ↔ ∀ i, i < n → f i = g i := by
  unfold Vt
  rw [D.tup.injEq, tb_inj]
  exact ⟨fun h i hi => Fq_inj.mp (h i hi), fun h i hi => Fq_inj.mpr (h i hi)⟩
theorem V_congr {n : Nat} {f g : Nat → Rat} (h : ∀ i, i < n → f i = g i) : Vt n f = Vt n g := V_inj.mpr h
theorem tos_len (ls : List (Int × Int)) (pg : Int) : (tos ls pg).length ≤ ls.length := by
  unfold tos
  rw [List.length_map]
  exact List.length_filter_le _ _
/-- where a link leads, if it is one of a page's -/
def toOf (pg : Int) (d : D) : Option D := match d with
    | .tup [.int a, .int b] => if a = pg then some (.int b) else none
    | _ => none
theorem toOf_Pd (pg : Int) (p : Int × Int) : toOf pg (Pd p) = if p.1 = pg then some (.int p.2) else none := rfl
theorem tos_map (ls : List (Int × Int)) (pg : Int) : (ls.map Pd).filterMap (toOf pg) = (tos ls pg).map D.int := by
  induction ls with
  | nil => rfl
  | cons p ls ih =>
    unfold tos at ih ⊢
    simp only [List.map_cons, List.filterMap_cons, toOf_Pd, ih, List.filter_cons]
    by_cases h : p.1 = pg <;> simp [h]
theorem mem_tos {ls : List (Int × Int)} {pg t : Int} : t ∈ tos ls pg ↔ (pg, t) ∈ ls := by
  unfold tos
  simp only [List.mem_map, List.mem_filter, decide_eq_true_eq]
  exact ⟨fun ⟨p, ⟨h1, h2⟩, h3⟩ => by rw [← h2, ← h3]; exact h1, fun h => ⟨_, ⟨h, rfl⟩, rfl⟩⟩
theorem sp_leads {T : Tb} (hT : T "leads" = some ⟨2, 4, w_leads⟩) (k : Nat) (n : Nat) (ls : List (Int × Int)) (hl : ls.length ≤ 1000) (pg : Int) (h : Hh) :
    callF T (k + 1) "leads" [Wb n ls, .int pg] h = .ok (.ref h.length) (h ++ [.lst ((tos ls pg).map D.int)]) := by
  refine W_iff (W_call hT rfl ?_)
  simp [w_leads, Ip.ev_lcIf, evIt]
  refine W_lcP (toOf pg) (fun h' => h' = h) (fun h' _ => chkOk_nil h') ?_ ?_ rfl
  · rintro i x h' hx rfl
    obtain ⟨p, hp, rfl⟩ := List.mem_map.mp (List.mem_of_getElem? hx)
    rw [toOf_Pd]
    by_cases hp : p.1 = pg <;> simp [eltO, elt2, asgN, wipeE, Pd, hp]
  · rintro h' rfl
    rw [tos_map]
    simp [W_mkL]
    have := tos_len ls pg
    simp only [sizeLine_eq]; omega
/-- links as often as they lead somewhere -/
def dg (ls : List (Int × Int)) (i : Nat) : Nat := (tos ls (i : Nat)).length
def cn (ls : List (Int × Int)) (i j : Nat) : Nat := (tos ls (i : Nat)).count ((j : Nat) : Int)
/-- so many of so many -/
def rt (a b : Nat) : Rat := Rat.divInt (a : Int) (b : Int)
/-- ways of a page -/
def Pm (ls : List (Int × Int)) (l : Rat) (q : Nat → Rat) (i j : Nat) : Rat := if dg ls i = 0 then q j else l * q j + (1 - l) * rt (cn ls i j) (dg ls i)
def Am (ls : List (Int × Int)) (q : Nat → Rat) (i j : Nat) : Rat := if dg ls i = 0 then q j else rt (cn ls i j) (dg ls i)
theorem sz_one : sz 1 1 := by constructor <;> decide
theorem sz_cn {ls : List (Int × Int)} {i : Nat} (hls : ls.length ≤ 1000) (h0 : dg ls i ≠ 0) (j : Nat) : sz 11 (rt (cn ls i j) (dg ls i)) := by
  have h1 : cn ls i j ≤ dg ls i := List.count_le_length
  have h2 := tos_len ls (i : Nat)
  unfold dg at *
  exact sz_divInt (by omega) (by omega) (by omega)
theorem sz_Pm {ls : List (Int × Int)} (hls : ls.length ≤ 1000) {l : Rat} (hl : sz 45 l) {q : Nat → Rat} {j : Nat} (hq : sz 60 (q j)) (i : Nat) : sz 180 (Pm ls l q i j) := by
  unfold Pm
  split
  · exact hq.mono (by decide)
  · next h0 => exact (sz_add (sz_mul hl hq) (sz_mul (sz_sub sz_one hl) (sz_cn hls h0 j))).mono (by decide)
theorem sz_PmZ {ls : List (Int × Int)} (hls : ls.length ≤ 1000) {l : Rat} (hl : sz 45 l) {q : Nat → Rat} {z j : Nat} (hq : sz z (q j)) (i : Nat) : sz (z + 120) (Pm ls l q i j) := by
  unfold Pm
  split
  · exact hq.mono (by omega)
  · next h0 => exact (sz_add (sz_mul hl hq) (sz_mul (sz_sub sz_one hl) (sz_cn hls h0 j))).mono (by omega)
/-- the package's webs and steps stand in the table -/
structure KS (T : Tb) : Prop extends KF T where
  leads : T "leads" = some ⟨2, 4, w_leads⟩
  ways : T "ways" = some ⟨4, 10, w_ways⟩
theorem sp_ways {T : Tb} (F : KS T) (k : Nat) (n : Nat) (hn : n ≤ 1000) (ls : List (Int × Int)) (hls : ls.length ≤ 1000) (l : Rat) (hl : sz 45 l) {z : Nat} (q : Nat → Rat) (hq : ∀ j, j < n → sz z (q j)) (pg : Nat) (h : Hh) (hz : z ≤ 1000 := by omega) :
    W (callF T (k + 4) "ways" [Wb n ls, Fq l, Vt n q, .int (pg : Nat)] h) fun d h' => d = Vt n (Pm ls l q pg) ∧ Kn h h' := by
  refine W_call F.ways rfl ?_
  unfold w_ways
  rw [evSs_cons, W_bind, evS_asg]
  simp [-evSs_cons, sp_leads F.leads (k + 2) n ls hls pg h]
  have hg : dg ls pg ≤ 1000 := Nat.le_trans (tos_len ls _) hls
  have k1 : Kn h (h ++ [O.lst ((tos ls (pg : Nat)).map D.int)]) := Kp.app _ _ _
  have hm := get_new h (O.lst ((tos ls (pg : Nat)).map D.int))
  have hme : h.length ≤ h.length := Nat.le_refl _
  generalize hm0 : h.length = m at hm hme ⊢
  generalize h ++ [O.lst ((tos ls (pg : Nat)).map D.int)] = h1 at hm k1 ⊢
  rw [evSs_cons, W_bind, evS_ite]
  simp [-evSs_cons, W_mkL]
  have hm1 := get_app hm [O.lst []]
  have k2 : Kn h (h1 ++ [O.lst []]) := k1.trans (Kp.app _ _ _)
  rw [cmp_eqL (h1 ++ [O.lst []]) (ys := []) hm1 (by simp) (by simp) (by simp), W_ok, asB_bl, W_ok]
  refine ⟨fun he => ?_, fun he => ?_⟩
  · simp at he
    simp
    refine ⟨V_congr fun j hj => ?_, k2⟩
    unfold Pm
    rw [if_pos (by unfold dg; rw [he]; rfl)]
  · simp at he
    have h0 : dg ls pg ≠ 0 := fun z => he (List.length_eq_zero_iff.mp z)
    generalize h1 ++ [O.lst []] = h2 at hm1 k2
    have s1 : sz 47 (1 - l) := (sz_sub sz_one hl).mono (by decide)
    have zb : z + 200 ≤ big := Nat.le_trans (show z + 200 ≤ 1200 by omega) (by decide)
    simp [two_size, W_mkL, show D.tup [.int 1, .int 1] = Fq 1 from rfl, e_less F.toKF k (sz_one.mono (by decide)) (hl.mono (by decide)), evIt_bi, it_enumV]
    have hr := get_new h2 (O.lst [])
    have k3 : Kn h (h2 ++ [O.lst []]) := k2.trans (Kp.app _ _ _)
    have hm2 := get_app hm1 [O.lst []]
    have hl2 := lt_of_get hm1
    have hlh := k2.1
    generalize hr0 : h2.length = r at hr hl2 ⊢
    generalize h2 ++ [O.lst []] = h3 at hr k3 hm2
    refine W_frI (I := fun i env h' => (∃ a b c, env = [some (Wb n ls), some (Fq l), some (Vt n q), some (.int (pg : Nat)), some (.ref m), some (Fq (1 - l)), some (.ref r), a, b, c]) ∧ h'[r]? = some (.lst (tb i fun j => Fq (Pm ls l q pg j))) ∧ h'[m]? = some (.lst ((tos ls (pg : Nat)).map D.int)) ∧ Kn h h') (fun _ _ h' _ => chkOk_nil h') ?_ ?_ ⟨⟨_, _, _, rfl⟩, hr, hm2, k3⟩
    · rintro i x env h' hx ⟨⟨a, b, c, rfl⟩, hr, hm, kk⟩
      have hi : i < n := by have := (List.getElem?_eq_some_iff.mp hx).1; simpa using this
      rw [tb_get _ hi] at hx
      injection hx with hx; subst hx
      simp
      refine W_count _ hm ?_
      rw [bi_lenR h' hm]
      simp
      rw [sp_made F.common F.made (k + 1) _ _ (by show ((dg ls pg : Nat) : Int) ≠ 0; omega), W_ok]
      rw [show Rat.divInt ((List.count (i : Int) (tos ls (pg : Nat)) : Nat) : Int) (((tos ls (pg : Nat)).length : Nat) : Int) = rt (cn ls pg i) (dg ls pg) from rfl]
      have e1 := sz_cn (i := pg) hls h0 i
      rw [e_times F.toKF k (s1.mono (by decide)) (e1.mono (by decide)), W_ok]
      rw [e_times F.toKF k (hl.mono (by decide)) ((hq i hi).mono (by omega)), W_ok]
      rw [e_plus F.toKF k ((sz_mul hl (hq i hi)).mono (by omega)) ((sz_mul s1 e1).mono (by decide)), W_ok]
      rw [W_append h' hr]
      refine ⟨by simp only [sizeLine_eq, tb_len]; omega, ?_, ?_, kk.setNew (by omega) _⟩
      · rw [get_set (lt_of_get hr), tb_succ]
        unfold Pm
        rw [if_neg h0]; first | done | rfl
      · rw [List.getElem?_set_ne (by omega)]; exact hm
    · rintro env h' ⟨⟨a, b, c, rfl⟩, hr, hm, kk⟩
      simp
      rw [bi_tupR h' hr]
      simp
      exact ⟨rfl, kk⟩

def w_behind : List Stt := [
  .asg (.var 4) (.bin .mul (.lst [.tup [.int 0, .int 1]]) (.ix (.var 0) (.int 0))),
  .fr (.tup [.var 5, .var 6]) (.bi .enumerate [.var 3]) [.fr (.tup [.var 7, .var 8]) (.bi .enumerate [.call "ways" [.var 0, .var 1, .var 2, .var 5]]) [.asg (.ix (.var 4) (.var 7)) (.call "plus" [.ix (.var 4) (.var 7), .call "times" [.var 6, .var 8]])]],
  .ret (.bi .tuple [.var 4])]
structure KB (T : Tb) : Prop extends KS T where
  behind : T "behind" = some ⟨4, 9, w_behind⟩
/-- sizes of a step's numbers -/
structure Bh (n : Nat) (x : Nat → Rat) (P : Nat → Nat → Rat) : Prop where
  x1 : ∀ i, i < n → sz big (x i)
  p1 : ∀ i j, i < n → j < n → sz big (x i * P i j)
  s1 : ∀ p j, p ≤ n → j < n → sz big (sm p fun i => x i * P i j)
theorem flat_rep {α : Type} (x : α) : ∀ n, (List.replicate n [x]).flatten = tb n fun _ => x
  | 0 => rfl
  | n + 1 => by rw [List.replicate_succ', List.flatten_append, flat_rep x n, tb_succ]; simp
theorem sp_behind {T : Tb} (F : KB T) (k : Nat) (n : Nat) (hn : n ≤ 1000) (ls : List (Int × Int)) (hls : ls.length ≤ 1000) (l : Rat) (hl : sz 45 l) (q : Nat → Rat) (hq : ∀ j, j < n → sz 60 (q j)) (x : Nat → Rat) (bh : Bh n x (Pm ls l q)) (h : Hh) :
    W (callF T (k + 5) "behind" [Wb n ls, Fq l, Vt n q, Vt n x] h) fun d h' => d = Vt n (stp n (Pm ls l q) x) ∧ Kn h h' := by
  refine W_call F.behind rfl ?_
  unfold w_behind
  rw [evSs_cons, W_bind, evS_asg]
  simp [-evSs_cons, W_mkL, two_size]
  refine ⟨by decide, W_mulL (xs := [D.tup [.int 0, .int 1]]) (get_new _ _) (by omega) (by omega) (by simp; omega) ?_⟩
  rw [Int.toNat_natCast, flat_rep]
  have hm := get_new (h ++ [O.lst [D.tup [.int 0, .int 1]]]) (O.lst (tb n fun _ => D.tup [.int 0, .int 1]))
  have kk : Kn h (h ++ [O.lst [D.tup [.int 0, .int 1]]] ++ [O.lst (tb n fun _ => D.tup [.int 0, .int 1])]) := (Kp.app _ _ _).trans (Kp.app _ _ _)
  have hmh : h.length ≤ (h ++ [O.lst [D.tup [.int 0, .int 1]]]).length := by simp
  generalize (h ++ [O.lst [D.tup [.int 0, .int 1]]]).length = m at hm hmh ⊢
  generalize (h ++ [O.lst [D.tup [.int 0, .int 1]]] ++ [O.lst (tb n fun _ => D.tup [.int 0, .int 1])]) = h1 at hm kk
  rw [evSs_cons, W_bind, evS_fr]
  simp [-evSs_cons, evIt_bi, it_enumV]
  refine W_frI (I := fun i env h' => (∃ a b c d, env = [some (Wb n ls), some (Fq l), some (Vt n q), some (Vt n x), some (.ref m), a, b, c, d]) ∧ h'[m]? = some (.lst (tb n fun j => Fq (sm i fun i => x i * Pm ls l q i j))) ∧ Kn h h') (fun _ _ h' _ => chkOk_nil h') ?_ ?_ ⟨⟨_, _, _, _, rfl⟩, hm, kk⟩
  · rintro i x' env h' hx ⟨⟨a, b, c, d, rfl⟩, hm, kk⟩
    have hi : i < n := by have := (List.getElem?_eq_some_iff.mp hx).1; simpa using this
    rw [tb_get _ hi] at hx
    injection hx with hx; subst hx
    simp [evIt_bi]
    refine W_mono (sp_ways F.toKS k n hn ls hls l hl q hq i h') ?_
    rintro y h2 ⟨rfl, k2⟩
    have hm2 := Kn.get k2 hm
    rw [it_enumV, W_ok]
    refine W_frI (I := fun o env h' => (∃ c d, env = [some (Wb n ls), some (Fq l), some (Vt n q), some (Vt n x), some (.ref m), some (.int (i : Nat)), some (Fq (x i)), c, d]) ∧ h'[m]? = some (.lst (tb n fun j => Fq (if j < o then sm (i + 1) (fun i => x i * Pm ls l q i j) else sm i fun i => x i * Pm ls l q i j))) ∧ Kn h h') (fun _ _ h' _ => chkOk_nil h') ?_ ?_ ⟨⟨_, _, rfl⟩, hm2, kk.trans k2⟩
    · rintro o x' env h' hx ⟨⟨c, d, rfl⟩, hm, kk⟩
      have ho : o < n := by have := (List.getElem?_eq_some_iff.mp hx).1; simpa using this
      rw [tb_get _ ho] at hx
      injection hx with hx; subst hx
      simp
      refine W_getR hm (atI_tbn _ ho) ?_
      rw [if_neg (by omega)]
      have hml := lt_of_get hm
      rw [e_times F.toKF (k + 1) (bh.x1 i hi) ((sz_Pm hls hl (hq o ho) i).mono (by decide)), W_ok, e_plus F.toKF (k + 1) (bh.s1 i o (by omega) ho) (bh.p1 i o hi ho), W_ok]
      refine W_setR hm (j := o) (ixN_nat (by simpa using ho)) ?_
      refine ⟨?_, kk.setNew (by omega) _⟩
      rw [get_set hml, tb_set _ _ ho]
      congr 2
      refine tb_congr fun j hj => ?_
      by_cases e : j = o
      · subst e; rw [if_pos rfl, if_pos (by omega)]; rfl
      · rw [if_neg e]
        by_cases e2 : j < o
        · rw [if_pos e2, if_pos (by omega)]
        · rw [if_neg e2, if_neg (by omega)]
    · rintro env h' ⟨⟨c, d, rfl⟩, hm, kk⟩
      simp only [nxt_nx, evSs_nil, W_ok]
      refine ⟨⟨_, _, _, _, rfl⟩, ?_, kk⟩
      rw [hm]
      congr 2
      refine tb_congr fun j hj => ?_
      rw [if_pos (by simpa using hj)]
  · rintro env h' ⟨⟨a, b, c, d, rfl⟩, hm, kk⟩
    simp
    rw [bi_tupR h' hm]
    simp
    exact ⟨rfl, kk⟩
theorem sz_sm {n s : Nat} {f : Nat → Rat} (h : ∀ i, i < n → sz s (f i)) : ∀ p, p ≤ n → sz (1 + (s + 1) * p) (sm p f)
  | 0, _ => sz_zero.mono (by omega)
  | p + 1, hp => (sz_add (sz_sm h p (by omega)) (h p (by omega))).mono (by rw [Nat.mul_add]; omega)
theorem toBig {s : Nat} {q : Rat} (h : sz s q) (hs : s ≤ 60000000) : sz big q := h.mono hs
theorem Bh.of {n s t : Nat} (hn : n ≤ 12) (hs : s + t ≤ 4000000) {x : Nat → Rat} (hx : ∀ i, i < n → sz s (x i)) {P : Nat → Nat → Rat} (hP : ∀ i j, i < n → j < n → sz t (P i j)) : Bh n x P := by
  refine ⟨fun i hi => toBig (hx i hi) (by omega), fun i j hi hj => toBig (sz_mul (hx i hi) (hP i j hi hj)) (by omega), fun p j hp hj => ?_⟩
  refine toBig (sz_sm (n := n) (s := s + t) (fun i hi => sz_mul (hx i hi) (hP i j hi hj)) p hp) ?_
  have : (s + t + 1) * p ≤ (s + t + 1) * 12 := Nat.mul_le_mul_left _ (by omega)
  omega
/-! webs of pages and leaps, as they are to be -/
structure WebOk (n : Nat) (ls : List (Int × Int)) : Prop where
  n0 : 0 < n
  n1 : n ≤ 12
  len : ls.length ≤ 61
  mem : ∀ p, p ∈ ls → 0 ≤ p.1 ∧ p.1 < n ∧ 0 ≤ p.2 ∧ p.2 < n
structure LeapsOk (n : Nat) (q : Nat → Rat) : Prop where
  nn : ∀ j, j < n → 0 ≤ q j
  one : sm n q = 1
theorem rt_eq (a b : Nat) : rt a b = (a : Rat) / (b : Rat) := by
  unfold rt; rw [Rat.divInt_eq_div]; rfl
theorem rt_nn (a b : Nat) : 0 ≤ rt a b := by
  unfold rt; exact Rat.divInt_nonneg (by omega) (by omega)
theorem sum_count (n : Nat) : ∀ ts : List Int, (∀ t, t ∈ ts → 0 ≤ t ∧ t < n) → sm n (fun j => ((ts.count ((j : Nat) : Int) : Nat) : Rat)) = ts.length
  | [], _ => sm_z fun _ _ => by simp
  | t :: ts, h => by
    have ht := h t (by simp)
    have ih := sum_count n ts fun u hu => h u (by simp [hu])
    rw [sm_congr (g := fun j => ((ts.count ((j : Nat) : Int) : Nat) : Rat) + if j = t.toNat then 1 else 0) fun j hj => ?_, sm_add, ih, sm_one (k := t.toNat) (by omega) (by intro i _ hne; rw [if_neg hne]), if_pos rfl]
    · rw [List.length_cons]; push_cast; rfl
    · rw [List.count_cons]
      by_cases e : j = t.toNat
      · rw [if_pos e, if_pos (by simp; omega)]; push_cast; rfl
      · rw [if_neg e, if_neg (by simp; omega)]; push_cast; grind
theorem sum_rt {n : Nat} {ls : List (Int × Int)} (w : WebOk n ls) {i : Nat} (h0 : dg ls i ≠ 0) : sm n (fun j => rt (cn ls i j) (dg ls i)) = 1 := by
  have := sum_count n (tos ls (i : Nat)) fun t ht => by
    exact ⟨(w.mem _ (mem_tos.mp ht)).2.2.1, (w.mem _ (mem_tos.mp ht)).2.2.2⟩
  rw [sm_congr (g := fun j => ((cn ls i j : Nat) : Rat) * ((dg ls i : Nat) : Rat)⁻¹) fun j _ => by rw [rt_eq, Rat.div_def], sm_mul']
  unfold cn
  rw [this]
  exact Rat.mul_inv_cancel _ (by unfold dg at h0; exact_mod_cast h0)
theorem wk_of {n : Nat} {ls : List (Int × Int)} (w : WebOk n ls) {l : Rat} (l0 : 0 < l) (l1 : l ≤ 1) {q : Nat → Rat} (hq : LeapsOk n q) : Wk n l q (Am ls q) (Pm ls l q) := by
  refine ⟨l0, l1, hq.nn, hq.one, fun i j _ hj => ?_, fun i _ => ?_, fun i j _ _ => ?_⟩
  · unfold Am
    split
    · exact hq.nn j hj
    · exact rt_nn _ _
  · by_cases h0 : dg ls i = 0
    · rw [← hq.one]; exact sm_congr fun j _ => by unfold Am; rw [if_pos h0]
    · rw [← sum_rt w h0]; exact sm_congr fun j _ => by unfold Am; rw [if_neg h0]
  · unfold Pm Am
    split
    · grind
    · rfl
end Ip

/-! Iq, part H: what the laws k05 to k18 draw: webs, leaps, rows; and their own reckoning, walked once. -/
namespace Ip
open PySem

def w__law_great : List Stt := [
  .ret (.cmp .eq (.bin .mod (.bin .fdiv (.bi .sum [.var 0]) (.int 3)) (.int 8)) (.int 5))]
def w__law_plus : List Stt := [
  .ret (.call "_law_frac" [.bin .add (.bin .mul (.ix (.var 0) (.int 0)) (.ix (.var 1) (.int 1))) (.bin .mul (.ix (.var 1) (.int 0)) (.ix (.var 0) (.int 1))), .bin .mul (.ix (.var 0) (.int 1)) (.ix (.var 1) (.int 1))])]
def w__law_times : List Stt := [
  .ret (.call "_law_frac" [.bin .mul (.ix (.var 0) (.int 0)) (.ix (.var 1) (.int 0)), .bin .mul (.ix (.var 0) (.int 1)) (.ix (.var 1) (.int 1))])]
def w__law_web : List Stt := [
  .asg (.var 2) (.bin .add (.int 1) (.call "_law_draw" [.var 0, .ix (.lst [.int 4, .int 8, .int 12]) (.call "_law_draw" [.var 0, .int 3])])),
  .asg (.var 3) (.call "_law_draw" [.var 0, .ix (.lst [.int 4, .bin .add (.bin .mul (.int 2) (.var 2)) (.int 1), .int 25, .int 61]) (.call "_law_draw" [.var 0, .int 4])]),
  .ite (.var 1) [.asg (.var 2) (.int 12), .asg (.var 3) (.int 60)] [],
  .asg (.var 4) (.bin .add (.lcIf (.bi .range [.var 2]) (.var 7) (.cmp .gt (.call "_law_draw" [.var 0, .int 4]) (.int 0)) (.var 7) [7]) (.lst [.bin .sub (.var 2) (.int 1)])),
  .asg (.var 5) (.lst []),
  .fr (.var 6) (.bi .range [.var 3]) [.ex (.mt .append (.var 5) [.tup [.ix (.var 4) (.call "_law_draw" [.var 0, .bi .len [.var 4]]), .call "_law_draw" [.var 0, .var 2]]])],
  .ret (.tup [.var 2, .bi .tuple [.bi .sorted [.var 5]]])]
def w__law_leap : List Stt := [
  .asg (.var 1) (.bin .add (.bin .mul (.int 9) (.bin .pow (.int 10) (.int 11))) (.call "_law_draw" [.var 0, .bin .pow (.int 10) (.int 11)])),
  .asg (.var 2) (.lst [.tup [.int 1, .int 1], .tup [.int 1, .int 2], .tup [.int 3, .int 20], .call "_law_frac" [.bin .add (.int 1) (.call "_law_draw" [.var 0, .int 99]), .int 100]]),
  .ex (.mt .append (.var 2) [.call "_law_frac" [.bin .add (.int 1) (.call "_law_draw" [.var 0, .bin .mul (.int 9) (.bin .pow (.int 10) (.int 11))]), .var 1]]),
  .ret (.ix (.var 2) (.call "_law_draw" [.var 0, .int 5]))]
/-- e: the great weights -/
def w__law_leaps (e : Ex) : List Stt := [
  .asg (.var 2) (.call "_law_draw" [.var 0, .int 4]),
  .ite (.cmp .eq (.var 2) (.int 0)) [.ret (.bin .mul (.tup [.tup [.int 1, .var 1]]) (.var 1))] [],
  .asg (.var 3) (.lc (.bi .range [.var 1]) (.var 5) (.call "_law_draw" [.var 0, .ix (.lst [.int 2, .int 4, e]) (.bin .sub (.var 2) (.int 1))]) [5]),
  .augS (.var 3) (.call "_law_draw" [.var 0, .var 1]) (.int 1),
  .ite (.cmp .eq (.var 2) (.int 1)) [.asg (.var 4) (.call "_law_draw" [.var 0, .var 1]), .asg (.var 3) (.lc (.bi .range [.var 1]) (.var 5) (.bi .int [.cmp .eq (.var 5) (.var 4)]) [5])] [],
  .ret (.bi .tuple [.lc (.var 3) (.var 6) (.call "_law_frac" [.var 6, .bi .sum [.var 3]]) [6]])]
def w__law_is_fraction : List Stt := [
  .ite (.or (.not (.bi .isinst [.var 0, .con (.ty "tuple")])) (.cmp .ne (.bi .len [.var 0]) (.int 2))) [.ret (.bl false)] [],
  .ite (.cmp .ne (.lcIf (.var 0) (.var 1) (.or (.not (.bi .isinst [.var 1, .con (.ty "int")])) (.bi .isinst [.var 1, .con (.ty "bool")])) (.var 1) [1]) (.lst [])) [.ret (.bl false)] [],
  .ret (.and (.cmp .gt (.ix (.var 0) (.int 1)) (.int 0)) (.cmp .eq (.call "_law_frac" [.ix (.var 0) (.int 0), .ix (.var 0) (.int 1)]) (.var 0)))]
def w__law_ways : List Stt := [
  .asg (.var 4) (.lcIf (.ix (.var 0) (.int 1)) (.tup [.var 9, .var 10]) (.cmp .eq (.var 9) (.var 3)) (.var 10) [9, 10]),
  .ite (.cmp .eq (.var 4) (.lst [])) [.ret (.bi .list [.var 2])] [],
  .asg (.var 5) (.tup [.bin .sub (.ix (.var 1) (.int 1)) (.ix (.var 1) (.int 0)), .ix (.var 1) (.int 1)]),
  .asg (.var 6) (.lst []),
  .fr (.var 7) (.bi .range [.ix (.var 0) (.int 0)]) [.asg (.var 8) (.call "_law_times" [.var 5, .tup [.mt .count (.var 4) [.var 7], .bi .len [.var 4]]]), .ex (.mt .append (.var 6) [.call "_law_plus" [.call "_law_times" [.var 1, .ix (.var 2) (.var 7)], .var 8]])],
  .ret (.var 6)]
/-- the laws' draws and fractions stand in the table -/
structure KH0 (T : Tb) : Prop where
  draw : T "_law_draw" = some ⟨2, 3, bdDraw⟩
structure KH (T : Tb) : Prop extends KH0 T where
  frac : T "_law_frac" = some ⟨2, 4, bdFrac⟩
instance {T : Tb} : Coe (KH T) (KH0 T) := ⟨fun h => h.toKH0⟩
section
variable {T : Tb} (H : KH0 T)
include H
/-- a draw -/
theorem dr (k : Nat) (n : Nat) (m : Int) (hm : 0 < m) (h : Hh) (hd : Hd n h) :
    W (callF T (k + 1) "_law_draw" [.ref n, .int m] h) fun d h' => ∃ r : Nat, d = .int (r : Nat) ∧ (r : Int) < m ∧ Hd n h' ∧ Kp (· = n) h h' := by
  refine W_mono (sp_draw H.draw k n m hm h hd) ?_
  rintro d h' ⟨r, rfl, r0, r1, hd, kk⟩
  exact ⟨r.toNat, by rw [Int.toNat_of_nonneg r0], by omega, hd, kk⟩
theorem sp_great (hT : T "_law_great" = some ⟨1, 1, w__law_great⟩) (k : Nat) (ns : List Int) (h : Hh) : ∃ b, callF T (k + 1) "_law_great" [.frz (ns.map D.int)] h = .ok (.bl b) h := by
  refine ⟨decide ((ns.sum.fdiv 3).fmod 8 = 5), W_iff (W_call hT rfl ?_)⟩
  have e : evB .sum [.frz (ns.map D.int)] h = .ok (.int ns.sum) h := by
    show (match seqL h (.frz (ns.map D.int)) with
      | some xs => match intsOf xs with
        | some ns => Out.ok (D.int ns.sum) h
        | none => .stuck
      | none => .stuck) = _
    simp [seqL, intsOf_map]
  simp [w__law_great, e]
/-- a web is drawn -/
theorem sp_web (hT : T "_law_web" = some ⟨2, 8, w__law_web⟩) (k : Nat) (n : Nat) (g : Bool) (h : Hh) (hd : Hd n h) :
    W (callF T (k + 2) "_law_web" [.ref n, .bl g] h) fun d h' => ∃ (m : Nat) (ls : List (Int × Int)), d = Wb m ls ∧ WebOk m ls ∧ ls.Pairwise (fun a b => leP a b = true) ∧ Hd n h' ∧ Kp (· = n) h h' := by
  have hnl := hd.lt
  refine W_call hT rfl ?_
  unfold w__law_web
  rw [evSs_cons, W_bind, evS_asg]
  simp [-evSs_cons, W_mkL]
  refine ⟨by decide, ?_⟩
  refine W_mono (dr H k n 3 (by omega) _ (hd.app _)) ?_
  rintro d h1 ⟨r, rfl, hr, hd1, k1⟩
  have k01 : Kp (· = n) h h1 := (Kp.app _ _ _).trans k1
  refine W_getR (k1.get (get_new _ _) (by omega)) (d := .int (if r = 0 then 4 else if r = 1 then 8 else 12)) ?_ ?_
  · rcases r with _ | _ | _ | r <;> first | rfl | omega
  refine W_mono (dr H k n _ (by split <;> (try split) <;> omega) h1 hd1) ?_
  rintro d h2 ⟨p, rfl, hp, hd2, k2⟩
  have k02 : Kp (· = n) h h2 := k01.trans k2
  have hp12 : 1 + p ≤ 12 := by revert hp; split <;> (try split) <;> omega
  rw [bin_add, W_ok, show (1 + (p : Int)) = ((1 + p : Nat) : Int) by omega]
  have hp0 : 0 < 1 + p := by omega
  generalize 1 + p = pg at hp0 hp12
  rw [evSs_cons, W_bind, evS_asg]
  simp [-evSs_cons, W_mkL]
  refine ⟨mulokL' (by omega) (by omega), by decide, ?_⟩
  refine W_mono (dr H k n 4 (by omega) _ (hd2.app _)) ?_
  rintro d h3 ⟨r2, rfl, hr2, hd3, k3⟩
  have k03 : Kp (· = n) h h3 := k02.trans ((Kp.app _ _ _).trans k3)
  have hl2 := k02.1
  refine W_getR (k3.get (get_new _ _) (by omega)) (d := .int (if r2 = 0 then 4 else if r2 = 1 then 2 * (pg : Int) + 1 else if r2 = 2 then 25 else 61)) ?_ ?_
  · rcases r2 with _ | _ | _ | _ | r2 <;> first | rfl | omega
  refine W_mono (dr H k n _ (by split <;> (try split) <;> (try split) <;> omega) h3 hd3) ?_
  rintro d h4 ⟨mn, rfl, hmn, hd4, k4⟩
  have hmn60 : mn ≤ 60 := by revert hmn; split <;> (try split) <;> (try split) <;> omega
  have k04 : Kp (· = n) h h4 := k03.trans k4
  rw [evSs_cons, W_bind, evS_ite]
  suffices key : ∀ (pg mn : Nat), 0 < pg → pg ≤ 12 → mn ≤ 60 → W (evSs (callF T (k + 1)) [
  .asg (.var 4) (.bin .add (.lcIf (.bi .range [.var 2]) (.var 7) (.cmp .gt (.call "_law_draw" [.var 0, .int 4]) (.int 0)) (.var 7) [7]) (.lst [.bin .sub (.var 2) (.int 1)])),
  .asg (.var 5) (.lst []),
  .fr (.var 6) (.bi .range [.var 3]) [.ex (.mt .append (.var 5) [.tup [.ix (.var 4) (.call "_law_draw" [.var 0, .bi .len [.var 4]]), .call "_law_draw" [.var 0, .var 2]]])],
  .ret (.tup [.var 2, .bi .tuple [.bi .sorted [.var 5]]])] [some (.ref n), some (.bl g), some (.int (pg : Nat)), some (.int (mn : Nat)), none, none, none, none] h4) (retP fun d h' => ∃ (m : Nat) (ls : List (Int × Int)), d = Wb m ls ∧ WebOk m ls ∧ ls.Pairwise (fun a b => leP a b = true) ∧ Hd n h' ∧ Kp (· = n) h h') by
    cases g with
    | true =>
      simp [-evSs_cons]
      rw [evSs_cons, W_bind, evS_asg]
      simp [-evSs_cons]
      rw [evSs_cons, W_bind, evS_asg]
      simp [-evSs_cons]
      exact key 12 60 (by omega) (by omega) (by omega)
    | false => simp [-evSs_cons]; (try rw [evSs_nil, W_ok, nxt_nx]); exact key pg mn hp0 hp12 hmn60
  clear hmn60 hp12 hp0 hmn
  intro pg mn hp0 hp12 hmn60
  have hl4 := k04.1
  rw [evSs_cons, W_bind, evS_asg]
  simp [-evSs_cons, -itB_range, Ip.ev_lcIf, evIt_bi]
  rw [it_rangeN pg (by omega), W_ok]
  refine W_lcI (I := fun i a h' => ∃ as : List Int, a = as.map D.int ∧ as.length ≤ i ∧ (∀ x, x ∈ as → 0 ≤ x ∧ x < pg) ∧ Hd n h' ∧ Kp (· = n) h4 h') (fun _ _ h' _ => chkOk_nil h') ?_ ?_ ⟨[], rfl, by simp, by simp, hd4, Kp.refl _ _⟩
  · rintro i x a h' hx ⟨as, rfl, hal, ham, hd, kk⟩
    have hi : i < pg := by have := (List.getElem?_eq_some_iff.mp hx).1; simpa using this
    rw [tb_get _ hi] at hx
    injection hx with hx; subst hx
    simp [eltO, elt2, asgN, wipeE]
    refine W_mono (dr H k n 4 (by omega) h' hd) ?_
    rintro d h1 ⟨r, rfl, _, hd1, k1⟩
    simp
    refine ⟨fun _ => ⟨as ++ [(i : Int)], by simp, by simp; omega, ?_, hd1, kk.trans k1⟩, fun _ => ⟨as, rfl, by omega, ham, hd1, kk.trans k1⟩⟩
    intro x hx
    rcases List.mem_append.mp hx with hx | hx
    · exact ham x hx
    · rw [List.mem_singleton.mp hx]; omega
  · rintro a h5 ⟨as, rfl, hal, ham, hd5, k5⟩
    simp [-evSs_cons, W_mkL]
    simp at hal
    refine ⟨by simp only [sizeLine_eq]; omega, by decide, ?_⟩
    have k05 : Kp (· = n) h4 h5 := k5
    have hl5 := k5.1
    refine W_addL (xs := as.map D.int) (ys := [.int ((pg : Int) - 1)]) (by simp) (by simp) (by simp; omega) ?_
    have hs0 := get_new (h5 ++ [O.lst (as.map D.int)] ++ [O.lst [D.int ((pg : Int) - 1)]]) (O.lst (as.map D.int ++ [D.int ((pg : Int) - 1)]))
    have k6 : Kp (· = n) h4 (h5 ++ [O.lst (as.map D.int)] ++ [O.lst [D.int ((pg : Int) - 1)]] ++ [O.lst (as.map D.int ++ [D.int ((pg : Int) - 1)])]) := k5.trans (((Kp.app _ _ _).trans (Kp.app _ _ _)).trans (Kp.app _ _ _))
    have hd6 := ((hd5.app [O.lst (as.map D.int)]).app [O.lst [D.int ((pg : Int) - 1)]]).app [O.lst (as.map D.int ++ [D.int ((pg : Int) - 1)])]
    simp only [List.append_assoc, List.cons_append, List.nil_append] at hs0 k6 hd6 ⊢
    have hsl : h5.length ≤ (h5 ++ [O.lst (as.map D.int), O.lst [D.int ((pg : Int) - 1)]]).length := by simp
    generalize (h5 ++ [O.lst (as.map D.int), O.lst [D.int ((pg : Int) - 1)]]).length = s at hs0 hsl ⊢
    generalize (h5 ++ [O.lst (as.map D.int), O.lst [D.int ((pg : Int) - 1)], O.lst (as.map D.int ++ [D.int ((pg : Int) - 1)])]) = h6 at hs0 k6 hd6 ⊢
    rw [show as.map D.int ++ [D.int ((pg : Int) - 1)] = (as ++ [(pg : Int) - 1]).map D.int by simp] at hs0
    have hst : ∀ x, x ∈ as ++ [(pg : Int) - 1] → 0 ≤ x ∧ x < pg := fun x hx => by
      rcases List.mem_append.mp hx with hx | hx
      · exact ham x hx
      · rw [List.mem_singleton.mp hx]; omega
    have hstl : 0 < (as ++ [(pg : Int) - 1]).length ∧ (as ++ [(pg : Int) - 1]).length ≤ 13 := by simp; omega
    generalize as ++ [(pg : Int) - 1] = sts at hs0 hst hstl
    have hls := lt_of_get hs0
    rw [evSs_cons, W_bind, evS_asg]
    simp [-evSs_cons, W_mkL]
    have hn7 := get_new h6 (O.lst [])
    have hs7 := get_app hs0 [O.lst []]
    have hd7 := hd6.app [O.lst []]
    have k7 : Kp (· = n) h4 (h6 ++ [O.lst []]) := k6.trans (Kp.app _ _ _)
    have hl6 := k6.1
    generalize hv : h6.length = v at hn7 hls hl6 ⊢
    generalize h6 ++ [O.lst []] = h7 at hn7 hs7 hd7 k7 ⊢
    rw [evSs_cons, W_bind, evS_fr]
    simp [-evSs_cons, -itB_range, evIt_bi]
    rw [it_rangeN mn (by omega), W_ok]
    refine W_frI (I := fun i env h' => (∃ e, env = [some (.ref n), some (.bl g), some (.int (pg : Nat)), some (.int (mn : Nat)), some (.ref s), some (.ref v), e, none]) ∧ ∃ ls : List (Int × Int), ls.length ≤ i ∧ (∀ p, p ∈ ls → 0 ≤ p.1 ∧ p.1 < pg ∧ 0 ≤ p.2 ∧ p.2 < pg) ∧ h'[v]? = some (.lst (ls.map Pd)) ∧ h'[s]? = some (.lst (sts.map D.int)) ∧ Hd n h' ∧ Kp (· = n) h4 h') (fun _ _ h' _ => chkOk_nil h') ?_ ?_ ⟨⟨_, rfl⟩, [], by simp, by simp, hn7, hs7, hd7, k7⟩
    · rintro i x env h' hx ⟨⟨e, rfl⟩, ls, hll, hlm, hv', hs', hd', k'⟩
      have hi : i < mn := by have := (List.getElem?_eq_some_iff.mp hx).1; simpa using this
      rw [tb_get _ hi] at hx
      injection hx with hx; subst hx
      simp
      rw [bi_lenR h' hs']
      simp
      refine W_mono (dr H k n _ (by omega) h' hd') ?_
      rintro d h1 ⟨r, rfl, hr, hd1, k1⟩
      have hr' : r < sts.length := by omega
      have hs1 := k1.get hs' (by omega)
      have hv1 := k1.get hv' (by omega)
      refine W_getR hs1 (d := .int (sts[r]'hr')) (by rw [atI_nat _ (by omega) (by simpa using hr')]; simp [hr']) ?_
      refine W_mono (dr H k n _ (by omega) h1 hd1) ?_
      rintro d h2 ⟨r2, rfl, hr2, hd2, k2⟩
      have hs2 := k2.get hs1 (by omega)
      have hv2 := k2.get hv1 (by omega)
      simp [two_size]
      rw [W_append h2 hv2]
      have hvl := lt_of_get hv2
      have hst' := hst _ (List.getElem_mem hr')
      refine ⟨by simp only [sizeLine_eq, List.length_map]; omega, ls ++ [(sts[r]'hr', (r2 : Int))], by simp; omega, ?_, ?_, ?_, ?_, ?_⟩
      · intro a b hp
        rcases List.mem_append.mp hp with hp | hp
        · exact hlm (a, b) hp
        · cases List.mem_singleton.mp hp
          exact ⟨hst'.1, hst'.2, by omega, by omega⟩
      · rw [get_set hvl, List.map_append]; rfl
      · rw [List.getElem?_set_ne (by omega)]; exact hs2
      · exact hd2.keep (Kp.set (x := (· = v)) rfl _ _) (by omega)
      · exact ((k'.trans k1).trans k2).setNew (by omega) _
    · rintro env h' ⟨⟨e, rfl⟩, ls, hll, hlm, hv', hs', hd', k'⟩
      simp at hll
      simp
      refine W_sortedP h' hv' (by omega) ?_
      rw [bi_tupR _ (get_new _ _)]
      simp [two_size]
      refine ⟨pg, ls.mergeSort leP, rfl, ⟨hp0, hp12, by rw [List.length_mergeSort]; omega, fun p hp => hlm p ((List.mem_mergeSort).mp hp)⟩, ?_, hd'.app _, (k04.trans k').trans (Kp.app _ _ _)⟩
      refine List.pairwise_mergeSort (le := leP) ?_ ?_ ls
      · intro a b c h1 h2
        simp only [leP, Bool.or_eq_true, Bool.and_eq_true, decide_eq_true_eq] at h1 h2 ⊢
        omega
      · intro a b
        simp only [leP, Bool.or_eq_true, Bool.and_eq_true, decide_eq_true_eq]
        omega
end
end Ip

/-! Iq, part I: leaps drawn; the laws' own fractions. -/
namespace Ip
open PySem

theorem divInt_ext {a b : Int} {q : Rat} (hb : 0 < b) (e : Rat.divInt a b = q) (g : Int.gcd a b = 1) : q.num = a ∧ (q.den : Int) = b := by
  subst e
  rw [num_of_pos hb, den_of_pos hb, g]
  simp
/-- the rest of a leap, as the laws write it -/
theorem Fq_rest (l : Rat) : D.tup [.int ((l.den : Int) - l.num), .int l.den] = Fq (1 - l) := by
  have hd := den_pos' l
  have e : Rat.divInt ((l.den : Int) - l.num) l.den = 1 - l := by
    rw [sub_eq]
    simp
  have g : Int.gcd ((l.den : Int) - l.num) l.den = 1 := by
    have h1 : Int.gcd l.num l.den = 1 := l.reduced
    rw [show (l.den : Int) - l.num = -l.num + l.den * 1 by omega, Int.gcd_add_mul_left_left, Int.neg_gcd]; exact h1
  obtain ⟨h1, h2⟩ := divInt_ext hd e g
  unfold Fq
  rw [h1, h2]
theorem Fq_rt1 {n : Nat} (hn : 0 < n) : D.tup [.int 1, .int (n : Nat)] = Fq (rt 1 n) := by
  obtain ⟨h1, h2⟩ := divInt_ext (a := 1) (b := (n : Int)) (q := rt 1 n) (by omega) rfl (by simp)
  unfold Fq
  rw [h1, h2]
theorem n1_dec : ∀ a b : Nat, ((a : Rat) ≤ (b : Rat)) ↔ a ≤ b := fun a b => by exact_mod_cast Iff.rfl
theorem rdiv_le1 {a b : Rat} (hb : 0 < b) (h : a ≤ b) : a / b ≤ 1 := by
  have := Rat.lt_div_iff (a := 1) (b := a) hb
  have := Rat.not_lt (a := 1) (b := a / b)
  grind
theorem rdiv_pos {a b : Rat} (ha : 0 < a) (hb : 0 < b) : 0 < a / b := by
  rw [Rat.div_def]; exact Rat.mul_pos ha (Rat.inv_pos.mpr hb)
theorem rt_le1 {a b : Nat} (hb : 0 < b) (h : a ≤ b) : rt a b ≤ 1 := by
  rw [rt_eq]
  exact rdiv_le1 (by exact_mod_cast hb) (by exact_mod_cast h)
theorem rt_pos {a b : Nat} (ha : 0 < a) (hb : 0 < b) : 0 < rt a b := by
  rw [rt_eq]
  exact rdiv_pos (by exact_mod_cast ha) (by exact_mod_cast hb)
theorem sz_rt {a b s : Nat} (hb : 0 < b) (h1 : a < 2 ^ s) (h2 : b < 2 ^ s) : sz s (rt a b) := sz_divInt (by omega) (by simpa using h1) (by simpa using h2)
/-- a leap -/
structure LeapOk (l : Rat) : Prop where
  pos : 0 < l
  le : l ≤ 1
  size : sz 45 l
/-- leaps of one sum below -/
def CdR (n : Nat) (q : Nat → Rat) : Prop := ∃ S : Nat, 0 < S ∧ S < 2 ^ 45 ∧ ∀ j, j < n → ∃ a : Nat, a ≤ S ∧ q j = rt a S
theorem CdR.sz {n : Nat} {q : Nat → Rat} (h : CdR n q) : ∀ j, j < n → sz 45 (q j) := fun j hj => by
  obtain ⟨S, h1, h2, h3⟩ := h
  obtain ⟨a, ha, e⟩ := h3 j hj
  rw [e]; exact sz_rt h1 (by omega) h2
theorem sum_tb (w : Nat → Nat) : ∀ n, (((tb n fun i => ((w i : Nat) : Int)).sum : Int) : Rat) = sm n fun i => (w i : Rat)
  | 0 => rfl
  | n + 1 => by
    rw [tb_succ, List.sum_append]
    simp only [sm, List.sum_cons, List.sum_nil]
    rw [← sum_tb w n]; push_cast; grind
theorem sum_tb_le {w : Nat → Nat} {n : Nat} {j : Nat} (hj : j < n) : ((w j : Nat) : Int) ≤ (tb n fun i => ((w i : Nat) : Int)).sum := by
  have h := sm_term (f := fun i => (w i : Rat)) (n := n) (fun i _ => by exact_mod_cast Nat.zero_le _) hj
  rw [← sum_tb] at h
  exact_mod_cast h
theorem sum_tb_most {w : Nat → Nat} {m : Nat} : ∀ {n : Nat}, (∀ j, j < n → w j ≤ m) → (tb n fun i => ((w i : Nat) : Int)).sum ≤ n * m
  | 0, _ => by simp [tb]
  | n + 1, h => by
    rw [tb_succ, List.sum_append]
    have a := sum_tb_most fun j hj => h j (Nat.lt_succ_of_lt hj)
    have b := h n (by omega)
    simp only [List.sum_cons, List.sum_nil]
    push_cast
    rw [Int.add_mul]
    omega
theorem leaps_of {n : Nat} {w : Nat → Nat} {S : Nat} (hS : (S : Int) = (tb n fun i => ((w i : Nat) : Int)).sum) (h0 : 0 < S) : LeapsOk n fun j => rt (w j) S := by
  refine ⟨fun j _ => rt_nn _ _, ?_⟩
  rw [sm_congr (g := fun i => (w i : Rat) * (S : Rat)⁻¹) fun j _ => by rw [rt_eq, Rat.div_def], sm_mul', ← sum_tb, ← hS]
  exact Rat.mul_inv_cancel _ (by exact_mod_cast (by omega : S ≠ 0))
theorem rep_tb {α : Type} (x : α) : ∀ n, List.replicate n x = tb n fun _ => x
  | 0 => rfl
  | n + 1 => by rw [List.replicate_succ', rep_tb x n, tb_succ]
theorem pick {n : Nat} {g : Nat → D} {Q : Nat → Nat → Prop} (h : ∀ i, i < n → ∃ w : Nat, g i = .int (w : Nat) ∧ Q i w) : ∃ w : Nat → Nat, (tb n g = tb n fun i => D.int (w i : Nat)) ∧ ∀ i, i < n → Q i (w i) := by
  refine ⟨fun i => if hi : i < n then Classical.choose (h i hi) else 0, tb_congr fun i hi => ?_, fun i hi => ?_⟩
  · simp only [dif_pos hi]; exact (Classical.choose_spec (h i hi)).1
  · simp only [dif_pos hi]; exact (Classical.choose_spec (h i hi)).2
section
variable {T : Tb} (H : KH T)
include H
/-- a leap is drawn -/
theorem sp_leap (hT : T "_law_leap" = some ⟨1, 3, w__law_leap⟩) (k : Nat) (n : Nat) (h : Hh) (hd : Hd n h) :
    W (callF T (k + 2) "_law_leap" [.ref n] h) fun d h' => ∃ l : Rat, d = Fq l ∧ LeapOk l ∧ Hd n h' ∧ Kp (· = n) h h' := by
  have hnl := hd.lt
  refine W_call hT rfl ?_
  unfold w__law_leap
  rw [evSs_cons, W_bind, evS_asg]
  simp [-evSs_cons]
  refine ⟨mulokL' (by omega) (by omega), ?_⟩
  refine W_mono (dr H k n _ (by omega) _ hd) ?_
  rintro d h1 ⟨r, rfl, hr, hd1, k1⟩
  rw [bin_add, W_ok, evSs_cons, W_bind, evS_asg]
  simp [-evSs_cons, W_mkL, two_size]
  refine W_mono (dr H k n _ (by omega) _ hd1) ?_
  rintro d h2 ⟨r2, rfl, hr2, hd2, k2⟩
  rw [bin_add, W_ok, sp_frac H.frac k _ _ (by omega), W_ok]
  refine ⟨by decide, ?_⟩
  have l1 : LeapOk (Rat.divInt (1 + (r2 : Int)) 100) := by
    rw [show Rat.divInt (1 + (r2 : Int)) 100 = rt (1 + r2) 100 by unfold rt; congr 1 <;> omega]
    exact ⟨rt_pos (by omega) (by omega), rt_le1 (by omega) (by omega), sz_rt (by omega) (by omega) (by omega)⟩
  generalize Rat.divInt (1 + (r2 : Int)) 100 = la at l1 ⊢
  have k02 := k1.trans k2
  have hn2 := get_new h2 (O.lst [D.tup [.int 1, .int 1], .tup [.int 1, .int 2], .tup [.int 3, .int 20], Fq la])
  have hd3 := hd2.app [O.lst [D.tup [.int 1, .int 1], .tup [.int 1, .int 2], .tup [.int 3, .int 20], Fq la]]
  have k03 := k02.trans (Kp.app (· = n) h2 [O.lst [D.tup [.int 1, .int 1], .tup [.int 1, .int 2], .tup [.int 3, .int 20], Fq la]])
  have hl2 := k02.1
  generalize h2.length = v at hn2 hl2 ⊢
  generalize h2 ++ [O.lst [D.tup [.int 1, .int 1], .tup [.int 1, .int 2], .tup [.int 3, .int 20], Fq la]] = h3 at hn2 hd3 k03 ⊢
  rw [evSs_cons, W_bind, evS_ex]
  simp [-evSs_cons]
  refine ⟨mulokL' (by omega) (by omega), ?_⟩
  refine W_mono (dr H k n _ (by omega) _ hd3) ?_
  rintro d h4 ⟨r4, rfl, hr4, hd4, k4⟩
  rw [bin_add, W_ok, sp_frac H.frac k _ _ (by omega), W_ok]
  have hn4 := k4.get hn2 (by omega)
  have l2 : LeapOk (Rat.divInt (1 + (r4 : Int)) (900000000000 + (r : Int))) := by
    rw [show Rat.divInt (1 + (r4 : Int)) (900000000000 + (r : Int)) = rt (1 + r4) (900000000000 + r) by unfold rt; congr 1 <;> omega]
    exact ⟨rt_pos (by omega) (by omega), rt_le1 (by omega) (by omega), sz_rt (by omega) (by omega) (by omega)⟩
  generalize Rat.divInt (1 + (r4 : Int)) (900000000000 + (r : Int)) = lb at l2 ⊢
  rw [W_append h4 hn4]
  refine ⟨by simp only [List.length_cons, List.length_nil, sizeLine_eq]; omega, ?_⟩
  have hl4 := lt_of_get hn4
  have hd5 := hd4.keep (Kp.set (x := (· = v)) rfl h4 (O.lst ([D.tup [.int 1, .int 1], .tup [.int 1, .int 2], .tup [.int 3, .int 20], Fq la] ++ [Fq lb]))) (by omega)
  have k05 := (k03.trans k4).setNew (n := v) (by omega) (O.lst ([D.tup [.int 1, .int 1], .tup [.int 1, .int 2], .tup [.int 3, .int 20], Fq la] ++ [Fq lb]))
  have hn5 := get_set hl4 (O.lst ([D.tup [.int 1, .int 1], .tup [.int 1, .int 2], .tup [.int 3, .int 20], Fq la] ++ [Fq lb]))
  generalize h4.set v (O.lst ([D.tup [.int 1, .int 1], .tup [.int 1, .int 2], .tup [.int 3, .int 20], Fq la] ++ [Fq lb])) = h5 at hd5 k05 hn5 ⊢
  simp
  refine W_mono (dr H k n _ (by omega) _ hd5) ?_
  rintro d h6 ⟨r6, rfl, hr6, hd6, k6⟩
  have hn6 := k6.get hn5 (by omega)
  have fin : ∀ l : Rat, LeapOk l → L2.atI ([D.tup [.int 1, .int 1], .tup [.int 1, .int 2], .tup [.int 3, .int 20], Fq la] ++ [Fq lb]) (r6 : Int) = some (Fq l) → W (getIx (.ref v) (.int (r6 : Nat)) h6) fun d h' => ∃ l : Rat, d = Fq l ∧ LeapOk l ∧ Hd n h' ∧ Kp (· = n) h h' := fun l ok e =>
    W_getR hn6 e ⟨l, rfl, ok, hd6, k05.trans k6⟩
  rcases r6 with _ | _ | _ | _ | _ | r6
  · exact fin 1 ⟨by decide, by decide, sz_one.mono (by decide)⟩ rfl
  · exact fin (rt 1 2) ⟨rt_pos (by omega) (by omega), rt_le1 (by omega) (by omega), sz_rt (by omega) (by omega) (by omega)⟩ (by rw [← Fq_rt1 (by omega)]; rfl)
  · refine fin (rt 3 20) ⟨rt_pos (by omega) (by omega), rt_le1 (by omega) (by omega), sz_rt (by omega) (by omega) (by omega)⟩ ?_
    obtain ⟨h1, h2⟩ := divInt_ext (a := 3) (b := 20) (q := rt 3 20) (by omega) rfl (by decide)
    unfold Fq
    rw [h1, h2]; rfl
  · exact fin la l1 rfl
  · exact fin lb l2 rfl
  · omega
/-- leaps are drawn -/
theorem sp_leaps {e : Ex} {m : Nat} (he : ∀ C env h P, (W (ev C e env h) P ↔ P (.int (m : Nat)) h)) (hm : 0 < m) (hm2 : m < 2 ^ 40) (hT : T "_law_leaps" = some ⟨2, 7, w__law_leaps e⟩) (k : Nat) (n p : Nat) (hp : 0 < p) (hp2 : p ≤ 12) (h : Hh) (hd : Hd n h) :
    W (callF T (k + 2) "_law_leaps" [.ref n, .int (p : Nat)] h) fun d h' => ∃ q : Nat → Rat, d = Vt p q ∧ LeapsOk p q ∧ CdR p q ∧ Hd n h' ∧ Kp (· = n) h h' := by
  have hnl := hd.lt
  refine W_call hT rfl ?_
  unfold w__law_leaps
  rw [evSs_cons, W_bind, evS_asg]
  simp [-evSs_cons]
  refine W_mono (dr H k n 4 (by omega) _ hd) ?_
  rintro d h1 ⟨kd, rfl, hkd, hd1, k1⟩
  rw [evSs_cons, W_bind, evS_ite]
  simp [-evSs_cons]
  refine ⟨fun hz => ?_, fun hz => ?_⟩
  · rw [evSs_cons, W_bind, evS_ret]
    simp [two_size, bin_mulT]
    refine ⟨by decide, ⟨by omega, by omega⟩, fun _ => rt 1 p, ?_, ?_, ⟨p, hp, by omega, fun j _ => ⟨1, by omega, rfl⟩⟩, hd1, k1⟩
    · rw [rep_tb]
      unfold Vt
      exact congrArg D.tup (tb_congr fun i _ => Fq_rt1 hp)
    · refine ⟨fun j _ => rt_nn _ _, ?_⟩
      rw [sm_const, rt_eq]
      have : (p : Rat) ≠ 0 := by exact_mod_cast (by omega : p ≠ 0)
      rw [Rat.div_def, show ((1 : Nat) : Rat) = 1 from rfl, Rat.one_mul]
      exact Rat.mul_inv_cancel _ this
  · suffices key : ∀ (h' : Hh) (v : Nat) (w : Nat → Nat) (x4 x5 x6 : Option D), Hd n h' → Kp (· = n) h h' → h'[v]? = some (.lst (tb p fun i => D.int (w i : Nat))) → (∀ i, i < p → w i ≤ 2 ^ 40) → (∃ i, i < p ∧ 0 < w i) →
        W (evSs (callF T (k + 1)) [.ret (.bi .tuple [.lc (.var 3) (.var 6) (.call "_law_frac" [.var 6, .bi .sum [.var 3]]) [6]])] [some (.ref n), some (.int (p : Nat)), some (.int (kd : Nat)), some (.ref v), x4, x5, x6] h') (retP fun d h' => ∃ q : Nat → Rat, d = Vt p q ∧ LeapsOk p q ∧ CdR p q ∧ Hd n h' ∧ Kp (· = n) h h') by
      have pw : ∀ w : Nat, w < 8 * 10 ^ 10 + 2 ^ 40 → True := fun _ _ => trivial
      rw [evSs_cons, W_bind, evS_asg]
      simp [-evSs_cons, -itB_range, Ip.ev_lc, evIt_bi]
      rw [it_rangeN p (by omega), W_ok]
      refine W_lcQ (fun i y => ∃ w : Nat, y = .int (w : Nat) ∧ w < 2 ^ 40) (fun h' => Hd n h' ∧ Kp (· = n) h1 h') (fun h' _ => chkOk_nil h') ?_ ?_ ⟨hd1, Kp.refl _ _⟩
      · rintro i x h2 hi hx ⟨hd2, k2⟩
        simp [eltO, elt1, asgN, wipeE, he, W_mkL]
        refine ⟨by decide, W_getR (get_new _ _) (d := .int (if kd = 1 then 2 else if kd = 2 then 4 else (m : Int))) ?_ ?_⟩
        · rcases kd with _ | _ | _ | _ | kd <;> first | rfl | omega
        refine W_mono (dr H k n _ (by split <;> (try split) <;> omega) _ (hd2.app _)) ?_
        rintro d h3 ⟨r, rfl, hr, hd3, k3⟩
        have hr40 : r < 2 ^ 40 := by revert hr; split <;> (try split) <;> omega
        refine ⟨?_, hd3, (k2.trans (Kp.app _ _ _)).trans k3⟩
        first | exact hr40 | exact ⟨r, rfl, hr40⟩ | (simp; omega)
      · intro g h2 hg ⟨hd2, k2⟩
        simp at hg
        obtain ⟨w, ew, hw⟩ := pick hg
        simp [-evSs_cons, W_mkL]
        rw [ew]
        refine ⟨by simp only [sizeLine_eq]; omega, ?_⟩
        have hv3 := get_new h2 (O.lst (tb p fun i => D.int (w i : Nat)))
        have hd3 := hd2.app [O.lst (tb p fun i => D.int (w i : Nat))]
        have k3 := (k1.trans k2).trans (Kp.app _ _ [O.lst (tb p fun i => D.int (w i : Nat))])
        have hl2 := (k1.trans k2).1
        generalize h2.length = v at hv3 hl2 ⊢
        generalize h2 ++ [O.lst (tb p fun i => D.int (w i : Nat))] = h3 at hv3 hd3 k3 ⊢
        rw [evSs_cons, W_bind, evS_augS]
        simp [-evSs_cons]
        refine W_mono (dr H k n _ (by omega) _ hd3) ?_
        rintro d h4 ⟨r, rfl, hr, hd4, k4⟩
        have hv4 := k4.get hv3 (by omega)
        have hr' : r < p := by omega
        refine W_getR hv4 (atI_tbn _ hr') ?_
        simp [-evSs_cons]
        refine W_setR hv4 (j := r) (ixN_nat (by simpa using hr')) ?_
        have hv5 := get_set (lt_of_get hv4) (O.lst ((tb p fun i => D.int (w i : Nat)).set r (.int ((w r : Int) + 1))))
        have hd5 := hd4.keep (Kp.set (x := (· = v)) rfl h4 (O.lst ((tb p fun i => D.int (w i : Nat)).set r (.int ((w r : Int) + 1))))) (by omega)
        have k5 := (k3.trans k4).setNew (n := v) (by omega) (O.lst ((tb p fun i => D.int (w i : Nat)).set r (.int ((w r : Int) + 1))))
        generalize h4.set v (O.lst ((tb p fun i => D.int (w i : Nat)).set r (.int ((w r : Int) + 1)))) = h5 at hv5 hd5 k5 ⊢
        rw [tb_set _ _ hr', tb_congr (g := fun i => D.int ((if i = r then w r + 1 else w i : Nat) : Int)) (fun i hi => by split <;> simp)] at hv5
        rw [evSs_cons, W_bind, evS_ite]
        simp [-evSs_cons]
        refine ⟨fun h1 => ?_, fun h1 => ?_⟩
        · rw [evSs_cons, W_bind, evS_asg]
          simp [-evSs_cons]
          refine W_mono (dr H k n _ (by omega) _ hd5) ?_
          rintro d h6 ⟨r6, rfl, hr6, hd6, k6⟩
          rw [evSs_cons, W_bind, evS_asg]
          simp [-evSs_cons, -itB_range, Ip.ev_lc, evIt_bi]
          rw [it_rangeN p (by omega), W_ok]
          refine W_lcF (fun i => D.int ((if i = r6 then 1 else 0 : Nat) : Int)) (fun h' => h' = h6) (fun h' _ => chkOk_nil h') ?_ ?_ rfl
          · rintro i x h' hi hx rfl
            simp at hi
            rw [tb_get _ hi] at hx
            injection hx with hx; subst hx
            simp [eltO, elt1, asgN, wipeE]
            by_cases e : i = r6
            · simp [e]
            · have e2 : ¬ (i : Int) = (r6 : Int) := by omega
              simp [e, e2]
          · rintro h' rfl
            simp [-evSs_cons, W_mkL]
            refine ⟨by simp only [sizeLine_eq]; omega, ?_⟩
            (try rw [evSs_nil, W_ok, nxt_nx])
            refine key _ _ (fun i => if i = r6 then 1 else 0) _ _ _ (hd6.app _) ((k5.trans k6).trans (Kp.app _ _ _)) ?_ (fun i _ => by split <;> omega) ⟨r6, by omega, by simp⟩
            rw [get_new]
        · (try rw [evSs_nil, W_ok, nxt_nx])
          refine key _ _ (fun i => if i = r then w r + 1 else w i) _ _ _ hd5 k5 hv5 (fun i hi => ?_) ⟨r, hr', by simp⟩
          have := hw i hi
          have := hw r hr'
          split <;> omega
    intro h' v w x4 x5 x6 hd' k' hv hw ⟨j, hj, hw0⟩
    have e1 : (tb p fun i => D.int (w i : Nat)) = (tb p fun i => ((w i : Nat) : Int)).map D.int := by rw [tb_map]
    have hsum := bi_sumR h' (n := v) (ns := tb p fun i => ((w i : Nat) : Int)) (by rw [hv, e1])
    have s1 := sum_tb_le (w := w) hj
    have s2 := sum_tb_most (w := w) (n := p) (m := 2 ^ 40) hw
    have s3 : (p : Int) * ((2 ^ 40 : Nat) : Int) ≤ 12 * ((2 ^ 40 : Nat) : Int) := Int.mul_le_mul_of_nonneg_right (by omega) (by omega)
    have s4 : ∀ j, j < p → ((w j : Nat) : Int) ≤ (tb p fun i => ((w i : Nat) : Int)).sum := fun j hj => sum_tb_le hj
    have s5 : ∀ S : Nat, (S : Int) = (tb p fun i => ((w i : Nat) : Int)).sum → 0 < S → LeapsOk p fun j => rt (w j) S := fun S e h => leaps_of e h
    generalize (tb p fun i => ((w i : Nat) : Int)).sum = S at hsum s1 s2 s4 s5
    have eS : S = ((S.toNat : Nat) : Int) := by omega
    have hS0 : 0 < S.toNat := by omega
    have hS1 : S.toNat < 2 ^ 45 := by omega
    rw [evSs_cons, W_bind, evS_ret]
    have eit : itSeq (.ref v) h' = .ok (tb p fun i => D.int (w i : Nat), [(v, tb p fun i => D.int (w i : Nat))]) h' := by simp [itSeq, hv]
    simp [Ip.ev_lc, evIt, eit]
    refine W_lcF (fun i => Fq (rt (w i) S.toNat)) (fun h2 => h2 = h') (fun h2 e q hq => by rw [List.mem_singleton.mp hq, e]; exact hv) ?_ ?_ rfl
    · rintro i x h2 hi hx rfl
      simp at hi
      rw [tb_get _ hi] at hx
      injection hx with hx; subst hx
      simp [eltO, elt1, asgN, wipeE, hsum]
      rw [sp_frac H.frac k _ _ (by omega), W_ok]
      exact ⟨by unfold rt; rw [← eS], rfl⟩
    · rintro h2 rfl
      simp [W_mkL]
      refine ⟨by simp only [sizeLine_eq]; omega, ?_⟩
      rw [bi_tupR _ (get_new _ _), W_ok]
      exact ⟨_, rfl, s5 _ eS.symm hS0, ⟨S.toNat, hS0, hS1, fun j hj => ⟨w j, by have := s4 j hj; omega, rfl⟩⟩, hd'.app _, k'.trans (Kp.app _ _ _)⟩
end
end Ip

/-! Iq, part J: the laws' own sums, ways and steps, walked once. -/
namespace Ip
open PySem

structure KG (T : Tb) : Prop extends KH T where
  lplus : T "_law_plus" = some ⟨2, 2, w__law_plus⟩
  ltimes : T "_law_times" = some ⟨2, 2, w__law_times⟩
section
variable {T : Tb} (F : KG T) (k : Nat) {p q : Rat} (hp : sz big p) (hq : sz big q) (h : Hh)
include F hp hq
theorem e_lplus : callF T (k + 2) "_law_plus" [Fq p, Fq q] h = .ok (Fq (p + q)) h := by
  obtain ⟨m1, m2, m3, _⟩ := muls hp hq (by decide)
  refine W_iff (W_call F.lplus rfl ?_)
  simp [w__law_plus, m1, m2, m3]
  rw [sp_frac F.frac k _ _ (Int.mul_pos (den_pos' p) (den_pos' q)), W_ok]
  simp [add_eq]
theorem e_ltimes : callF T (k + 2) "_law_times" [Fq p, Fq q] h = .ok (Fq (p * q)) h := by
  obtain ⟨m1, m2, m3, m4, _⟩ := muls hp hq (by decide)
  refine W_iff (W_call F.ltimes rfl ?_)
  simp [w__law_times, m3, m4]
  rw [sp_frac F.frac k _ _ (Int.mul_pos (den_pos' p) (den_pos' q)), W_ok]
  simp [mul_eq]
end
section
variable {T : Tb} (F : KG T)
include F
/-- by small numbers in no form -/
theorem e_ltimesT (k : Nat) (p : Rat) (a b : Nat) (ha : a < 2 ^ 60) (hb : b < 2 ^ 60) (hb0 : 0 < b) (h : Hh) : callF T (k + 2) "_law_times" [Fq p, .tup [.int (a : Nat), .int (b : Nat)]] h = .ok (Fq (p * rt a b)) h := by
  refine W_iff (W_call F.ltimes rfl ?_)
  have m1 : IntMulOk p.num (a : Int) := mulokR' (by omega) (by omega)
  have m2 : IntMulOk (p.den : Int) (b : Int) := mulokR' (by omega) (by omega)
  simp [w__law_times, m1, m2]
  rw [sp_frac F.frac k _ _ (Int.mul_pos (den_pos' p) (by omega)), W_ok]
  refine ⟨?_, rfl⟩
  unfold rt
  have := Rat.divInt_mul_divInt p.num (a : Int) (d₁ := p.den) (d₂ := (b : Int))
  rw [Rat.num_divInt_den] at this
  rw [this]
theorem sp_lisf (hT : T "_law_is_fraction" = some ⟨1, 2, w__law_is_fraction⟩) (k : Nat) (q : Rat) (h : Hh) : W (callF T (k + 2) "_law_is_fraction" [Fq q] h) fun d h' => d = .bl true ∧ Kn h h' := by
  refine W_call hT rfl ?_
  have hd := den_pos' q
  simp [w__law_is_fraction, Ip.ev_lcIf, evIt, W_mkL]
  refine W_lcL (I := fun made xs h' => made = [] ∧ h' = h ∧ ∀ x, x ∈ xs → ∃ i : Int, x = .int i) (fun _ _ h' _ => chkOk_nil h') ?_ ?_ ?_
  · rintro made x xs h' ⟨rfl, rfl, hx⟩
    obtain ⟨i, rfl⟩ := hx x (by simp)
    simp [eltO, elt2, asgN, wipeE]
    exact fun y hy => hx y (by simp [hy])
  · rintro made h' ⟨rfl, rfl, _⟩
    refine ⟨by decide, ?_⟩
    rw [cmp_neL _ (xs := []) (ys := []) (by simp) (by simp) (by simp) (by simp), W_ok]
    simp
    refine ⟨fun _ => ?_, by omega⟩
    rw [sp_frac F.frac k _ _ (by omega), W_ok, Rat.num_divInt_den, cmp_eqG _ (by simp) (by simp), W_ok]
    exact ⟨by simp, Kp.app _ _ _⟩
  · refine ⟨rfl, rfl, fun x hx => ?_⟩
    simp only [List.mem_cons, List.not_mem_nil, or_false] at hx
    rcases hx with rfl | rfl <;> exact ⟨_, rfl⟩
/-- the ways as the laws reckon them -/
theorem sp_lways (hT : T "_law_ways" = some ⟨4, 11, w__law_ways⟩) (k : Nat) (n : Nat) (hn : n ≤ 1000) (ls : List (Int × Int)) (hls : ls.length ≤ 1000) (l : Rat) (hl : sz 45 l) (q : Nat → Rat) (hq : ∀ j, j < n → sz 60 (q j)) (pg : Nat) (h : Hh) :
    W (callF T (k + 3) "_law_ways" [Wb n ls, Fq l, Vt n q, .int (pg : Nat)] h) fun d h' => ∃ r, d = .ref r ∧ h.length ≤ r ∧ h'[r]? = some (.lst (tb n fun j => Fq (Pm ls l q pg j))) ∧ Kn h h' := by
  refine W_call hT rfl ?_
  unfold w__law_ways
  rw [evSs_cons, W_bind, evS_asg]
  simp [-evSs_cons, Ip.ev_lcIf, evIt]
  refine W_lcP (toOf (pg : Nat)) (fun h' => h' = h) (fun h' _ => chkOk_nil h') ?_ ?_ rfl
  · rintro i x h' hx rfl
    obtain ⟨p, hp, rfl⟩ := List.mem_map.mp (List.mem_of_getElem? hx)
    rw [toOf_Pd]
    by_cases hp : p.1 = pg <;> simp [eltO, elt2, asgN, wipeE, Pd, hp]
  · rintro h' rfl
    rw [tos_map]
    have hg : dg ls pg ≤ 1000 := Nat.le_trans (tos_len ls _) hls
    simp [-evSs_cons, W_mkL]
    refine ⟨by unfold dg at hg; simp only [sizeLine_eq]; omega, ?_⟩
    have k1 : Kn h' (h' ++ [O.lst ((tos ls (pg : Nat)).map D.int)]) := Kp.app _ _ _
    have hm := get_new h' (O.lst ((tos ls (pg : Nat)).map D.int))
    have hme : h'.length ≤ h'.length := Nat.le_refl _
    generalize hm0 : h'.length = m at hm hme ⊢
    generalize h' ++ [O.lst ((tos ls (pg : Nat)).map D.int)] = h1 at hm k1 ⊢
    rw [evSs_cons, W_bind, evS_ite]
    simp [-evSs_cons, W_mkL]
    have hm1 := get_app hm [O.lst []]
    have k2 : Kn h' (h1 ++ [O.lst []]) := k1.trans (Kp.app _ _ _)
    rw [cmp_eqL (h1 ++ [O.lst []]) (ys := []) hm1 (by simp) (by simp) (by simp), W_ok, asB_bl, W_ok]
    refine ⟨fun he => ?_, fun he => ?_⟩
    · simp at he
      rw [evSs_cons, W_bind, evS_ret]
      have e0 : evB .list [Vt n q] (h1 ++ [O.lst []]) = mkL (tb n fun i => Fq (q i)) (h1 ++ [O.lst []]) := rfl
      simp [e0, W_mkL]
      have hl := k2.1
      refine ⟨by simp only [sizeLine_eq]; omega, by simp at hl; omega, ?_, k2.trans (by simpa using Kp.app (fun _ => False) (h1 ++ [O.lst []]) [O.lst (tb n fun i => Fq (q i))])⟩
      refine tb_congr fun j hj => ?_
      unfold Pm
      rw [if_pos (by unfold dg; rw [he]; rfl)]
    · simp at he
      have h0 : dg ls pg ≠ 0 := fun z => he (List.length_eq_zero_iff.mp z)
      have hmt := get_app hm [O.lst []]
      generalize h1 ++ [O.lst []] = h2 at hm1 k2 hmt
      have s1 : sz 47 (1 - l) := (sz_sub sz_one hl).mono (by decide)
      have hP := fun j (hj : j < n) => sz_Pm (i := pg) hls hl (hq j hj)
      simp [two_size, W_mkL, Fq_rest, -itB_range, evIt_bi]
      have hr := get_new h2 (O.lst [])
      have k3 : Kn h' (h2 ++ [O.lst []]) := k2.trans (Kp.app _ _ _)
      have hm2 := get_app hm1 [O.lst []]
      have hl2 := lt_of_get hm1
      have hlh := k2.1
      generalize hr0 : h2.length = r at hr hl2 hlh ⊢
      generalize h2 ++ [O.lst []] = h3 at hr k3 hm2
      rw [it_rangeN n (by omega), W_ok]
      refine W_frI (I := fun i env h2 => (∃ a b c d, env = [some (Wb n ls), some (Fq l), some (Vt n q), some (.int (pg : Nat)), some (.ref m), some (Fq (1 - l)), some (.ref r), a, b, c, d]) ∧ h2[r]? = some (.lst (tb i fun j => Fq (Pm ls l q pg j))) ∧ h2[m]? = some (.lst ((tos ls (pg : Nat)).map D.int)) ∧ Kn h' h2) (fun _ _ h' _ => chkOk_nil h') ?_ ?_ ⟨⟨_, _, _, _, rfl⟩, hr, hm2, k3⟩
      · rintro i x env h4 hx ⟨⟨a, b, c, d, rfl⟩, hr, hm, kk⟩
        have hi : i < n := by have := (List.getElem?_eq_some_iff.mp hx).1; simpa using this
        rw [tb_get _ hi] at hx
        injection hx with hx; subst hx
        simp
        refine W_count _ hm ?_
        rw [bi_lenR h4 hm]
        simp [two_size]
        have c1 : List.count (i : Int) (tos ls (pg : Nat)) ≤ (tos ls (pg : Nat)).length := List.count_le_length
        rw [e_ltimesT F k _ _ _ (by unfold dg at hg; omega) (by unfold dg at hg; omega) (by unfold dg at h0; omega), W_ok]
        rw [show rt (List.count (i : Int) (tos ls (pg : Nat))) ((tos ls (pg : Nat)).length) = rt (cn ls pg i) (dg ls pg) from rfl]
        rw [ix_V q hi, W_ok]
        have e1 := sz_cn (i := pg) hls h0 i
        rw [e_ltimes F k (hl.mono (by decide)) ((hq i hi).mono (by decide)), W_ok]
        rw [e_lplus F k ((sz_mul hl (hq i hi)).mono (by decide)) ((sz_mul s1 e1).mono (by decide)), W_ok]
        rw [W_append h4 hr]
        refine ⟨by simp only [sizeLine_eq, tb_len]; omega, ?_, ?_, kk.setNew (by omega) _⟩
        · rw [get_set (lt_of_get hr), tb_succ]
          unfold Pm
          rw [if_neg h0]; first | done | rfl
        · rw [List.getElem?_set_ne (by omega)]; exact hm
      · rintro env h4 ⟨⟨a, b, c, d, rfl⟩, hr, hm, kk⟩
        simp
        simp at hr
        exact ⟨by omega, hr, kk⟩
def w__law_behind : List Stt := [
  .asg (.var 4) (.bin .mul (.lst [.tup [.int 0, .int 1]]) (.ix (.var 0) (.int 0))),
  .fr (.var 5) (.bi .range [.ix (.var 0) (.int 0)]) [.asg (.var 6) (.call "_law_ways" [.var 0, .var 1, .var 2, .var 5]), .asg (.var 4) (.lc (.bi .range [.ix (.var 0) (.int 0)]) (.var 7) (.call "_law_plus" [.ix (.var 4) (.var 7), .call "_law_times" [.ix (.var 3) (.var 5), .ix (.var 6) (.var 7)]]) [7])],
  .ret (.bi .tuple [.var 4])]
theorem sp_lbehind (hW : T "_law_ways" = some ⟨4, 11, w__law_ways⟩) (hT : T "_law_behind" = some ⟨4, 8, w__law_behind⟩) (k : Nat) (n : Nat) (hn : n ≤ 1000) (ls : List (Int × Int)) (hls : ls.length ≤ 1000) (l : Rat) (hl : sz 45 l) (q : Nat → Rat) (hq : ∀ j, j < n → sz 60 (q j)) (x : Nat → Rat) (bh : Bh n x (Pm ls l q)) (h : Hh) :
    W (callF T (k + 4) "_law_behind" [Wb n ls, Fq l, Vt n q, Vt n x] h) fun d h' => d = Vt n (stp n (Pm ls l q) x) ∧ Kn h h' := by
  refine W_call hT rfl ?_
  unfold w__law_behind
  rw [evSs_cons, W_bind, evS_asg]
  simp [-evSs_cons, W_mkL, two_size]
  refine ⟨by decide, W_mulL (xs := [D.tup [.int 0, .int 1]]) (get_new _ _) (by omega) (by omega) (by simp; omega) ?_⟩
  rw [Int.toNat_natCast, flat_rep]
  have hm := get_new (h ++ [O.lst [D.tup [.int 0, .int 1]]]) (O.lst (tb n fun _ => D.tup [.int 0, .int 1]))
  have kk : Kn h (h ++ [O.lst [D.tup [.int 0, .int 1]]] ++ [O.lst (tb n fun _ => D.tup [.int 0, .int 1])]) := (Kp.app _ _ _).trans (Kp.app _ _ _)
  have hmh : h.length ≤ (h ++ [O.lst [D.tup [.int 0, .int 1]]]).length := by simp
  generalize (h ++ [O.lst [D.tup [.int 0, .int 1]]]).length = m at hm hmh ⊢
  generalize (h ++ [O.lst [D.tup [.int 0, .int 1]]] ++ [O.lst (tb n fun _ => D.tup [.int 0, .int 1])]) = h1 at hm kk
  rw [evSs_cons, W_bind, evS_fr]
  simp [-evSs_cons, -itB_range, evIt_bi]
  rw [it_rangeN n (by omega), W_ok]
  refine W_frI (I := fun i env h' => (∃ m a b c, env = [some (Wb n ls), some (Fq l), some (Vt n q), some (Vt n x), some (.ref m), a, b, c] ∧ h'[m]? = some (.lst (tb n fun j => Fq (sm i fun i => x i * Pm ls l q i j)))) ∧ Kn h h') (fun _ _ h' _ => chkOk_nil h') ?_ ?_ ⟨⟨m, _, _, _, rfl, hm⟩, kk⟩
  · rintro i x' env h' hx ⟨⟨m, a, b, c, rfl, hm⟩, kk⟩
    have hi : i < n := by have := (List.getElem?_eq_some_iff.mp hx).1; simpa using this
    rw [tb_get _ hi] at hx
    injection hx with hx; subst hx
    simp
    refine W_mono (sp_lways F hW k n hn ls hls l hl q hq i h') ?_
    rintro y h2 ⟨r, rfl, hrl, hr, k2⟩
    have hm2 := Kn.get k2 hm
    simp [-itB_range, Ip.ev_lc, evIt_bi]
    rw [it_rangeN n (by omega), W_ok]
    refine W_lcF (fun j => Fq (sm (i + 1) fun i => x i * Pm ls l q i j)) (fun h' => h' = h2) (fun h' _ => chkOk_nil h') ?_ ?_ rfl
    · rintro o x' h3 ho hx rfl
      simp at ho
      rw [tb_get _ ho] at hx
      injection hx with hx; subst hx
      simp [eltO, elt1, asgN, wipeE]
      refine W_getR hm2 (atI_tbn _ ho) ?_
      rw [ix_V x hi, W_ok]
      refine W_getR hr (atI_tbn _ ho) ?_
      rw [e_ltimes F (k + 1) (bh.x1 i hi) ((sz_Pm hls hl (hq o ho) i).mono (by decide)), W_ok, e_lplus F (k + 1) (bh.s1 i o (by omega) ho) (bh.p1 i o hi ho), W_ok]
      exact ⟨rfl, rfl⟩
    · rintro h3 rfl
      simp [W_mkL]
      exact ⟨by simp only [sizeLine_eq]; omega, kk.trans (k2.trans (Kp.app _ _ _))⟩
  · rintro env h' ⟨⟨m, a, b, c, rfl, hm⟩, kk⟩
    simp
    rw [bi_tupR h' hm]
    simp
    exact ⟨rfl, kk⟩
end
end Ip

/-! Iq, part K: a law's cells, one by one. -/
namespace Ip
open PySem

/-- what the laws k05 to k18 draw stands in the table; e: the great weights -/
structure KW0 (T : Tb) (e : Ex) : Prop extends KH T where
  hand : T "_law_hand" = some ⟨2, 3, bdHand⟩
  cells : T "_law_cells" = some ⟨2, 2, bdCells⟩
  great : T "_law_great" = some ⟨1, 1, w__law_great⟩
  web : T "_law_web" = some ⟨2, 8, w__law_web⟩
  leap : T "_law_leap" = some ⟨1, 3, w__law_leap⟩
  leaps : T "_law_leaps" = some ⟨2, 7, w__law_leaps e⟩
/-- the laws' own sums besides -/
structure KW (T : Tb) (e : Ex) : Prop extends KG T, KW0 T e
abbrev e810 : Ex := .bin .mul (.int 8) (.bin .pow (.int 10) (.int 10))
abbrev e110 : Ex := .bin .pow (.int 10) (.int 10)
theorem he810 : ∀ C env h P, (W (ev C e810 env h) P ↔ P (.int ((80000000000 : Nat) : Int)) h) := fun C env h P => by
  have m : IntMulOk 8 10000000000 := mulokL' (by omega) (by omega)
  simp [e810, m]
theorem he110 : ∀ C env h P, (W (ev C e110 env h) P ↔ P (.int ((10000000000 : Nat) : Int)) h) := fun C env h P => by
  simp [e110]
theorem W_great {T : Tb} (H : KH0 T) (hT : T "_law_great" = some ⟨1, 1, w__law_great⟩) (k : Nat) (ns : List Int) (i : Int) (r : Env) (h : Hh) :
    ∃ g, ev (callF T (k + 1)) (.and (.cmp .eq (.var 1) (.int 0)) (.call "_law_great" [.var 0])) (some (.frz (ns.map D.int)) :: some (.int i) :: r) h = .ok (.bl g) h := by
  obtain ⟨b, eb⟩ := sp_great H hT k ns h
  by_cases e : i = 0
  · exact ⟨b, by simp [e, eb]⟩
  · exact ⟨false, by simp [e]⟩
/-- a law's loop over its cells -/
theorem cells_for {T : Tb} (hc : T "_law_cells" = some ⟨2, 2, bdCells⟩) (k : Nat) (ns : List Int) (hl : ns.length ≤ 63) (M : Int) (hM : 0 ≤ M) {body : List Stt} {r : Env} {P : Fl → Hh → Prop} (I : Env → Prop)
    (h0 : I (some (.frz (ns.map D.int)) :: r))
    (step : ∀ (i c : Int) env h', 0 ≤ i → i < 100 → I env → W (evSs (callF T (k + 1)) body ((env.set 1 (some (.int i))).set 2 (some (.int c))) h') fun fl h2 => (∃ e, fl = .nx e ∧ I e) ∧ Kn h' h2)
    (done : ∀ env h', I env → P (.nx env) h') : W (evS (callF T (k + 1)) (.fr (.tup [.var 1, .var 2]) (.call "_law_cells" [.var 0, .int M]) body) (some (.frz (ns.map D.int)) :: r) []) P := by
  rw [evS_fr]
  simp [evIt]
  refine W_mono (sp_cells hc k ns hl M hM []) ?_
  rintro x h1 ⟨n0, cs, rfl, _, hcs, hn0, _⟩
  have e : itSeq (.ref n0) h1 = .ok (enumD 0 (cs.map D.int), [(n0, enumD 0 (cs.map D.int))]) h1 := by simp [itSeq, hn0]
  rw [e, W_ok]
  refine W_frI (I := fun i env h' => h'[n0]? = some (.lst (enumD 0 (cs.map D.int))) ∧ I env) (fun i env h' p q hq => by rw [List.mem_singleton.mp hq]; exact p.1) ?_ ?_ ⟨hn0, h0⟩
  · rintro i x env h' hx ⟨hn, hI⟩
    have hi : i < cs.length := by
      have := (List.getElem?_eq_some_iff.mp hx).1
      rw [enumD_len] at this
      simpa using this
    rw [enumD_get (cs.map D.int) 0 i (.int (cs[i])) (by simp [hi])] at hx
    injection hx with hx; subst hx
    simp only [evA_tup2, W_ok]
    refine W_mono (step _ _ env h' (by omega) (by omega) hI) ?_
    rintro fl h2 ⟨⟨e, rfl, hI2⟩, k2⟩
    exact ⟨Kn.get k2 hn, hI2⟩
  · rintro env h' ⟨_, hI⟩
    exact done env h' hI
/-- a law is kept -/
theorem law_of {T : Tb} {m : Nat} {body : List Stt} (hT : T "law" = some ⟨1, m + 1, body⟩) (ns : List Int)
    (w : W (evSs (callF T 11) body (some (.frz (ns.map D.int)) :: List.replicate m none) []) (retP fun d _ => d = .bl true)) : ∃ h', callF T 12 "law" [.frz (ns.map D.int)] [] = .ok (.bl true) h' := by
  obtain ⟨d, h', e, rfl⟩ : W (callF T 12 "law" [.frz (ns.map D.int)] []) fun d _ => d = .bl true := W_call (k := 11) hT rfl w
  exact ⟨h', e⟩
/-- a hand's lists and what is new: nothing else is changed -/
theorem Kn.ofHand {a b c : Hh} {n : Nat} (p : Kn a b) (q : Kp (· = n) b c) (hn : a.length ≤ n) : Kn a c := Kp.inNew p q hn
end Ip

/-! Iq, part N: the sizes of equations' numbers; the equations of shares. -/
namespace Ip
open PySem

/-- a whole number -/
def isI (q : Rat) : Prop := ∃ a : Int, q = a
theorem isI_nat (n : Nat) : isI (n : Rat) := ⟨n, rfl⟩
theorem isI_int (n : Int) : isI (n : Rat) := ⟨n, rfl⟩
theorem isI_add {p q : Rat} : isI p → isI q → isI (p + q) := fun ⟨a, e⟩ ⟨b, f⟩ => ⟨a + b, by rw [e, f]; push_cast; rfl⟩
theorem isI_sub {p q : Rat} : isI p → isI q → isI (p - q) := fun ⟨a, e⟩ ⟨b, f⟩ => ⟨a - b, by rw [e, f]; push_cast; rfl⟩
theorem isI_mul {p q : Rat} : isI p → isI q → isI (p * q) := fun ⟨a, e⟩ ⟨b, f⟩ => ⟨a * b, by rw [e, f]; push_cast; rfl⟩
/-- numbers of one below, all of at most s bits -/
def rb (s m : Nat) (f : Nat → Rat) : Prop := ∃ D : Nat, 0 < D ∧ D < 2 ^ s ∧ ∀ j, j < m → ∃ a : Int, f j * D = a ∧ a.natAbs < 2 ^ s
theorem of_mul {q : Rat} {D : Nat} {a : Int} (hD : 0 < D) (e : q * D = a) : q = Rat.divInt a D := by
  have h0 : ((D : Nat) : Rat) ≠ 0 := by exact_mod_cast (by omega : D ≠ 0)
  rw [Rat.divInt_eq_div, ← e, Rat.div_def, Rat.mul_assoc]
  show q = q * ((D : Rat) * (D : Rat)⁻¹)
  rw [Rat.mul_inv_cancel _ h0, Rat.mul_one]
theorem rb.sz {s m : Nat} {f : Nat → Rat} (h : rb s m f) {j : Nat} (hj : j < m) : sz s (f j) := by
  obtain ⟨D, h0, h1, h2⟩ := h
  obtain ⟨a, e, ha⟩ := h2 j hj
  rw [of_mul h0 e]
  exact sz_divInt (by omega) ha (by simpa using h1)
theorem rb.mono {s t m : Nat} {f : Nat → Rat} (h : rb s m f) (hs : s ≤ t) : rb t m f := by
  obtain ⟨D, h0, h1, h2⟩ := h
  have := Nat.pow_le_pow_right (n := 2) (by omega) hs
  exact ⟨D, h0, by omega, fun j hj => let ⟨a, e, ha⟩ := h2 j hj; ⟨a, e, by omega⟩⟩
theorem rb_pv {s m : Nat} {f : Nat → Rat} (h : rb s m f) {c : Nat} (hc : c < m) (hne : f c ≠ 0) : rb s m fun j => f j / f c := by
  obtain ⟨D, h0, h1, h2⟩ := h
  obtain ⟨b, eb, hb⟩ := h2 c hc
  have hD : ((D : Nat) : Rat) ≠ 0 := by exact_mod_cast (by omega : D ≠ 0)
  have hb0 : b ≠ 0 := fun z => by
    rw [z] at eb
    rcases Rat.mul_eq_zero.mp (eb.trans rfl : f c * D = 0) with z | z
    · exact hne z
    · exact hD z
  have key : ∀ j, f j / f c * (f c * D) = f j * D := fun j => by
    rw [Rat.div_def, ← Rat.mul_assoc, Rat.mul_assoc (f j), Rat.inv_mul_cancel _ hne, Rat.mul_one]
  refine ⟨b.natAbs, by omega, hb, fun j hj => ?_⟩
  obtain ⟨a, ea, ha⟩ := h2 j hj
  have kj := key j
  rw [eb, ea] at kj
  rcases Int.natAbs_eq b with e | e
  · refine ⟨a, ?_, ha⟩
    have e2 : ((b.natAbs : Nat) : Rat) = (b : Rat) := by rw [show ((b.natAbs : Nat) : Rat) = (((b.natAbs : Nat) : Int) : Rat) from rfl, ← e]
    rw [e2]; exact kj
  · refine ⟨-a, ?_, by omega⟩
    have e2 : ((b.natAbs : Nat) : Rat) = -(b : Rat) := by
      have : ((b.natAbs : Nat) : Int) = -b := by omega
      rw [show ((b.natAbs : Nat) : Rat) = (((b.natAbs : Nat) : Int) : Rat) from rfl, this]; push_cast; rfl
    rw [e2]
    push_cast
    rw [← kj]; grind
theorem pow_dbl (s : Nat) : (2 : Nat) ^ (2 * s + 1) = 2 * (2 ^ s * 2 ^ s) := by rw [Nat.pow_succ, Nat.two_mul, Nat.pow_add]; omega
theorem rb_sub {s m : Nat} {f g : Nat → Rat} (hf : rb s m f) (hg : rb s m g) {c : Nat} (hc : c < m) : rb (2 * s + 1) m fun j => f j - f c * g j := by
  obtain ⟨D, h0, h1, h2⟩ := hf
  obtain ⟨E, g0, g1, g2⟩ := hg
  obtain ⟨u, eu, hu⟩ := h2 c hc
  have hp : 0 < D * E := Nat.mul_pos h0 g0
  have hlt : ∀ x y : Nat, x < 2 ^ s → y < 2 ^ s → x * y ≤ 2 ^ s * 2 ^ s := fun x y hx hy => Nat.mul_le_mul (by omega) (by omega)
  have hpos : 0 < 2 ^ s * 2 ^ s := Nat.mul_pos (Nat.two_pow_pos s) (Nat.two_pow_pos s)
  refine ⟨D * E, hp, ?_, fun j hj => ?_⟩
  · rw [pow_dbl]; have := hlt D E h1 g1; omega
  · obtain ⟨a, ea, ha⟩ := h2 j hj
    obtain ⟨b, eb, hb⟩ := g2 j hj
    refine ⟨a * E - u * b, ?_, ?_⟩
    · push_cast
      rw [← ea, ← eu, ← eb]; grind
    · have l1 : (a * (E : Int)).natAbs < 2 ^ s * 2 ^ s := by
        rw [Int.natAbs_mul]
        have : ((E : Nat) : Int).natAbs = E := by omega
        rw [this]
        calc a.natAbs * E ≤ a.natAbs * 2 ^ s := Nat.mul_le_mul_left _ (by omega)
          _ < 2 ^ s * 2 ^ s := Nat.mul_lt_mul_of_pos_right ha (Nat.two_pow_pos s)
      have l2 : (u * b).natAbs < 2 ^ s * 2 ^ s := by
        rw [Int.natAbs_mul]
        calc u.natAbs * b.natAbs ≤ u.natAbs * 2 ^ s := Nat.mul_le_mul_left _ (by omega)
          _ < 2 ^ s * 2 ^ s := Nat.mul_lt_mul_of_pos_right hu (Nat.two_pow_pos s)
      rw [pow_dbl]; omega
/-! ways of one below -/
/-- what all numbers from 1 to 61 divide -/
def lcm60 : Nat := 591133442051411133755680800
theorem lcm60_dvd : ∀ d, 0 < d → d ≤ 61 → d ∣ lcm60 := by
  have : ∀ d : Fin 62, 0 < d.1 → lcm60 % d.1 = 0 := by decide +kernel
  exact fun d h0 h1 => Nat.dvd_of_mod_eq_zero (this ⟨d, by omega⟩ h0)
/-- all a matrix's numbers are of one below, which has at most s bits -/
def CdM (n s : Nat) (P : Nat → Nat → Rat) : Prop := ∃ E : Nat, 0 < E ∧ E < 2 ^ s ∧ ∀ i j, i < n → j < n → isI (P i j * E)
theorem rt_mulI {a b m : Nat} (hb : 0 < b) (h : b ∣ m) : isI (rt a b * m) := by
  obtain ⟨c, rfl⟩ := h
  have hb0 : ((b : Nat) : Rat) ≠ 0 := by exact_mod_cast (by omega : b ≠ 0)
  refine ⟨(a * c : Nat), ?_⟩
  rw [rt_eq, Rat.div_def]
  push_cast
  have := Rat.inv_mul_cancel _ hb0
  grind
theorem den_mulI (l : Rat) : isI (l * l.den) := by
  have h0 : ((l.den : Nat) : Rat) ≠ 0 := by exact_mod_cast (by have := l.den_pos; omega : l.den ≠ 0)
  refine ⟨l.num, ?_⟩
  have e : l = (l.num : Rat) / (l.den : Rat) := by
    have := Rat.divInt_eq_div l.num l.den
    rw [Rat.num_divInt_den] at this
    exact this
  have e2 : (l.num : Rat) / (l.den : Rat) * l.den = l.num := by rw [Rat.div_def, Rat.mul_assoc, Rat.inv_mul_cancel _ h0, Rat.mul_one]
  rw [← e] at e2
  exact e2
theorem CdM_Pm {n : Nat} {ls : List (Int × Int)} (hls : ls.length ≤ 61) {l : Rat} (hl : sz 45 l) {q : Nat → Rat} (hq : CdR n q) : CdM n 200 (Pm ls l q) := by
  obtain ⟨S, s0, s1, hS⟩ := hq
  have hd : 0 < l.den := l.den_pos
  refine ⟨l.den * S * lcm60, Nat.mul_pos (Nat.mul_pos hd s0) (by decide), ?_, fun i j hi hj => ?_⟩
  · have h1 : l.den * S < 2 ^ 45 * 2 ^ 45 := by
      calc l.den * S < 2 ^ 45 * S := Nat.mul_lt_mul_of_pos_right hl.2 s0
        _ ≤ 2 ^ 45 * 2 ^ 45 := Nat.mul_le_mul_left _ (by omega)
    calc l.den * S * lcm60 ≤ 2 ^ 45 * 2 ^ 45 * lcm60 := Nat.mul_le_mul_right _ (by omega)
      _ < 2 ^ 200 := by decide +kernel
  · obtain ⟨a, ha, ea⟩ := hS j hj
    have i1 : isI (q j * S) := by rw [ea]; exact rt_mulI s0 (Nat.dvd_refl _)
    have i2 := den_mulI l
    have i3 : isI (l.den : Rat) := isI_nat _
    have i4 : isI (S : Rat) := isI_nat _
    have i5 : isI (lcm60 : Rat) := isI_nat _
    unfold Pm
    split
    · have e : q j * ((l.den * S * lcm60 : Nat) : Rat) = (q j * S) * (l.den * lcm60) := by push_cast; grind
      rw [e]; exact isI_mul i1 (isI_mul i3 i5)
    · next h0 =>
      have i6 : isI (rt (cn ls i j) (dg ls i) * lcm60) := rt_mulI (by omega) (lcm60_dvd _ (by omega) (Nat.le_trans (tos_len ls _) hls))
      have e : (l * q j + (1 - l) * rt (cn ls i j) (dg ls i)) * ((l.den * S * lcm60 : Nat) : Rat) = (l * l.den) * (q j * S) * lcm60 + (l.den - l * l.den) * (rt (cn ls i j) (dg ls i) * lcm60) * S := by push_cast; grind
      rw [e]
      exact isI_add (isI_mul (isI_mul i2 i1) i5) (isI_mul (isI_mul (isI_sub i3 i2) i6) i4)
/-! the equations of shares -/
def Eq0 (n : Nat) (P : Nat → Nat → Rat) (i j : Nat) : Rat := if i + 1 = n then 1 else if j = n then 0 else if j = i then P j i - 1 else P j i
theorem Eq0_sum {n : Nat} (P : Nat → Nat → Rat) {i : Nat} (hi : i + 1 < n) (y : Nat → Rat) : sm (n + 1) (fun j => Eq0 n P i j * y j) = stp n P y i - y i := by
  simp only [sm]
  have e1 : Eq0 n P i n = 0 := by unfold Eq0; rw [if_neg (by omega), if_pos rfl]
  have e2 : sm n (fun j => Eq0 n P i j * y j) = sm n (fun j => y j * P j i) - sm n (fun j => if j = i then y i else 0) := by
    rw [← sm_sub]
    refine sm_congr fun j hj => ?_
    unfold Eq0
    rw [if_neg (by omega), if_neg (by omega)]
    by_cases e : j = i
    · rw [if_pos e, if_pos e, e]; grind
    · rw [if_neg e, if_neg e]; grind
  have e3 : sm n (fun j => if j = i then y i else 0) = y i := by
    rw [sm_one (f := fun j => if j = i then y i else 0) (k := i) (by omega) (by intro k _ hne; simp only [if_neg hne])]
    simp only [if_true]
  rw [e1, e2, e3]
  unfold stp
  grind
theorem Eq0_last {n : Nat} (P : Nat → Nat → Rat) {i : Nat} (hi : i + 1 = n) (y : Nat → Rat) : sm (n + 1) (fun j => Eq0 n P i j * y j) = sm n y + y n := by
  simp only [sm]
  have e : ∀ j, Eq0 n P i j * y j = y j := fun j => by unfold Eq0; rw [if_pos hi]; grind
  rw [e, sm_congr fun j _ => e j]
/-- the last page's own equation follows -/
theorem stp_last {n : Nat} {P : Nat → Nat → Rat} (h : ∀ i, i < n → sm n (P i) = 1) {y : Nat → Rat} (hy : ∀ i, i + 1 < n → stp n P y i = y i) : ∀ i, i < n → stp n P y i = y i := by
  intro i hi
  by_cases hl : i + 1 < n
  · exact hy i hl
  · have e : n = i + 1 := by omega
    subst e
    have := stp_sum h y
    simp only [sm] at this
    rw [sm_congr (f := stp (i + 1) P y) (g := y) fun j hj => hy j (by omega)] at this
    grind
theorem Wk.rg {n : Nat} {l : Rat} {q : Nat → Rat} {A P : Nat → Nat → Rat} (w : Wk n l q A P) (hn : 0 < n) : Rg n (Eq0 n P) := by
  intro y hy hN
  have h1 : ∀ i, i + 1 < n → stp n P y i = y i := fun i hi => by
    have := hN i (by omega)
    rw [Eq0_sum P hi] at this; grind
  have h2 : sm n y = 0 := by
    have := hN (n - 1) (by omega)
    rw [Eq0_last P (by omega), hy] at this; grind
  exact w.only0 h2 (stp_last w.p1 h1)
/-- shares: the row that is its own row behind a step -/
structure Sh (n : Nat) (P : Nat → Nat → Rat) (x : Nat → Rat) : Prop where
  one : sm n x = 1
  own : ∀ i, i < n → stp n P x i = x i
theorem Wk.sh {n : Nat} {l : Rat} {q : Nat → Rat} {A P : Nat → Nat → Rat} (w : Wk n l q A P) (hn : 0 < n) {x : Nat → Rat} (hN : Nu n (Eq0 n P) fun j => if j = n then -1 else x j) : Sh n P x := by
  have e : ∀ i, i < n → (fun j => if j = n then (-1 : Rat) else x j) i = x i := fun i hi => if_neg (by omega)
  have h1 : ∀ i, i + 1 < n → stp n P x i = x i := fun i hi => by
    have := hN i (by omega)
    rw [Eq0_sum P hi, stp_congr e, if_neg (by omega)] at this; grind
  have h2 : sm n x = 1 := by
    have := hN (n - 1) (by omega)
    rw [Eq0_last P (by omega), sm_congr e, if_pos rfl] at this; grind
  exact ⟨h2, stp_last w.p1 h1⟩
theorem Wk.sh_only {n : Nat} {l : Rat} {q : Nat → Rat} {A P : Nat → Nat → Rat} (w : Wk n l q A P) {x y : Nat → Rat} (hx : Sh n P x) (hy : Sh n P y) : ∀ i, i < n → x i = y i :=
  w.only (hx.one.trans hy.one.symm) hx.own hy.own
/-- the equations' sizes -/
theorem rb_Eq0 {n s : Nat} {P : Nat → Nat → Rat} (h : CdM n s P) (p0 : ∀ i j, i < n → j < n → 0 ≤ P i j) (p1 : ∀ i j, i < n → j < n → P i j ≤ 1) (hn : 0 < n) : ∀ i, i < n → rb (s + 1) (n + 1) (Eq0 n P i) := by
  obtain ⟨E, e0, e1, hE⟩ := h
  intro i hi
  have hpw : 2 ^ (s + 1) = 2 * 2 ^ s := by rw [Nat.pow_succ]; omega
  have hE0 : (0 : Rat) ≤ (E : Rat) := by exact_mod_cast Nat.zero_le _
  have key : ∀ x : Rat, isI (x * E) → -1 ≤ x → x ≤ 1 → ∃ a : Int, x * E = a ∧ a.natAbs < 2 ^ (s + 1) := fun x hx l1 l2 => by
    obtain ⟨a, ha⟩ := hx
    refine ⟨a, ha, ?_⟩
    have b1 := Rat.mul_le_mul_of_nonneg_left l2 hE0
    have b2 := Rat.mul_le_mul_of_nonneg_left l1 hE0
    have b3 : (a : Rat) ≤ ((E : Int) : Rat) := by rw [← ha]; show x * E ≤ (E : Rat); grind
    have b4 : (((-(E : Int)) : Int) : Rat) ≤ (a : Rat) := by rw [← ha]; push_cast; show -(E : Rat) ≤ x * E; grind
    have c3 := Rat.intCast_le_intCast.mp b3
    have c4 := Rat.intCast_le_intCast.mp b4
    rw [hpw]; omega
  refine ⟨E, e0, by omega, fun j hj => ?_⟩
  unfold Eq0
  split
  · exact key 1 (by rw [Rat.one_mul]; exact isI_nat _) (by decide) (by decide)
  · split
    · exact key 0 (by rw [Rat.zero_mul]; exact ⟨0, rfl⟩) (by decide) (by decide)
    · next h1 h2 =>
      have i0 := hE j i (by omega) hi
      have a0 := p0 j i (by omega) hi
      have a1 := p1 j i (by omega) hi
      split
      · exact key _ (by rw [Rat.sub_eq_add_neg, Rat.add_mul, show -1 * (E : Rat) = -(E : Rat) by grind, ← Rat.sub_eq_add_neg]; exact isI_sub i0 (isI_nat _)) (by grind) (by grind)
      · exact key _ i0 (by grind) a1
theorem Wk.pl1 {n : Nat} {l : Rat} {q : Nat → Rat} {A P : Nat → Nat → Rat} (w : Wk n l q A P) : ∀ i j, i < n → j < n → P i j ≤ 1 := fun i j hi hj => by
  have := sm_term (f := P i) (n := n) (fun k hk => w.p0 i k hi hk) hj
  rw [w.p1 i hi] at this
  exact this
end Ip

/-! Iq, part T: equations, taken_off, solved, shares (the package's), walked once. -/
namespace Ip
open PySem

abbrev dNo : D := .tup [.int 0, .int 1]
abbrev dOne : D := .tup [.int 1, .int 1]
def w_equations : List Stt := [
  .asg (.var 3) (.ix (.var 0) (.int 0)),
  .asg (.var 4) (.lc (.bi .range [.var 3]) (.var 8) (.call "ways" [.var 0, .var 1, .var 2, .var 8]) [8]),
  .asg (.var 5) (.lst []),
  .fr (.var 6) (.bi .range [.bin .sub (.var 3) (.int 1)]) [.asg (.var 7) (.bin .add (.lc (.bi .range [.var 3]) (.var 8) (.ix (.ix (.var 4) (.var 8)) (.var 6)) [8]) (.lst [.con dNo])), .asg (.ix (.var 7) (.var 6)) (.call "less" [.ix (.var 7) (.var 6), .con dOne]), .ex (.mt .append (.var 5) [.var 7])],
  .ex (.mt .append (.var 5) [.bin .mul (.lst [.con dOne]) (.bin .add (.var 3) (.int 1))]),
  .ret (.var 5)]
def w_taken_off : List Stt := [
  .ite (.cmp .eq (.ix (.var 0) (.var 2)) (.con dNo)) [.ret (.var 0)] [],
  .ret (.lc (.bi .zip [.var 0, .var 1]) (.tup [.var 3, .var 4]) (.call "less" [.var 3, .call "times" [.ix (.var 0) (.var 2), .var 4]]) [3, 4])]
def w_solved : List Stt := [
  .asg (.var 1) (.bi .len [.var 0]),
  .fr (.var 2) (.bi .range [.var 1]) [.asg (.var 3) (.var 2), .whl (.cmp .eq (.ix (.ix (.var 0) (.var 3)) (.var 2)) (.con dNo)) [.aug 3 (.int 1)], .asg (.var 4) (.lc (.ix (.var 0) (.var 3)) (.var 5) (.call "by" [.var 5, .ix (.ix (.var 0) (.var 3)) (.var 2)]) [5]), .asg (.ix (.var 0) (.var 3)) (.ix (.var 0) (.var 2)), .asg (.var 0) (.lc (.var 0) (.var 6) (.call "taken_off" [.var 6, .var 4, .var 2]) [6]), .asg (.ix (.var 0) (.var 2)) (.var 4)],
  .ret (.lc (.var 0) (.var 6) (.ix (.var 6) (.var 1)) [6])]
def w_sharesN (nm : Str) : List Stt := [
  .ret (.bi .tuple [.call nm [.call "equations" [.var 0, .var 1, .var 2]]])]
def w_shares : List Stt := w_sharesN "solved"
structure KR0 (T : Tb) : Prop extends KS T where
  by_ : T "by" = some ⟨2, 2, bdBy⟩
  equations : T "equations" = some ⟨3, 9, w_equations⟩
  taken : T "taken_off" = some ⟨3, 5, w_taken_off⟩
structure KR (T : Tb) : Prop extends KR0 T where
  solved : T "solved" = some ⟨1, 7, w_solved⟩
  shares : T "shares" = some ⟨3, 3, w_shares⟩
/-- a list of fractions in the heap -/
def Rl (m : Nat) (r : Nat) (f : Nat → Rat) (h : Hh) : Prop := h[r]? = some (.lst (tb m fun j => Fq (f j)))
theorem Rl.keep {m r : Nat} {f : Nat → Rat} {h h' : Hh} (p : Rl m r f h) {x : Nat → Prop} (k : Kp x h h') (hx : ¬ x r) : Rl m r f h' := k.get p hx
theorem Rl.kn {m r : Nat} {f : Nat → Rat} {h h' : Hh} (p : Rl m r f h) (k : Kn h h') : Rl m r f h' := Kn.get k p
theorem Rl.lt {m r : Nat} {f : Nat → Rat} {h : Hh} (p : Rl m r f h) : r < h.length := lt_of_get p
theorem Rl.congr {m r : Nat} {f g : Nat → Rat} {h : Hh} (p : Rl m r f h) (e : ∀ j, j < m → f j = g j) : Rl m r g h := by
  unfold Rl at *
  rw [p, tb_congr fun j hj => by rw [e j hj]]
theorem it_zipR {m r p : Nat} {f g : Nat → Rat} {h : Hh} (hr : Rl m r f h) (hp : Rl m p g h) : itB .zip [.ref r, .ref p] h = .ok (tb m fun i => .tup [Fq (f i), Fq (g i)], [(r, tb m fun j => Fq (f j)), (p, tb m fun j => Fq (g j))]) h := by
  show itZip [.ref r, .ref p] h = _
  unfold Rl at hr hp
  simp [itZip, itSeqZ, hr, hp, zipD_tb]
theorem it_R {m r : Nat} {f : Nat → D} {h : Hh} (hr : h[r]? = some (.lst (tb m f))) : itSeq (.ref r) h = .ok (tb m f, [(r, tb m f)]) h := by simp [itSeq, hr]
section
variable {T : Tb} (F : KR0 T)
include F
theorem e_by (k : Nat) {p q : Rat} (hp : sz big p) (hq : sz big q) (h0 : q ≠ 0) (h : Hh) : callF T (k + 3) "by" [Fq p, Fq q] h = .ok (Fq (p / q)) h := sp_by F.common F.made k hp hq (by decide) h F.by_ h0
theorem sp_taken (k m r p : Nat) (hm : m ≤ 1000) (f g : Nat → Rat) (c : Nat) (hc : c < m) (h : Hh) (hr : Rl m r f h) (hp : Rl m p g h) (sf : ∀ j, j < m → sz big (f j)) (sg : ∀ j, j < m → sz big (g j)) (sm' : ∀ j, j < m → sz big (f c * g j)) :
    W (callF T (k + 4) "taken_off" [.ref r, .ref p, .int (c : Nat)] h) fun d h' => ∃ r', d = .ref r' ∧ (r' = r ∨ h.length ≤ r') ∧ Rl m r' (fun j => f j - f c * g j) h' ∧ Kn h h' := by
  refine W_call F.taken rfl ?_
  unfold w_taken_off
  rw [evSs_cons, W_bind, evS_ite]
  simp [-evSs_cons]
  refine W_getR hr (atI_tbn _ hc) ?_
  rw [show dNo = Fq 0 from rfl, cmp_eqG h (G_Fq _ _) (G_Fq _ _), W_ok, asB_bl, W_ok]
  simp [-evSs_cons, Fq_inj]
  refine ⟨fun h0 => ?_, fun h0 => ?_⟩
  · simp
    exact ⟨hr.congr fun j _ => by rw [h0]; grind, Kp.refl _ _⟩
  · simp [Ip.ev_lc, evIt_bi]
    rw [it_zipR hr hp, W_ok]
    refine W_lcF (fun j => Fq (f j - f c * g j)) (fun h' => h' = h) (fun h' e q hq => by
      subst e
      rcases List.mem_cons.mp hq with e | hq
      · rw [e]; exact hr
      · rw [List.mem_singleton.mp hq]; exact hp) ?_ ?_ rfl
    · rintro i x h' hi hx rfl
      simp at hi
      rw [tb_get _ hi] at hx
      injection hx with hx; subst hx
      simp [eltO, elt1, asgN, wipeE]
      refine W_getR hr (atI_tbn _ hc) ?_
      rw [e_times F.toKF k (sf c hc) (sg i hi), W_ok, e_less F.toKF k (sf i hi) (sm' i hi), W_ok]
      exact ⟨rfl, rfl⟩
    · rintro h' rfl
      simp [W_mkL]
      refine ⟨by simp only [sizeLine_eq]; omega, ?_, Kp.app _ _ _⟩
      unfold Rl
      rw [get_new]
/-- rows in the heap: a list of lists -/
structure Mx (n v : Nat) (R : Nat → Nat → Rat) (h : Hh) (a : Nat → Nat) : Prop where
  vv : h[v]? = some (.lst (tb n fun i => .ref (a i)))
  r : ∀ i, i < n → Rl (n + 1) (a i) (R i) h
  ne : ∀ i, i < n → a i ≠ v
theorem sp_solvedN {nm : Str} (hN : T nm = some ⟨1, 7, w_solved⟩) (k n s v : Nat) (hn : n ≤ 12) (hs : s ≤ 4000) (R0 : Nat → Nat → Rat) (rg : Rg n R0) (sz0 : ∀ i, i < n → rb s (n + 1) (R0 i)) (h : Hh) (a0 : Nat → Nat) (mx : Mx n v R0 h a0) :
    W (callF T (k + 5) nm [.ref v] h) fun d h' => ∃ (r : Nat) (x : Nat → Rat), d = .ref r ∧ h.length ≤ r ∧ Rl n r x h' ∧ (∀ i, i < n → sz ((s + 1) * 4096) (x i)) ∧ Nu n R0 (fun j => if j = n then -1 else x j) ∧ Kp (· = v) h h' := by
  refine W_call hN rfl ?_
  unfold w_solved
  rw [evSs_cons, W_bind, evS_asg]
  simp [-evSs_cons]
  rw [bi_lenR h mx.vv]
  simp [-evSs_cons]
  rw [evSs_cons, W_bind, evS_fr]
  simp [-evSs_cons, evIt_bi, -itB_range]
  rw [it_rangeN n (by omega), W_ok]
  have hvh := lt_of_get mx.vv
  refine W_frI (I := fun c env h' => Kp (· = v) h h' ∧ ∃ (w : Nat) (R : Nat → Nat → Rat) (a : Nat → Nat), (w = v ∨ h.length ≤ w) ∧ (∃ x2 x3 x4 x5 x6, env = [some (.ref w), some (.int (n : Nat)), x2, x3, x4, x5, x6]) ∧ Mx n w R h' a ∧ Dn n c R ∧ Rg n R ∧ (∀ y, Nu n R y ↔ Nu n R0 y) ∧ ∀ i, i < n → rb ((s + 1) * 2 ^ c - 1) (n + 1) (R i)) (fun _ _ h' _ => chkOk_nil h') ?_ ?_
    ⟨Kp.refl _ _, v, R0, a0, .inl rfl, ⟨_, _, _, _, _, rfl⟩, mx, fun i j _ hj => absurd hj (by omega), rg, fun _ => Iff.rfl, fun i hi => (sz0 i hi).mono (by omega)⟩
  · rintro c x env h1 hx ⟨kk, w, R, a, hw, ⟨x2, x3, x4, x5, x6, rfl⟩, mx, dn, rg, nu, sz1⟩
    have hc : c < n := by have := (List.getElem?_eq_some_iff.mp hx).1; simpa using this
    rw [tb_get _ hc] at hx
    injection hx with hx; subst hx
    obtain ⟨b, hcb, hbn, hRb⟩ := rg.some hc dn
    have hpow : (s + 1) * 2 ^ c ≤ (s + 1) * 2048 := Nat.mul_le_mul_left _ (Nat.pow_le_pow_right (n := 2) (by omega) (by omega : c ≤ 11))
    have hsz : (s + 1) * 2 ^ c - 1 ≤ 9000000 := by omega
    have hlo : 1 ≤ (s + 1) * 2 ^ c := Nat.mul_pos (by omega) (Nat.two_pow_pos c)
    simp [-evSs_cons]
    rw [evSs_cons, W_bind, evS_asg]
    simp [-evSs_cons]
    rw [evSs_cons, W_bind, evS_whl]
    refine W_whO (I := fun u env h' => h' = h1 ∧ ∃ t, c ≤ t ∧ t ≤ b ∧ u = b - t ∧ env = [some (.ref w), some (.int (n : Nat)), some (.int (c : Nat)), some (.int (t : Nat)), x4, x5, x6]) ?_ (n := b - c) ⟨rfl, c, Nat.le_refl _, hcb, rfl, rfl⟩
    rintro u env h' ⟨rfl, t, ht1, ht2, rfl, rfl⟩
    simp [-evSs_cons]
    refine W_getR mx.vv (atI_tbn _ (by omega)) ?_
    refine W_getR (mx.r t (by omega)) (atI_tbn _ (by omega)) ?_
    rw [show dNo = Fq 0 from rfl, cmp_eqG h' (G_Fq _ _) (G_Fq _ _), W_ok, asB_bl, W_ok]
    simp [-evSs_cons, Fq_inj]
    refine ⟨fun hz => ?_, fun hz => ?_⟩
    · simp
      have : t ≠ b := fun e => hRb (by rw [← e]; exact hz)
      exact ⟨b - (t + 1), by omega, t + 1, by omega, by omega, rfl, by push_cast; rfl⟩
    · have htn : t < n := by omega
      have st := sz1 t htn
      have spv := rb_pv st (show c < n + 1 by omega) hz
      rw [evSs_cons, W_bind, evS_asg]
      simp [-evSs_cons, Ip.ev_lc, evIt]
      refine W_getR mx.vv (atI_tbn _ htn) ?_
      rw [it_R (mx.r t htn), W_ok]
      refine W_lcF (fun j => Fq (pv R c t j)) (fun h2 => h2 = h') (fun h2 e q hq => by rw [List.mem_singleton.mp hq, e]; exact mx.r t htn) ?_ ?_ rfl
      · rintro i x h2 hi hx rfl
        simp at hi
        rw [tb_get _ hi] at hx
        injection hx with hx; subst hx
        simp [eltO, elt1, asgN, wipeE]
        refine W_getR mx.vv (atI_tbn _ htn) ?_
        refine W_getR (mx.r t htn) (atI_tbn _ (by omega)) ?_
        rw [e_by F (k + 1) (toBig (st.sz hi) (by omega)) (toBig (st.sz (by omega)) (by omega)) hz, W_ok]
        exact ⟨rfl, rfl⟩
      rintro h2 rfl
      simp [-evSs_cons, W_mkL]
      refine ⟨by simp only [sizeLine_eq]; omega, ?_⟩
      have hpn : Rl (n + 1) h2.length (pv R c t) (h2 ++ [O.lst (tb (n + 1) fun j => Fq (pv R c t j))]) := get_new _ _
      have mv := get_app mx.vv [O.lst (tb (n + 1) fun j => Fq (pv R c t j))]
      have mr : ∀ i, i < n → Rl (n + 1) (a i) (R i) (h2 ++ [O.lst (tb (n + 1) fun j => Fq (pv R c t j))]) := fun i hi => get_app (mx.r i hi) _
      have k1 := kk.trans (Kp.app _ _ [O.lst (tb (n + 1) fun j => Fq (pv R c t j))])
      have hl2 := kk.1
      have hwl := lt_of_get mx.vv
      have har : ∀ i, i < n → a i < h2.length := fun i hi => (mx.r i hi).lt
      generalize h2.length = p at hpn hl2 hwl har ⊢
      generalize h2 ++ [O.lst (tb (n + 1) fun j => Fq (pv R c t j))] = h3 at hpn mv mr k1 ⊢
      rw [evSs_cons, W_bind, evS_asg]
      simp [-evSs_cons]
      refine W_getR mv (atI_tbn _ hc) ?_
      refine W_setR mv (j := t) (ixN_nat (by simpa using htn)) ?_
      rw [tb_set _ _ htn]
      have hwl3 := lt_of_get mv
      have mv4 := get_set hwl3 (O.lst (tb n fun i => if i = t then D.ref (a c) else .ref (a i)))
      have mr4 : ∀ i, i < n → Rl (n + 1) (a i) (R i) (h3.set w (O.lst (tb n fun i => if i = t then D.ref (a c) else .ref (a i)))) := fun i hi => (mr i hi).keep (Kp.set (x := (· = w)) rfl _ _) (mx.ne i hi)
      have hpn4 : Rl (n + 1) p (pv R c t) (h3.set w (O.lst (tb n fun i => if i = t then D.ref (a c) else .ref (a i)))) := hpn.keep (Kp.set (x := (· = w)) rfl _ _) (by omega)
      have k4 : Kp (· = v) h (h3.set w (O.lst (tb n fun i => if i = t then D.ref (a c) else .ref (a i)))) := by
        rcases hw with rfl | hw
        · exact k1.trans (Kp.set (x := (· = w)) rfl _ _)
        · exact k1.setNew hw _
      have hll : (h3.set w (O.lst (tb n fun i => if i = t then D.ref (a c) else .ref (a i)))).length = h3.length := List.length_set
      generalize h3.set w (O.lst (tb n fun i => if i = t then D.ref (a c) else .ref (a i))) = h4 at mv4 mr4 hpn4 k4 hll ⊢
      have ea : (tb n fun i => if i = t then D.ref (a c) else .ref (a i)) = tb n fun i => D.ref (if i = t then a c else a i) := tb_congr fun i _ => by split <;> rfl
      rw [ea] at mv4
      have ms : ∀ i, i < n → Rl (n + 1) (if i = t then a c else a i) (sw R c t i) h4 := fun i hi => by
        unfold sw
        by_cases e : i = t
        · rw [if_pos e, if_pos e]; exact mr4 c hc
        · rw [if_neg e, if_neg e]; exact mr4 i hi
      rw [evSs_cons, W_bind, evS_asg]
      simp [-evSs_cons, Ip.ev_lc, evIt]
      rw [it_R mv4, W_ok]
      have hpl := hpn4.lt
      refine W_lcI (I := fun i made h' => Kn h4 h' ∧ ∃ b : Nat → Nat, made = (tb i fun k => D.ref (b k)) ∧ ∀ k, k < i → Rl (n + 1) (b k) (fun j => sw R c t k j - sw R c t k c * pv R c t j) h') (fun i made h' e q hq => by rw [List.mem_singleton.mp hq]; exact Kn.get e.1 mv4) ?_ ?_ ⟨Kp.refl _ _, fun _ => 0, rfl, fun k hk => absurd hk (by omega)⟩
      · rintro i x made h5 hx ⟨k5, b', rfl, hb⟩
        have hi : i < n := by have := (List.getElem?_eq_some_iff.mp hx).1; simpa using this
        rw [tb_get _ hi] at hx
        injection hx with hx; subst hx
        simp [eltO, elt1, asgN, wipeE]
        have ssw : rb ((s + 1) * 2 ^ c - 1) (n + 1) (sw R c t i) := by
          unfold sw
          by_cases e : i = t
          · rw [if_pos e]; exact sz1 c hc
          · rw [if_neg e]; exact sz1 i hi
        refine W_mono (sp_taken F k (n + 1) _ p (by omega) (sw R c t i) (pv R c t) c (by omega) h5 ((ms i hi).kn k5) (hpn4.kn k5) (fun j hj => toBig (ssw.sz hj) (by omega)) (fun j hj => toBig (spv.sz hj) (by omega)) (fun j hj => toBig (sz_mul (ssw.sz (by omega)) (spv.sz hj)) (by omega))) ?_
        rintro d h6 ⟨r', rfl, _, hr', k6⟩
        refine ⟨k5.trans k6, fun k => if k = i then r' else b' k, ?_, fun k hk => ?_⟩
        · rw [tb_succ, tb_congr (f := fun k => D.ref (if k = i then r' else b' k)) (g := fun k => D.ref (b' k)) fun k hk => by rw [if_neg (by omega)]]
          simp
        · by_cases e : k = i
          · subst e
            simp only [if_true]
            exact hr'
          · simp only [if_neg e]
            exact (hb k (by omega)).kn k6
      · rintro made h5 ⟨k5, b', rfl, hb⟩
        simp [-evSs_cons, W_mkL]
        simp at hb
        refine ⟨by simp only [sizeLine_eq]; omega, ?_⟩
        have mv6 := get_new h5 (O.lst (tb n fun k => D.ref (b' k)))
        have hb6 : ∀ i, i < n → Rl (n + 1) (b' i) (fun j => sw R c t i j - sw R c t i c * pv R c t j) (h5 ++ [O.lst (tb n fun k => D.ref (b' k))]) := fun i hi => get_app (hb i hi) _
        have hp6 : Rl (n + 1) p (pv R c t) (h5 ++ [O.lst (tb n fun k => D.ref (b' k))]) := get_app (hpn4.kn k5) _
        have hb5 : ∀ i, i < n → b' i < h5.length := fun i hi => (hb i hi).lt
        have hp5 : p < h5.length := (hpn4.kn k5).lt
        have k6 : Kp (· = v) h (h5 ++ [O.lst (tb n fun k => D.ref (b' k))]) := (k4.trans (k5.mono (by simp))).trans (Kp.app _ _ _)
        have hl5 := (k4.trans (k5.mono (by simp))).1
        generalize h5.length = z at mv6 hb5 hp5 hl5 ⊢
        generalize h5 ++ [O.lst (tb n fun k => D.ref (b' k))] = h6 at mv6 hb6 hp6 k6 ⊢
        rw [evSs_cons, W_bind, evS_asg]
        simp [-evSs_cons]
        refine W_setR mv6 (j := c) (ixN_nat (by simpa using hc)) ?_
        (try rw [evSs_nil, W_ok])
        rw [tb_set _ _ hc]
        have ea2 : (tb n fun i => if i = c then D.ref p else .ref (b' i)) = tb n fun i => D.ref (if i = c then p else b' i) := tb_congr fun i _ => by split <;> rfl
        rw [ea2]
        have hz6 := lt_of_get mv6
        refine ⟨k6.setNew (by omega) _, .inr ⟨z, by omega, rfl, ro R c t, ⟨fun i => if i = c then p else b' i, get_set hz6 _, fun i hi => ?_, fun i hi => ?_⟩, Dn_ro hc htn ht1 hz dn, rg.ro hc htn hz, fun y => (Nu_ro hc htn hz y).trans (nu y), fun i hi => ?_⟩⟩
        · by_cases e : i = c
          · simp only [if_pos e]
            exact (hp6.keep (Kp.set (x := (· = z)) rfl _ _) (by omega)).congr fun j _ => by unfold ro; rw [if_pos e]
          · simp only [if_neg e]
            exact ((hb6 i hi).keep (Kp.set (x := (· = z)) rfl _ _) (by have := hb5 i hi; omega)).congr fun j _ => by unfold ro; rw [if_neg e]
        · have := hb5 i hi
          by_cases e : i = c
          · simp only [if_pos e]; omega
          · simp only [if_neg e]; omega
        · have e2 : (s + 1) * 2 ^ (c + 1) - 1 = 2 * ((s + 1) * 2 ^ c - 1) + 1 := by
            rw [Nat.pow_succ, ← Nat.mul_assoc]; omega
          rw [e2]
          have ssw : rb ((s + 1) * 2 ^ c - 1) (n + 1) (sw R c t i) := by
            unfold sw
            by_cases e : i = t
            · rw [if_pos e]; exact sz1 c hc
            · rw [if_neg e]; exact sz1 i hi
          by_cases e : i = c
          · have : ro R c t i = pv R c t := by funext j; unfold ro; rw [if_pos e]
            rw [this]
            exact spv.mono (by omega)
          · have : ro R c t i = fun j => sw R c t i j - sw R c t i c * pv R c t j := by funext j; unfold ro; rw [if_neg e]
            rw [this]
            exact rb_sub ssw spv (by omega)
  · rintro env h1 ⟨kk, w, R, a, hw, ⟨x2, x3, x4, x5, x6, rfl⟩, mx, dn, rg, nu, sz1⟩
    simp at dn sz1
    simp [Ip.ev_lc, evIt]
    rw [it_R mx.vv, W_ok]
    refine W_lcF (fun i => Fq (R i n)) (fun h2 => h2 = h1) (fun h2 e q hq => by rw [List.mem_singleton.mp hq, e]; exact mx.vv) ?_ ?_ rfl
    · rintro i x h2 hi hx rfl
      simp at hi
      rw [tb_get _ hi] at hx
      injection hx with hx; subst hx
      simp [eltO, elt1, asgN, wipeE]
      refine W_getR (mx.r i hi) (atI_tbn _ (by omega)) ?_
      exact ⟨rfl, rfl⟩
    · rintro h2 rfl
      simp [W_mkL]
      have hpow : (s + 1) * 2 ^ n ≤ (s + 1) * 4096 := Nat.mul_le_mul_left _ (Nat.pow_le_pow_right (n := 2) (by omega) (by omega : n ≤ 12))
      exact ⟨by simp only [sizeLine_eq]; omega, kk.1, fun i => R i n, get_new _ _, fun i hi => ((sz1 i hi).sz (by omega)).mono (by omega), (nu _).mp (Dn_all dn), kk.trans (Kp.app _ _ _)⟩
end
end Ip

/-! Iq, part U: equations and shares (the package's), walked once. -/
namespace Ip
open PySem
section
variable {T : Tb} (F : KR0 T)
include F
theorem sp_equations (k n : Nat) (hn0 : 0 < n) (hn : n ≤ 12) (ls : List (Int × Int)) (hls : ls.length ≤ 1000) (l : Rat) (hl : sz 45 l) {z : Nat} (q : Nat → Rat) (hq : ∀ j, j < n → sz z (q j)) (h : Hh) (hz : z ≤ 1000 := by omega) :
    W (callF T (k + 5) "equations" [Wb n ls, Fq l, Vt n q] h) fun d h' => ∃ (v : Nat) (a : Nat → Nat), d = .ref v ∧ h.length ≤ v ∧ Mx n v (Eq0 n (Pm ls l q)) h' a ∧ Kn h h' := by
  refine W_call F.equations rfl ?_
  unfold w_equations
  rw [evSs_cons, W_bind, evS_asg]
  simp [-evSs_cons]
  rw [evSs_cons, W_bind, evS_asg]
  simp [-evSs_cons, Ip.ev_lc, evIt_bi, -itB_range]
  rw [it_rangeN n (by omega), W_ok]
  refine W_lcF (fun i => Vt n (Pm ls l q i)) (fun h' => Kn h h') (fun h' _ => chkOk_nil h') ?_ ?_ (Kp.refl _ _)
  · rintro i x h' hi hx kk
    simp at hi
    rw [tb_get _ hi] at hx
    injection hx with hx; subst hx
    simp [eltO, elt1, asgN, wipeE]
    refine W_mono (sp_ways F.toKS k n (by omega) ls hls l hl q hq i h' hz) ?_
    rintro d h2 ⟨rfl, k2⟩
    exact ⟨rfl, kk.trans k2⟩
  rintro h1 k1
  simp [-evSs_cons, W_mkL]
  refine ⟨by simp only [sizeLine_eq]; omega, ?_⟩
  have hs := get_new h1 (O.lst (tb n fun i => Vt n (Pm ls l q i)))
  have k2 : Kn h (h1 ++ [O.lst (tb n fun i => Vt n (Pm ls l q i))]) := k1.trans (Kp.app _ _ _)
  generalize h1.length = s at hs ⊢
  generalize h1 ++ [O.lst (tb n fun i => Vt n (Pm ls l q i))] = h2 at hs k2 ⊢
  rw [evSs_cons, W_bind, evS_asg]
  simp [-evSs_cons, W_mkL]
  have hv := get_new h2 (O.lst [])
  have hs3 := get_app hs [O.lst []]
  have k3 : Kn h (h2 ++ [O.lst []]) := k2.trans (Kp.app _ _ _)
  have hsl := lt_of_get hs
  have hl2 := k2.1
  generalize h2.length = v at hv hsl hl2 ⊢
  generalize h2 ++ [O.lst []] = h3 at hv hs3 k3 ⊢
  rw [evSs_cons, W_bind, evS_fr]
  simp [-evSs_cons, evIt_bi, -itB_range]
  rw [show (n : Int) - 1 = ((n - 1 : Nat) : Int) by omega, it_rangeN (n - 1) (by omega), W_ok]
  refine W_frI (I := fun i env h' => (∃ x6 x7 x8, env = [some (Wb n ls), some (Fq l), some (Vt n q), some (.int (n : Nat)), some (.ref s), some (.ref v), x6, x7, x8]) ∧ h'[s]? = some (.lst (tb n fun i => Vt n (Pm ls l q i))) ∧ Kn h h' ∧ ∃ a : Nat → Nat, h'[v]? = some (.lst (tb i fun k => D.ref (a k))) ∧ ∀ k, k < i → Rl (n + 1) (a k) (Eq0 n (Pm ls l q) k) h' ∧ a k ≠ v) (fun _ _ h' _ => chkOk_nil h') ?_ ?_ ⟨⟨_, _, _, rfl⟩, hs3, k3, fun _ => 0, hv, fun k hk => absurd hk (by omega)⟩
  · rintro i x env h4 hx ⟨⟨x6, x7, x8, rfl⟩, hs4, k4, a, hv4, ha⟩
    have hi : i < n - 1 := by have := (List.getElem?_eq_some_iff.mp hx).1; simpa using this
    have hin : i < n := by omega
    rw [tb_get _ hi] at hx
    injection hx with hx; subst hx
    simp [-evSs_cons]
    rw [evSs_cons, W_bind, evS_asg]
    simp [-evSs_cons, Ip.ev_lc, evIt_bi, -itB_range]
    rw [it_rangeN n (by omega), W_ok]
    refine W_lcF (fun j => Fq (Pm ls l q j i)) (fun h' => h' = h4) (fun h' _ => chkOk_nil h') ?_ ?_ rfl
    · rintro j x h' hj hx rfl
      simp at hj
      rw [tb_get _ hj] at hx
      injection hx with hx; subst hx
      simp [eltO, elt1, asgN, wipeE]
      refine W_getR hs4 (atI_tbn _ hj) ?_
      rw [ix_V _ hin, W_ok]
      exact ⟨rfl, rfl⟩
    rintro h' rfl
    simp [-evSs_cons, W_mkL]
    refine ⟨by simp only [sizeLine_eq]; omega, by decide, ?_⟩
    refine W_addL (xs := tb n fun j => Fq (Pm ls l q j i)) (ys := [dNo]) (by simp) (by simp) (by simp; omega) ?_
    rw [show (tb n fun j => Fq (Pm ls l q j i)) ++ [dNo] = tb (n + 1) (fun j => Fq (if j = n then 0 else Pm ls l q j i)) by
      rw [tb_succ, tb_congr (f := fun j => Fq (if j = n then 0 else Pm ls l q j i)) (g := fun j => Fq (Pm ls l q j i)) fun j hj => by rw [if_neg (by omega)]]
      simp only [if_true]; rfl]
    have hw := get_new (h' ++ [O.lst (tb n fun j => Fq (Pm ls l q j i))] ++ [O.lst [dNo]]) (O.lst (tb (n + 1) (fun j => Fq (if j = n then 0 else Pm ls l q j i))))
    have hs5 := get_app (get_app (get_app hs4 [O.lst (tb n fun j => Fq (Pm ls l q j i))]) [O.lst [dNo]]) [O.lst (tb (n + 1) (fun j => Fq (if j = n then 0 else Pm ls l q j i)))]
    have hv5 := get_app (get_app (get_app hv4 [O.lst (tb n fun j => Fq (Pm ls l q j i))]) [O.lst [dNo]]) [O.lst (tb (n + 1) (fun j => Fq (if j = n then 0 else Pm ls l q j i)))]
    have ha5 : ∀ k, k < i → Rl (n + 1) (a k) (Eq0 n (Pm ls l q) k) (h' ++ [O.lst (tb n fun j => Fq (Pm ls l q j i))] ++ [O.lst [dNo]] ++ [O.lst (tb (n + 1) (fun j => Fq (if j = n then 0 else Pm ls l q j i)))]) := fun k hk => get_app (get_app (get_app (ha k hk).1 _) _) _
    have k5 : Kn h (h' ++ [O.lst (tb n fun j => Fq (Pm ls l q j i))] ++ [O.lst [dNo]] ++ [O.lst (tb (n + 1) (fun j => Fq (if j = n then 0 else Pm ls l q j i)))]) := ((k4.trans (Kp.app _ _ _)).trans (Kp.app _ _ _)).trans (Kp.app _ _ _)
    have hwl : h'.length ≤ (h' ++ [O.lst (tb n fun j => Fq (Pm ls l q j i))] ++ [O.lst [dNo]]).length := by simp
    have hal : ∀ k, k < i → a k < h'.length := fun k hk => (ha k hk).1.lt
    have hvl := lt_of_get hv4
    have hsl4 := lt_of_get hs4
    have hl4 := k4.1
    simp only [List.append_assoc, List.cons_append, List.nil_append] at hw hs5 hv5 ha5 k5 hwl ⊢
    generalize (h' ++ [O.lst (tb n fun j => Fq (Pm ls l q j i)), O.lst [dNo]]).length = w at hw hwl ⊢
    generalize h' ++ [O.lst (tb n fun j => Fq (Pm ls l q j i)), O.lst [dNo], O.lst (tb (n + 1) (fun j => Fq (if j = n then 0 else Pm ls l q j i)))] = h5 at hw hs5 hv5 ha5 k5 ⊢
    rw [evSs_cons, W_bind, evS_asg]
    simp [-evSs_cons]
    refine W_getR hw (atI_tbn _ (by omega)) ?_
    rw [if_neg (by omega), show dOne = Fq 1 from rfl, e_less F.toKF (k + 1) (toBig (sz_PmZ hls hl (hq i hin) i) (by omega)) (toBig sz_one (by omega)), W_ok]
    refine W_setR hw (j := i) (ixN_nat (by simp; omega)) ?_
    rw [tb_set _ _ (show i < n + 1 by omega)]
    have hwl5 := lt_of_get hw
    have eE : (tb (n + 1) fun j => if j = i then Fq (Pm ls l q i i - 1) else Fq (if j = n then 0 else Pm ls l q j i)) = tb (n + 1) fun j => Fq (Eq0 n (Pm ls l q) i j) := tb_congr fun j hj => by
      unfold Eq0
      rw [if_neg (by omega : ¬ i + 1 = n)]
      by_cases e : j = i
      · rw [if_pos e, if_neg (by omega), if_pos e, e]
      · rw [if_neg e, if_neg e]
    rw [eE]
    have hw6 := get_set hwl5 (O.lst (tb (n + 1) fun j => Fq (Eq0 n (Pm ls l q) i j)))
    have kw6 : Kp (· = w) h5 (h5.set w (O.lst (tb (n + 1) fun j => Fq (Eq0 n (Pm ls l q) i j)))) := Kp.set (x := (· = w)) rfl _ _
    have hs6 := kw6.get hs5 (by omega)
    have hv6 := kw6.get hv5 (by omega)
    have ha6 : ∀ k, k < i → Rl (n + 1) (a k) (Eq0 n (Pm ls l q) k) (h5.set w (O.lst (tb (n + 1) fun j => Fq (Eq0 n (Pm ls l q) i j)))) := fun k hk => (ha5 k hk).keep kw6 (by have := hal k hk; omega)
    have k6 : Kn h (h5.set w (O.lst (tb (n + 1) fun j => Fq (Eq0 n (Pm ls l q) i j)))) := k5.setNew (by omega) _
    generalize h5.set w (O.lst (tb (n + 1) fun j => Fq (Eq0 n (Pm ls l q) i j))) = h6 at hw6 hs6 hv6 ha6 k6 ⊢
    simp
    rw [W_append h6 hv6]
    have kv7 : Kp (· = v) h6 (h6.set v (O.lst ((tb i fun k => D.ref (a k)) ++ [.ref w]))) := Kp.set (x := (· = v)) rfl _ _
    refine ⟨by simp only [sizeLine_eq, tb_len]; omega, kv7.get hs6 (by omega), k6.setNew (by omega) _, fun k => if k = i then w else a k, ?_, fun k hk => ?_⟩
    · rw [get_set (lt_of_get hv6), tb_succ, tb_congr (f := fun k => D.ref (if k = i then w else a k)) (g := fun k => D.ref (a k)) fun k hk => by rw [if_neg (by omega)]]
      simp
    · by_cases e : k = i
      · subst e
        simp only [if_true]
        exact ⟨Rl.keep (r := w) hw6 kv7 (by omega), by omega⟩
      · simp only [if_neg e]
        exact ⟨(ha6 k (by omega)).keep kv7 (ha k (by omega)).2, (ha k (by omega)).2⟩
  · rintro env h4 ⟨⟨x6, x7, x8, rfl⟩, hs4, k4, a, hv4, ha⟩
    simp at hv4 ha
    rw [nxt_nx, evSs_cons, W_bind, evS_ex]
    simp [-evSs_cons, W_mkL]
    refine ⟨by decide, ?_⟩
    rw [show (n : Int) + 1 = ((n + 1 : Nat) : Int) by push_cast; rfl]
    refine W_mulL (xs := [dOne]) (get_new _ _) (by omega) (by omega) (by simp; omega) ?_
    rw [Int.toNat_natCast, flat_rep]
    have hw := get_new (h4 ++ [O.lst [dOne]]) (O.lst (tb (n + 1) fun _ => dOne))
    have hv5 := get_app (get_app hv4 [O.lst [dOne]]) [O.lst (tb (n + 1) fun _ => dOne)]
    have ha5 : ∀ k, k < n - 1 → Rl (n + 1) (a k) (Eq0 n (Pm ls l q) k) (h4 ++ [O.lst [dOne]] ++ [O.lst (tb (n + 1) fun _ => dOne)]) := fun k hk => get_app (get_app (ha k hk).1 _) _
    have k5 : Kn h (h4 ++ [O.lst [dOne]] ++ [O.lst (tb (n + 1) fun _ => dOne)]) := (k4.trans (Kp.app _ _ _)).trans (Kp.app _ _ _)
    have hwl : h4.length ≤ (h4 ++ [O.lst [dOne]]).length := by simp
    have hal : ∀ k, k < n - 1 → a k < h4.length := fun k hk => (ha k hk).1.lt
    have hvl := lt_of_get hv4
    have hl4 := k4.1
    generalize (h4 ++ [O.lst [dOne]]).length = w at hw hwl ⊢
    generalize h4 ++ [O.lst [dOne]] ++ [O.lst (tb (n + 1) fun _ => dOne)] = h5 at hw hv5 ha5 k5 ⊢
    rw [W_append h5 hv5]
    simp
    have kv6 : Kp (· = v) h5 (h5.set v (O.lst ((tb (n - 1) fun k => D.ref (a k)) ++ [.ref w]))) := Kp.set (x := (· = v)) rfl _ _
    refine ⟨by simp only [sizeLine_eq]; omega, by omega, ⟨fun k => if k + 1 = n then w else a k, ?_, fun i hi => ?_, fun i hi => ?_⟩, k5.setNew (by omega) _⟩
    · rw [get_set (lt_of_get hv5)]
      obtain ⟨m, rfl⟩ : ∃ m, n = m + 1 := ⟨n - 1, by omega⟩
      rw [tb_succ, tb_congr (f := fun k => D.ref (if k + 1 = m + 1 then w else a k)) (g := fun k => D.ref (a k)) fun k hk => by rw [if_neg (by omega)]]
      simp
    · by_cases e : i + 1 = n
      · simp only [if_pos e]
        refine (Rl.keep (r := w) (f := fun _ => 1) (m := n + 1) hw kv6 (by omega)).congr fun j _ => ?_
        unfold Eq0; rw [if_pos e]
      · simp only [if_neg e]
        exact (ha5 i (by omega)).keep kv6 (ha i (by omega)).2
    · by_cases e : i + 1 = n
      · simp only [if_pos e]; omega
      · simp only [if_neg e]; exact (ha i (by omega)).2
/-- shares -/
theorem sp_sharesN {nm : Str} (hN : T nm = some ⟨1, 7, w_solved⟩) (hS : T "shares" = some ⟨3, 3, w_sharesN nm⟩) (k n s : Nat) (hn0 : 0 < n) (hn : n ≤ 12) (hs : s ≤ 3999) (ls : List (Int × Int)) (hls : ls.length ≤ 1000) (l : Rat) (hl : sz 45 l) {z : Nat} (q : Nat → Rat) (hq : ∀ j, j < n → sz z (q j)) {A : Nat → Nat → Rat} (w : Wk n l q A (Pm ls l q)) (cd : CdM n s (Pm ls l q)) (h : Hh) (hz : z ≤ 1000 := by omega) :
    W (callF T (k + 6) "shares" [Wb n ls, Fq l, Vt n q] h) fun d h' => ∃ x : Nat → Rat, d = Vt n x ∧ Sh n (Pm ls l q) x ∧ (∀ i, i < n → sz ((s + 2) * 4096) (x i)) ∧ Kn h h' := by
  refine W_call hS rfl ?_
  simp [w_sharesN]
  refine W_mono (sp_equations F k n hn0 hn ls hls l hl q hq h hz) ?_
  rintro d h1 ⟨v, a, rfl, hv, mx, k1⟩
  refine W_mono (sp_solvedN F hN k n (s + 1) v hn (by omega) _ (w.rg hn0) (rb_Eq0 cd w.p0 w.pl1 hn0) h1 a mx) ?_
  rintro d h2 ⟨r, x, rfl, hr, hx, sx, nu, k2⟩
  rw [bi_tupR h2 hx, W_ok]
  exact ⟨x, rfl, w.sh hn0 nu, fun i hi => (sx i hi).mono (by omega), Kp.inNew k1 k2 hv⟩
end
theorem sp_shares {T : Tb} (F : KR T) (k n s : Nat) (hn0 : 0 < n) (hn : n ≤ 12) (hs : s ≤ 3999) (ls : List (Int × Int)) (hls : ls.length ≤ 1000) (l : Rat) (hl : sz 45 l) {z : Nat} (q : Nat → Rat) (hq : ∀ j, j < n → sz z (q j)) {A : Nat → Nat → Rat} (w : Wk n l q A (Pm ls l q)) (cd : CdM n s (Pm ls l q)) (h : Hh) (hz : z ≤ 1000 := by omega) :
    W (callF T (k + 6) "shares" [Wb n ls, Fq l, Vt n q] h) fun d h' => ∃ x : Nat → Rat, d = Vt n x ∧ Sh n (Pm ls l q) x ∧ (∀ i, i < n → sz ((s + 2) * 4096) (x i)) ∧ Kn h h' := sp_sharesN F.toKR0 F.solved F.shares k n s hn0 hn hs ls hls l hl q hq w cd h hz
/-- there is one row of shares, as the program tells it -/
theorem sh_eq {n : Nat} {l : Rat} {q : Nat → Rat} {A P : Nat → Nat → Rat} (w : Wk n l q A P) {x y : Nat → Rat} (hx : Sh n P x) (hy : Sh n P y) : Vt n x = Vt n y := V_congr (w.sh_only hx hy)
end Ip

/-! Iq, part R: rows of fractions drawn. -/
namespace Ip
open PySem

/-- e: the great numbers' bound -/
def w__law_row (e : Ex) : List Stt := [
  .asg (.var 2) (.call "_law_draw" [.var 0, .int 4]),
  .ite (.cmp .lt (.var 2) (.int 2)) [.ret (.call "_law_leaps" [.var 0, .var 1])] [],
  .asg (.var 3) (.lst []),
  .fr (.var 4) (.bi .range [.var 1]) [.asg (.var 5) (.bin .add (.int 1) (.call "_law_draw" [.var 0, .ix (.lst [.int 9, e]) (.call "_law_draw" [.var 0, .int 2])])), .asg (.var 6) (.bin .sub (.call "_law_draw" [.var 0, .ix (.lst [.int 60, e]) (.call "_law_draw" [.var 0, .int 2])]) (.bin .mul (.int 20) (.bin .sub (.var 2) (.int 2)))), .ex (.mt .append (.var 3) [.call "_law_frac" [.var 6, .var 5]])],
  .ret (.bi .tuple [.var 3])]
abbrev e121 : Ex := .bin .sub (.bin .pow (.int 10) (.int 12)) (.int 1)
abbrev e11 : Ex := .bin .pow (.int 10) (.int 11)
theorem he121 : ∀ C env h P, (W (ev C e121 env h) P ↔ P (.int ((999999999999 : Nat) : Int)) h) := fun C env h P => by
  simp [e121]
theorem he11 : ∀ C env h P, (W (ev C e11 env h) P ↔ P (.int ((100000000000 : Nat) : Int)) h) := fun C env h P => by
  simp [e11]
theorem sp_row {T : Tb} {el : Ex} (F : KW T el) {ml : Nat} (hel : ∀ C env h P, (W (ev C el env h) P ↔ P (.int (ml : Nat)) h)) (hml : 0 < ml) (hml2 : ml < 2 ^ 40) {e : Ex} {m : Nat} (he : ∀ C env h P, (W (ev C e env h) P ↔ P (.int (m : Nat)) h)) (hm : 0 < m) (hm2 : m < 2 ^ 40) (hT : T "_law_row" = some ⟨2, 7, w__law_row e⟩) (k : Nat) (n p : Nat) (hp : 0 < p) (hp2 : p ≤ 12) (h : Hh) (hd : Hd n h) :
    W (callF T (k + 3) "_law_row" [.ref n, .int (p : Nat)] h) fun d h' => ∃ x : Nat → Rat, d = Vt p x ∧ (∀ j, j < p → sz 45 (x j)) ∧ Hd n h' ∧ Kp (· = n) h h' := by
  have hnl := hd.lt
  refine W_call hT rfl ?_
  unfold w__law_row
  rw [evSs_cons, W_bind, evS_asg]
  simp [-evSs_cons]
  refine W_mono (dr F.toKH (k + 1) n 4 (by omega) _ hd) ?_
  rintro d h1 ⟨kd, rfl, hkd, hd1, k1⟩
  rw [evSs_cons, W_bind, evS_ite]
  simp [-evSs_cons]
  refine ⟨fun hlt => ?_, fun hge => ?_⟩
  · rw [evSs_cons, W_bind, evS_ret]
    simp
    refine W_mono (sp_leaps F.toKH hel hml hml2 F.leaps k n p hp hp2 h1 hd1) ?_
    rintro d h2 ⟨q, rfl, _, qcd, hd2, k2⟩
    exact ⟨q, rfl, fun j hj => qcd.sz j hj, hd2, k1.trans k2⟩
  · rw [evSs_cons, W_bind, evS_asg]
    simp [-evSs_cons, W_mkL]
    have hv := get_new h1 (O.lst [])
    have hd2 := hd1.app [O.lst []]
    have k2 := k1.trans (Kp.app _ _ [O.lst []])
    have hl1 := k1.1
    generalize h1.length = v at hv hl1 ⊢
    generalize h1 ++ [O.lst []] = h2 at hv hd2 k2 ⊢
    rw [evSs_cons, W_bind, evS_fr]
    simp [-evSs_cons, -itB_range, evIt_bi]
    rw [it_rangeN p (by omega), W_ok]
    refine W_frI (I := fun i env h' => (∃ a b c, env = [some (.ref n), some (.int (p : Nat)), some (.int (kd : Nat)), some (.ref v), a, b, c]) ∧ (∃ x : Nat → Rat, h'[v]? = some (.lst (tb i fun j => Fq (x j))) ∧ ∀ j, j < i → sz 45 (x j)) ∧ Hd n h' ∧ Kp (· = n) h h') (fun _ _ h' _ => chkOk_nil h') ?_ ?_ ⟨⟨_, _, _, rfl⟩, ⟨fun _ => 0, hv, fun j hj => absurd hj (by omega)⟩, hd2, k2⟩
    · rintro i x env h3 hx ⟨⟨a, b, c, rfl⟩, ⟨x, hv3, hxs⟩, hd3, k3⟩
      have hi : i < p := by have := (List.getElem?_eq_some_iff.mp hx).1; simpa using this
      simp [-evSs_cons]
      rw [evSs_cons, W_bind, evS_asg]
      simp [-evSs_cons, he, W_mkL]
      refine ⟨by decide, ?_⟩
      have hl3 := lt_of_get hv3
      refine W_mono (dr F.toKH (k + 1) n 2 (by omega) _ (hd3.app _)) ?_
      rintro d h4 ⟨r4, rfl, hr4, hd4, k4⟩
      have hv4 := k4.get (get_app hv3 _) (by omega)
      refine W_getR (k4.get (get_new _ _) (by have := hd3.lt; omega)) (d := .int (if r4 = 0 then 9 else (m : Int))) (by rcases r4 with _ | _ | r4 <;> first | rfl | omega) ?_
      refine W_mono (dr F.toKH (k + 1) n _ (by split <;> omega) _ hd4) ?_
      rintro d h5 ⟨r5, rfl, hr5, hd5, k5⟩
      have hv5 := k5.get hv4 (by omega)
      rw [bin_add, W_ok, evSs_cons, W_bind, evS_asg]
      simp [-evSs_cons, he, W_mkL]
      refine ⟨by decide, ?_⟩
      refine W_mono (dr F.toKH (k + 1) n 2 (by omega) _ (hd5.app _)) ?_
      rintro d h6 ⟨r6, rfl, hr6, hd6, k6⟩
      have hv6 := k6.get (get_app hv5 _) (by omega)
      refine W_getR (k6.get (get_new _ _) (by have := hd5.lt; omega)) (d := .int (if r6 = 0 then 60 else (m : Int))) (by rcases r6 with _ | _ | r6 <;> first | rfl | omega) ?_
      refine W_mono (dr F.toKH (k + 1) n _ (by split <;> omega) _ hd6) ?_
      rintro d h7 ⟨r7, rfl, hr7, hd7, k7⟩
      have hv7 := k7.get hv6 (by omega)
      have b5 : r5 < 2 ^ 40 := by revert hr5; split <;> omega
      have b7 : r7 < 2 ^ 40 := by revert hr7; split <;> omega
      simp
      refine ⟨mulokL' (by omega) (by omega), ?_⟩
      rw [sp_frac F.frac (k + 1) _ _ (by omega), W_ok]
      have hsz : sz 45 (Rat.divInt ((r7 : Int) - 20 * ((kd : Int) - 2)) (1 + (r5 : Int))) := sz_divInt (by omega) (by omega) (by omega)
      generalize Rat.divInt ((r7 : Int) - 20 * ((kd : Int) - 2)) (1 + (r5 : Int)) = y at hsz ⊢
      rw [W_append h7 hv7]
      have hl7 := lt_of_get hv7
      refine ⟨by simp only [sizeLine_eq, tb_len]; omega, ⟨fun j => if j = i then y else x j, ?_, fun j hj => ?_⟩, hd7.keep (Kp.set (x := (· = v)) rfl _ _) (by omega), ((((k3.trans ((Kp.app _ _ _).trans k4)).trans k5).trans ((Kp.app _ _ _).trans k6)).trans k7).setNew (n := v) (by omega) _⟩
      · rw [get_set hl7, tb_succ]
        simp only [if_true]
        congr 3
        exact tb_congr fun j hj => by rw [if_neg (by omega)]
      · by_cases e : j = i
        · simp only [if_pos e]; exact hsz
        · simp only [if_neg e]; exact hxs j (by omega)
    · rintro env h3 ⟨⟨a, b, c, rfl⟩, ⟨x, hv3, hxs⟩, hd3, k3⟩
      simp
      rw [bi_tupR h3 hv3]
      simp at hxs
      simp
      exact ⟨x, rfl, hxs, hd3, k3⟩
end Ip

/-! Iq, part S: rows added up, put together by parts; links more than once. -/
namespace Ip
open PySem

def w__law_sum : List Stt := [
  .asg (.var 1) (.tup [.int 0, .int 1]),
  .fr (.var 2) (.var 0) [.asg (.var 1) (.call "_law_plus" [.var 1, .var 2])],
  .ret (.var 1)]
def w__law_both : List Stt := [
  .ret (.bi .tuple [.lc (.bi .range [.bi .len [.var 0]]) (.var 4) (.call "_law_plus" [.call "_law_times" [.var 1, .ix (.var 0) (.var 4)], .call "_law_times" [.var 3, .ix (.var 2) (.var 4)]]) [4]])]
theorem sz_sm12 {n s : Nat} {f : Nat → Rat} (hn : n ≤ 12) (h : ∀ i, i < n → sz s (f i)) (p : Nat) (hp : p ≤ n) : sz (1 + (s + 1) * 12) (sm p f) :=
  (sz_sm h p hp).mono (by have : (s + 1) * p ≤ (s + 1) * 12 := Nat.mul_le_mul_left _ (by omega); omega)
section
variable {T : Tb} (F : KG T)
include F
theorem sp_lsum (hT : T "_law_sum" = some ⟨1, 3, w__law_sum⟩) (k n s : Nat) (hn : n ≤ 12) (hs : s ≤ 4000000) (f : Nat → Rat) (hf : ∀ i, i < n → sz s (f i)) (h : Hh) : callF T (k + 3) "_law_sum" [Vt n f] h = .ok (Fq (sm n f)) h := by
  refine W_iff (W_call hT rfl ?_)
  simp [w__law_sum, evIt, two_size]
  refine W_frI (I := fun i env h' => h' = h ∧ ∃ a, env = [some (Vt n f), some (Fq (sm i f)), a]) (fun _ _ h' _ => chkOk_nil h') ?_ ?_ ⟨rfl, _, rfl⟩
  · rintro i x env h' hx ⟨rfl, a, rfl⟩
    have hi : i < n := by have := (List.getElem?_eq_some_iff.mp hx).1; simpa using this
    rw [tb_get _ hi] at hx
    injection hx with hx; subst hx
    simp
    rw [e_lplus F k (toBig (sz_sm12 hn hf i (by omega)) (by omega)) (toBig (hf i hi) (by omega)), W_ok]
    exact ⟨rfl, rfl⟩
  · rintro env h' ⟨rfl, a, rfl⟩
    simp
theorem sp_lboth (hT : T "_law_both" = some ⟨4, 5, w__law_both⟩) (k n s : Nat) (hn : n ≤ 12) (hs : s ≤ 4000000) (f g : Nat → Rat) (p r : Rat) (hf : ∀ i, i < n → sz s (f i)) (hg : ∀ i, i < n → sz s (g i)) (hp : sz 100 p) (hr : sz 100 r) (h : Hh) :
    W (callF T (k + 3) "_law_both" [Vt n f, Fq p, Vt n g, Fq r] h) fun d h' => d = Vt n (fun i => p * f i + r * g i) ∧ Kn h h' := by
  refine W_call hT rfl ?_
  simp [w__law_both, Ip.ev_lc, evIt_bi, -itB_range]
  rw [it_rangeN n (by omega), W_ok]
  refine W_lcF (fun i => Fq (p * f i + r * g i)) (fun h' => h' = h) (fun h' _ => chkOk_nil h') ?_ ?_ rfl
  · rintro i x h' hi hx rfl
    simp at hi
    rw [tb_get _ hi] at hx
    injection hx with hx; subst hx
    simp [eltO, elt1, asgN, wipeE]
    rw [ix_V f hi, W_ok, e_ltimes F k (toBig hp (by omega)) (toBig (hf i hi) (by omega)), W_ok, ix_V g hi, W_ok, e_ltimes F k (toBig hr (by omega)) (toBig (hg i hi) (by omega)), W_ok, e_lplus F k (toBig (sz_mul hp (hf i hi)) (by omega)) (toBig (sz_mul hr (hg i hi)) (by omega)), W_ok]
    exact ⟨rfl, rfl⟩
  · rintro h' rfl
    simp [W_mkL]
    refine ⟨by simp only [sizeLine_eq]; omega, ?_⟩
    rw [bi_tupR _ (get_new _ _), W_ok]
    exact ⟨rfl, Kp.app _ _ _⟩
end
/-! links in another order, links twice -/
theorem tos_perm {ls ms : List (Int × Int)} (p : ls.Perm ms) (pg : Int) : (tos ls pg).Perm (tos ms pg) := (p.filter _).map _
theorem cn_perm {ls ms : List (Int × Int)} (p : ls.Perm ms) (i j : Nat) : cn ls i j = cn ms i j := (tos_perm p _).count_eq _
theorem dg_perm {ls ms : List (Int × Int)} (p : ls.Perm ms) (i : Nat) : dg ls i = dg ms i := (tos_perm p _).length_eq
theorem Pm_perm {ls ms : List (Int × Int)} (p : ls.Perm ms) (l : Rat) (q : Nat → Rat) (i j : Nat) : Pm ls l q i j = Pm ms l q i j := by
  unfold Pm; rw [cn_perm p, dg_perm p]
theorem tos_append (ls ms : List (Int × Int)) (pg : Int) : tos (ls ++ ms) pg = tos ls pg ++ tos ms pg := by
  unfold tos; rw [List.filter_append, List.map_append]
theorem rt_mul {a b m : Nat} (hm : 0 < m) : rt (m * a) (m * b) = rt a b := by
  unfold rt
  push_cast
  exact Rat.divInt_mul_left (by omega)
theorem tos_many (ls : List (Int × Int)) (pg : Int) : ∀ m, tos (List.replicate m ls).flatten pg = (List.replicate m (tos ls pg)).flatten
  | 0 => rfl
  | m + 1 => by rw [List.replicate_succ, List.flatten_cons, tos_append, tos_many ls pg m, List.replicate_succ, List.flatten_cons]
theorem len_many {α : Type} (xs : List α) : ∀ m, (List.replicate m xs).flatten.length = m * xs.length
  | 0 => by simp
  | m + 1 => by rw [List.replicate_succ, List.flatten_cons, List.length_append, len_many xs m, Nat.add_mul]; omega
theorem count_many (xs : List Int) (x : Int) : ∀ m, (List.replicate m xs).flatten.count x = m * xs.count x
  | 0 => by simp
  | m + 1 => by rw [List.replicate_succ, List.flatten_cons, List.count_append, count_many xs x m, Nat.add_mul]; omega
theorem Pm_many (ls : List (Int × Int)) {m : Nat} (hm : 0 < m) (l : Rat) (q : Nat → Rat) (i j : Nat) : Pm (List.replicate m ls).flatten l q i j = Pm ls l q i j := by
  have e1 : dg (List.replicate m ls).flatten i = m * dg ls i := by unfold dg; rw [tos_many, len_many]
  have e2 : cn (List.replicate m ls).flatten i j = m * cn ls i j := by unfold cn; rw [tos_many, count_many]
  unfold Pm
  rw [e1, e2, rt_mul hm]
  by_cases h : dg ls i = 0
  · rw [if_pos (by rw [h]; rfl), if_pos h]
  · rw [if_neg (by have := Nat.mul_pos hm (Nat.pos_of_ne_zero h); omega), if_neg h]
theorem map_many {α β : Type} (f : α → β) (xs : List α) : ∀ m, (List.replicate m (xs.map f)).flatten = (List.replicate m xs).flatten.map f
  | 0 => rfl
  | m + 1 => by rw [List.replicate_succ, List.flatten_cons, map_many f xs m, List.replicate_succ, List.flatten_cons, List.map_append]
/-- one page's row -/
theorem Fq_flag (b : Bool) : D.tup [.int (if b then 1 else 0), .int 1] = Fq (if b then 1 else 0) := by cases b <;> rfl
theorem stp_one {n k : Nat} (hk : k < n) (P : Nat → Nat → Rat) (j : Nat) : stp n P (fun i => if i = k then 1 else 0) j = P k j := by
  unfold stp
  rw [sm_one hk (by intro i _ hne; simp only [if_neg hne]; grind)]
  simp only [if_true]; grind
theorem Pm_leap1 (ls : List (Int × Int)) (q : Nat → Rat) (i j : Nat) : Pm ls 1 q i j = q j := by
  unfold Pm; split <;> grind
end Ip

/-! Iq, part V: a law of one check for each cell; how far rows are apart. -/
namespace Ip
open PySem

abbrev skelFr (M : Int) (as : List Ex) : Stt := .fr (.tup [.var 1, .var 2]) (.call "_law_cells" [.var 0, .int M]) [.asg (.var 3) (.call "_law_hand" [.var 2, .var 1]), .asg (.var 4) (.call "_law_web" [.var 3, .and (.cmp .eq (.var 1) (.int 0)) (.call "_law_great" [.var 0])]), .ite (.not (.call "_law_right" as)) [.ret (.bl false)] []]
/-- a law of one check for each cell, the hand handed on -/
theorem law_skel {T : Tb} {e : Ex} {m : Nat} (K : KW0 T e) (he : ∀ C env h P, (W (ev C e env h) P ↔ P (.int (m : Nat)) h)) (hm : 0 < m) (hm2 : m < 2 ^ 40) (M : Int) (hM : 0 ≤ M)
    (hT : T "law" = some ⟨1, 5, [skelFr M [.var 3, .var 4, .call "_law_leap" [.var 3], .call "_law_leaps" [.var 3, .ix (.var 4) (.int 0)]], .ret (.bl true)]⟩)
    (right : ∀ (n m : Nat) (ls : List (Int × Int)), WebOk m ls → ls.Pairwise (fun a b => leP a b = true) → ∀ (l : Rat), LeapOk l → ∀ (q : Nat → Rat), LeapsOk m q → CdR m q → ∀ (h : Hh), Hd n h → W (callF T 11 "_law_right" [.ref n, Wb m ls, Fq l, Vt m q] h) fun d h' => d = .bl true ∧ Kp (· = n) h h') :
    ∀ ns : List Int, ns.length ≤ 63 → ∃ h', callF T 12 "law" [.frz (ns.map D.int)] [] = .ok (.bl true) h' := by
  intro ns hl
  refine law_of hT ns ?_
  rw [evSs_cons, W_bind]
  refine cells_for K.cells 10 ns hl M hM (I := fun env => ∃ a1 a2 a3 a4, env = [some (.frz (ns.map D.int)), a1, a2, a3, a4]) ⟨_, _, _, _, rfl⟩ ?_ ?_
  · rintro i c env h ha hb ⟨a1, a2, a3, a4, rfl⟩
    simp only [List.set_cons_zero, List.set_cons_succ]
    rw [evSs_cons, W_bind, evS_asg]
    simp [-evSs_cons]
    refine W_mono (sp_hand K.hand 10 c i ha (by omega) h) ?_
    rintro x h1 ⟨n, rfl, en, hd1, k1⟩
    rw [evSs_cons, W_bind, evS_asg]
    obtain ⟨g, eg⟩ := W_great K.toKH K.great 10 ns i [some (.int c), some (.ref n), a4] h1
    simp [-evSs_cons, -ev_and, eg]
    refine W_mono (sp_web K.toKH K.web 9 n g h1 hd1) ?_
    rintro x h2 ⟨p, ls, rfl, ok, sorted, hd2, k2⟩
    rw [evSs_cons, W_bind, evS_ite]
    simp [-evSs_cons]
    refine W_mono (sp_leap K.toKH K.leap 9 n h2 hd2) ?_
    rintro x h3 ⟨l, rfl, lok, hd3, k3⟩
    refine W_mono (sp_leaps K.toKH he hm hm2 K.leaps 9 n p ok.n0 ok.n1 h3 hd3) ?_
    rintro x h4 ⟨q, rfl, qok, qcd, hd4, k4⟩
    refine W_mono (right n p ls ok sorted l lok q qok qcd h4 hd4) ?_
    rintro x h5 ⟨rfl, k5⟩
    simp
    exact Kn.ofHand k1 (((k2.trans k3).trans k4).trans k5) (by omega)
  · rintro env h ⟨a1, a2, a3, a4, rfl⟩
    simp
/-- the same, the hand not handed on -/
theorem law_skel' {T : Tb} {e : Ex} {m : Nat} (K : KW0 T e) (he : ∀ C env h P, (W (ev C e env h) P ↔ P (.int (m : Nat)) h)) (hm : 0 < m) (hm2 : m < 2 ^ 40) (M : Int) (hM : 0 ≤ M)
    (hT : T "law" = some ⟨1, 5, [skelFr M [.var 4, .call "_law_leap" [.var 3], .call "_law_leaps" [.var 3, .ix (.var 4) (.int 0)]], .ret (.bl true)]⟩)
    (right : ∀ (m : Nat) (ls : List (Int × Int)), WebOk m ls → ls.Pairwise (fun a b => leP a b = true) → ∀ (l : Rat), LeapOk l → ∀ (q : Nat → Rat), LeapsOk m q → CdR m q → ∀ (h : Hh), W (callF T 11 "_law_right" [Wb m ls, Fq l, Vt m q] h) fun d h' => d = .bl true ∧ Kn h h') :
    ∀ ns : List Int, ns.length ≤ 63 → ∃ h', callF T 12 "law" [.frz (ns.map D.int)] [] = .ok (.bl true) h' := by
  intro ns hl
  refine law_of hT ns ?_
  rw [evSs_cons, W_bind]
  refine cells_for K.cells 10 ns hl M hM (I := fun env => ∃ a1 a2 a3 a4, env = [some (.frz (ns.map D.int)), a1, a2, a3, a4]) ⟨_, _, _, _, rfl⟩ ?_ ?_
  · rintro i c env h ha hb ⟨a1, a2, a3, a4, rfl⟩
    simp only [List.set_cons_zero, List.set_cons_succ]
    rw [evSs_cons, W_bind, evS_asg]
    simp [-evSs_cons]
    refine W_mono (sp_hand K.hand 10 c i ha (by omega) h) ?_
    rintro x h1 ⟨n, rfl, en, hd1, k1⟩
    rw [evSs_cons, W_bind, evS_asg]
    obtain ⟨g, eg⟩ := W_great K.toKH K.great 10 ns i [some (.int c), some (.ref n), a4] h1
    simp [-evSs_cons, -ev_and, eg]
    refine W_mono (sp_web K.toKH K.web 9 n g h1 hd1) ?_
    rintro x h2 ⟨p, ls, rfl, ok, sorted, hd2, k2⟩
    rw [evSs_cons, W_bind, evS_ite]
    simp [-evSs_cons]
    refine W_mono (sp_leap K.toKH K.leap 9 n h2 hd2) ?_
    rintro x h3 ⟨l, rfl, lok, hd3, k3⟩
    refine W_mono (sp_leaps K.toKH he hm hm2 K.leaps 9 n p ok.n0 ok.n1 h3 hd3) ?_
    rintro x h4 ⟨q, rfl, qok, qcd, hd4, k4⟩
    refine W_mono (right p ls ok sorted l lok q qok qcd h4) ?_
    rintro x h5 ⟨rfl, k5⟩
    simp
    exact (Kn.ofHand k1 ((k2.trans k3).trans k4) (by omega)).trans k5
  · rintro env h ⟨a1, a2, a3, a4, rfl⟩
    simp
/-- what a web and leaps are to be, together -/
structure Wo (m : Nat) (ls : List (Int × Int)) (l : Rat) (q : Nat → Rat) : Prop where
  web : WebOk m ls
  leap : LeapOk l
  leaps : LeapsOk m q
  cd : CdR m q
namespace Wo
variable {m : Nat} {ls : List (Int × Int)} {l : Rat} {q : Nat → Rat} (w : Wo m ls l q)
include w
theorem wk : Wk m l q (Am ls q) (Pm ls l q) := wk_of w.web w.leap.pos w.leap.le w.leaps
theorem hq : ∀ j, j < m → sz 60 (q j) := fun j hj => (w.cd.sz j hj).mono (by omega)
theorem hP : ∀ i j, i < m → j < m → sz 180 (Pm ls l q i j) := fun i j _ hj => sz_Pm (by have := w.web.len; omega) w.leap.size (w.hq j hj) i
/-- shares by the program -/
theorem shares {T : Tb} (F : KR T) (k : Nat) (h : Hh) : W (callF T (k + 6) "shares" [Wb m ls, Fq l, Vt m q] h) fun d h' => ∃ x : Nat → Rat, d = Vt m x ∧ Sh m (Pm ls l q) x ∧ (∀ i, i < m → sz 830000 (x i)) ∧ Kn h h' := by
  refine W_mono (sp_shares F k m 200 w.web.n0 w.web.n1 (by omega) ls (by have := w.web.len; omega) l w.leap.size q w.hq w.wk (CdM_Pm w.web.len w.leap.size w.cd) h) ?_
  rintro d h' ⟨x, rfl, sh, sx, kk⟩
  exact ⟨x, rfl, sh, fun i hi => (sx i hi).mono (by omega), kk⟩
theorem sharesN {T : Tb} (F : KR0 T) {nm : Str} (hN : T nm = some ⟨1, 7, w_solved⟩) (hS : T "shares" = some ⟨3, 3, w_sharesN nm⟩) (k : Nat) (h : Hh) : W (callF T (k + 6) "shares" [Wb m ls, Fq l, Vt m q] h) fun d h' => ∃ x : Nat → Rat, d = Vt m x ∧ Sh m (Pm ls l q) x ∧ (∀ i, i < m → sz 830000 (x i)) ∧ Kn h h' := by
  refine W_mono (sp_sharesN F hN hS k m 200 w.web.n0 w.web.n1 (by omega) ls (by have := w.web.len; omega) l w.leap.size q w.hq w.wk (CdM_Pm w.web.len w.leap.size w.cd) h) ?_
  rintro d h' ⟨x, rfl, sh, sx, kk⟩
  exact ⟨x, rfl, sh, fun i hi => (sx i hi).mono (by omega), kk⟩
theorem ways {T : Tb} (F : KS T) (k : Nat) (pg : Nat) (h : Hh) : W (callF T (k + 4) "ways" [Wb m ls, Fq l, Vt m q, .int (pg : Nat)] h) fun d h' => d = Vt m (Pm ls l q pg) ∧ Kn h h' :=
  sp_ways F k m (by have := w.web.n1; omega) ls (by have := w.web.len; omega) l w.leap.size q w.hq pg h
theorem behind {T : Tb} (F : KB T) (k : Nat) {s : Nat} (hs : s ≤ 3000000) (x : Nat → Rat) (hx : ∀ i, i < m → sz s (x i)) (h : Hh) : W (callF T (k + 5) "behind" [Wb m ls, Fq l, Vt m q, Vt m x] h) fun d h' => d = Vt m (stp m (Pm ls l q) x) ∧ Kn h h' :=
  sp_behind F k m (by have := w.web.n1; omega) ls (by have := w.web.len; omega) l w.leap.size q w.hq x (Bh.of (t := 180) w.web.n1 (by omega) hx w.hP) h
theorem sz_stp {s : Nat} {x : Nat → Rat} (hx : ∀ i, i < m → sz s (x i)) : ∀ j, j < m → sz (1 + (s + 181) * 12) (stp m (Pm ls l q) x j) := fun j hj =>
  (sz_sm12 w.web.n1 (fun i hi => sz_mul (hx i hi) (w.hP i j hi hj)) m (Nat.le_refl _)).mono (by omega)
end Wo
/-! how far apart -/
def w__law_apart : List Stt := [
  .asg (.var 2) (.tup [.int 0, .int 1]),
  .fr (.tup [.var 3, .var 4]) (.bi .zip [.var 0, .var 1]) [.asg (.var 5) (.bin .sub (.bin .mul (.ix (.var 3) (.int 0)) (.ix (.var 4) (.int 1))) (.bin .mul (.ix (.var 4) (.int 0)) (.ix (.var 3) (.int 1)))), .asg (.var 2) (.call "_law_plus" [.var 2, .call "_law_frac" [.bi .abs [.var 5], .bin .mul (.ix (.var 3) (.int 1)) (.ix (.var 4) (.int 1))]])],
  .ret (.var 2)]
theorem divInt_neg_iff {a b : Int} (hb : 0 < b) : Rat.divInt a b < 0 ↔ a < 0 := by
  constructor
  · intro h
    refine Classical.byContradiction fun hn => ?_
    have := Rat.divInt_nonneg (a := a) (b := b) (by omega) (by omega)
    grind
  · intro h
    have h1 : 0 ≤ Rat.divInt (-a) b := Rat.divInt_nonneg (by omega) (by omega)
    have e : Rat.divInt (-a) b = - Rat.divInt a b := by rw [Rat.neg_divInt]
    have h2 : Rat.divInt a b ≠ 0 := fun z => by
      obtain ⟨g, hg, e1, e2⟩ := divInt_parts a b hb
      rw [z] at e1
      have e3 : (0 : Rat).num = 0 := rfl
      rw [e3] at e1
      omega
    rw [e] at h1
    grind
theorem ab_divInt {a b : Int} (hb : 0 < b) : Rat.divInt (a.natAbs : Int) b = ab (Rat.divInt a b) := by
  unfold ab
  by_cases h : a < 0
  · rw [if_pos ((divInt_neg_iff hb).mpr h), Rat.neg_divInt]
    congr 1; omega
  · rw [if_neg (fun z => h ((divInt_neg_iff hb).mp z))]
    congr 1; omega
theorem sz_ab {s : Nat} {q : Rat} (h : sz s q) : sz s (ab q) := by
  unfold ab
  split
  · exact ⟨by rw [Rat.neg_num, Int.natAbs_neg]; exact h.1, by rw [Rat.neg_den]; exact h.2⟩
  · exact h
theorem sp_lapart {T : Tb} (F : KG T) (hT : T "_law_apart" = some ⟨2, 6, w__law_apart⟩) (k n s : Nat) (hn : n ≤ 12) (hs : s ≤ 2000000) (f g : Nat → Rat) (hf : ∀ i, i < n → sz s (f i)) (hg : ∀ i, i < n → sz s (g i)) (h : Hh) :
    callF T (k + 3) "_law_apart" [Vt n f, Vt n g] h = .ok (Fq (n1 n fun i => f i - g i)) h := by
  refine W_iff (W_call hT rfl ?_)
  simp [w__law_apart, evIt_bi, two_size]
  rw [it_zipV, W_ok]
  have sd : ∀ i, i < n → sz (2 * s + 1) (ab (f i - g i)) := fun i hi => sz_ab ((sz_sub (hf i hi) (hg i hi)).mono (by omega))
  refine W_frI (I := fun i env h' => h' = h ∧ ∃ a b c, env = [some (Vt n f), some (Vt n g), some (Fq (sm i fun i => ab (f i - g i))), a, b, c]) (fun _ _ h' _ => chkOk_nil h') ?_ ?_ ⟨rfl, _, _, _, rfl⟩
  · rintro i x env h' hx ⟨rfl, a, b, c, rfl⟩
    have hi : i < n := by have := (List.getElem?_eq_some_iff.mp hx).1; simpa using this
    rw [tb_get _ hi] at hx
    injection hx with hx; subst hx
    obtain ⟨m1, m2, m3, _⟩ := muls (hf i hi) (hg i hi) (by omega)
    simp [m1, m2, m3]
    rw [abs_eq, sp_frac F.frac (k + 1) _ _ (Int.mul_pos (den_pos' _) (den_pos' _)), W_ok, ab_divInt (Int.mul_pos (den_pos' _) (den_pos' _)), ← sub_eq]
    rw [e_lplus F k (toBig (sz_sm12 hn sd i (by omega)) (by omega)) (toBig (sd i hi) (by omega)), W_ok]
    exact ⟨rfl, rfl⟩
  · rintro env h' ⟨rfl, a, b, c, rfl⟩
    simp
    rfl
end Ip

/-! Iq, part X: are_shares; rows and links as tuples and lists; shares that are known. -/
namespace Ip
open PySem

def w_is_whole : List Stt := [
  .ret (.and (.bi .isinst [.var 0, .con (.ty "int")]) (.not (.bi .isinst [.var 0, .con (.ty "bool")])))]
def w_is_fraction : List Stt := [
  .ite (.or (.not (.bi .isinst [.var 0, .con (.ty "tuple")])) (.or (.cmp .ne (.bi .len [.var 0]) (.int 2)) (.or (.not (.call "is_whole" [.ix (.var 0) (.int 0)])) (.not (.call "is_whole" [.ix (.var 0) (.int 1)]))))) [.ret (.bl false)] [],
  .ret (.and (.cmp .ge (.ix (.var 0) (.int 1)) (.int 1)) (.cmp .eq (.call "common" [.ix (.var 0) (.int 0), .ix (.var 0) (.int 1)]) (.int 1)))]
def w_are_shares : List Stt := [
  .ite (.or (.not (.bi .isinst [.var 3, .con (.ty "tuple")])) (.cmp .ne (.bi .len [.var 3]) (.ix (.var 0) (.int 0)))) [.ret (.bl false)] [],
  .asg (.var 4) (.con dNo),
  .fr (.var 5) (.var 3) [.ite (.or (.not (.call "is_fraction" [.var 5])) (.cmp .lt (.ix (.var 5) (.int 0)) (.int 0))) [.ret (.bl false)] [], .asg (.var 4) (.call "plus" [.var 4, .var 5])],
  .ret (.and (.cmp .eq (.var 4) (.con dOne)) (.cmp .eq (.call "behind" [.var 0, .var 1, .var 2, .var 3]) (.var 3)))]
structure KQ (T : Tb) : Prop extends KR T, KB T where
  whole : T "is_whole" = some ⟨1, 1, w_is_whole⟩
  isfr : T "is_fraction" = some ⟨1, 1, w_is_fraction⟩
  areShares : T "are_shares" = some ⟨4, 6, w_are_shares⟩
section
variable {T : Tb} (F : KQ T)
include F
theorem e_isfr (k : Nat) (q : Rat) (h : Hh) : callF T (k + 2) "is_fraction" [Fq q] h = .ok (.bl true) h := by
  have wh : ∀ (i : Int), callF T (k + 1) "is_whole" [.int i] h = .ok (.bl true) h := fun i => by
    refine W_iff (W_call F.whole rfl ?_)
    simp [w_is_whole]
  refine W_iff (W_call F.isfr rfl ?_)
  have hd := den_pos' q
  simp [w_is_fraction, wh]
  have hc : Int.gcd q.num (q.den : Int) = 1 := q.reduced
  simp [sp_common F.common, hc]
  omega
/-- shares are let by -/
theorem sp_are {m : Nat} {ls : List (Int × Int)} {l : Rat} {q : Nat → Rat} (w : Wo m ls l q) (k : Nat) {x : Nat → Rat} (sh : Sh m (Pm ls l q) x) {s : Nat} (hs : s ≤ 3000000) (sx : ∀ i, i < m → sz s (x i)) (h : Hh) :
    W (callF T (k + 6) "are_shares" [Wb m ls, Fq l, Vt m q, Vt m x] h) fun d h' => d = .bl true ∧ Kn h h' := by
  have hm12 := w.web.n1
  have nn := w.wk.pos sh.one sh.own
  refine W_call F.areShares rfl ?_
  unfold w_are_shares
  rw [evSs_cons, W_bind, evS_ite]
  simp [-evSs_cons]
  (try rw [evSs_nil, W_ok, nxt_nx])
  rw [evSs_cons, W_bind, evS_asg]
  simp [-evSs_cons]
  rw [evSs_cons, W_bind, evS_fr]
  simp [-evSs_cons, evIt]
  refine W_frI (I := fun i env h' => (∃ a, env = [some (Wb m ls), some (Fq l), some (Vt m q), some (Vt m x), some (Fq (sm i x)), a]) ∧ h' = h) (fun _ _ h' _ => chkOk_nil h') ?_ ?_ ⟨⟨_, rfl⟩, rfl⟩
  · rintro i y env h2 hx ⟨⟨a, rfl⟩, rfl⟩
    have hi : i < m := by have := (List.getElem?_eq_some_iff.mp hx).1; simpa using this
    rw [tb_get _ hi] at hx
    injection hx with hx; subst hx
    simp
    rw [e_isfr F (k + 3), W_ok]
    have := Rat.num_nonneg.mpr (nn i hi)
    simp [show ¬ (x i).num < 0 by omega]
    rw [e_plus F.toKF (k + 2) (toBig (sz_sm12 hm12 sx i (by omega)) (by omega)) (toBig (sx i hi) (by omega)), W_ok]
    exact ⟨nn i hi, fun _ => ⟨rfl, rfl⟩⟩
  · rintro env h2 ⟨⟨a, rfl⟩, rfl⟩
    simp
    rw [sh.one, show dOne = Fq 1 from rfl, cmp_eqG h2 (G_Fq _ _) (G_Fq _ _), W_ok, asB_bl, W_ok]
    simp
    refine W_mono (w.behind F.toKB k hs x sx h2) ?_
    rintro d h3 ⟨rfl, k3⟩
    rw [V_congr sh.own, cmp_eqG h3 (G_V _ _) (G_V _ _), W_ok]
    exact ⟨by simp, k3⟩
end
/-- a web of links that are told one by one -/
theorem Wb_tup (n : Nat) (ls : List (Int × Int)) : D.tup [.int (n : Nat), .tup (ls.map fun p => D.tup [.int p.1, .int p.2])] = Wb n ls := rfl
theorem Pm_none (l : Rat) (q : Nat → Rat) (i j : Nat) : Pm [] l q i j = q j := by unfold Pm; exact if_pos rfl
theorem stp_q {n : Nat} {P : Nat → Nat → Rat} {q x : Nat → Rat} (hP : ∀ i j, i < n → j < n → P i j = q j) : ∀ j, j < n → stp n P x j = sm n x * q j := fun j hj => by
  unfold stp
  rw [sm_congr (g := fun i => x i * q j) fun i hi => by rw [hP i j hi hj], sm_mul']
end Ip

/-! Ir, part A: what the laws k38 to k49 draw, walked once. -/
namespace Ip
open PySem

def d__law_are_fractions : List Stt := [
  .ite (.or (.not (.bi .isinst [.var 0, .con (.ty "tuple")])) (.cmp .ne (.bi .len [.var 0]) (.var 1))) [.ret (.bl false)] [],
  .fr (.var 2) (.var 0) [.ite (.or (.not (.bi .isinst [.var 2, .con (.ty "tuple")])) (.or (.cmp .ne (.bi .len [.var 2]) (.int 2)) (.or (.bi .isinst [.ix (.var 2) (.int 0), .con (.ty "bool")]) (.bi .isinst [.ix (.var 2) (.int 1), .con (.ty "bool")])))) [.ret (.bl false)] [], .ite (.or (.not (.bi .isinst [.ix (.var 2) (.int 0), .con (.ty "int")])) (.or (.not (.bi .isinst [.ix (.var 2) (.int 1), .con (.ty "int")])) (.cmp .lt (.ix (.var 2) (.int 1)) (.int 1)))) [.ret (.bl false)] [], .ite (.cmp .ne (.call "_law_fraction" [.ix (.var 2) (.int 0), .ix (.var 2) (.int 1)]) (.var 2)) [.ret (.bl false)] []],
  .ret (.bl true)]
def d__law_web : List Stt := [
  .asg (.var 1) (.bin .add (.int 1) (.call "_law_take" [.var 0, .int 5])),
  .ite (.cmp .eq (.call "_law_take" [.var 0, .int 4]) (.int 1)) [.asg (.var 1) (.bin .add (.int 1) (.call "_law_take" [.var 0, .int 12]))] [],
  .asg (.var 2) (.lst []),
  .fr (.var 3) (.bi .range [.ix (.lst [.call "_law_take" [.var 0, .bin .add (.bin .mul (.int 2) (.var 1)) (.int 1)], .call "_law_take" [.var 0, .int 61]]) (.bi .int [.cmp .eq (.call "_law_take" [.var 0, .int 8]) (.int 1)])]) [.ex (.mt .append (.var 2) [.tup [.bin .mod (.call "_law_take" [.var 0, .int 144]) (.var 1), .bin .mod (.call "_law_take" [.var 0, .int 144]) (.var 1)]])],
  .ret (.tup [.var 1, .bi .tuple [.bi .sorted [.var 2]]])]
def d__law_leap : List Stt := [
  .asg (.var 1) (.ix (.lst [.int 2, .int 7, .int 100, .bin .sub (.bin .pow (.int 10) (.int 12)) (.int 1)]) (.call "_law_take" [.var 0, .int 4])),
  .asg (.var 2) (.bin .mul (.call "_law_take" [.var 0, .int 1000]) (.bin .pow (.int 10) (.int 9))),
  .asg (.var 2) (.bin .add (.var 2) (.bin .mul (.call "_law_take" [.var 0, .int 1000]) (.bin .pow (.int 10) (.int 5)))),
  .asg (.var 2) (.bin .add (.int 1) (.bin .mod (.bin .add (.var 2) (.call "_law_take" [.var 0, .int 1000])) (.var 1))),
  .ret (.ix (.lst [.tup [.int 1, .int 2], .tup [.int 1, .int 1], .tup [.int 3, .int 20], .call "_law_fraction" [.var 2, .var 1]]) (.call "_law_take" [.var 0, .int 4]))]
def d__law_leaps : List Stt := [
  .asg (.var 2) (.call "_law_take" [.var 0, .int 3]),
  .asg (.var 3) (.bin .mul (.lst [.int 1]) (.var 1)),
  .ite (.cmp .eq (.var 2) (.int 1)) [.asg (.var 3) (.bin .mul (.lst [.int 0]) (.var 1)), .asg (.ix (.var 3) (.call "_law_take" [.var 0, .var 1])) (.int 1)] [],
  .ite (.cmp .eq (.var 2) (.int 2)) [.asg (.var 3) (.lc (.bi .range [.var 1]) (.var 4) (.call "_law_take" [.var 0, .int 4]) [4]), .asg (.ix (.var 3) (.call "_law_take" [.var 0, .var 1])) (.bin .add (.int 1) (.call "_law_take" [.var 0, .int 99])), .ite (.and (.cmp .lt (.var 1) (.int 7)) (.cmp .eq (.call "_law_take" [.var 0, .int 4]) (.int 1))) [.asg (.var 3) (.lc (.bi .enumerate [.var 3]) (.tup [.var 5, .var 6]) (.bin .add (.bin .mul (.var 6) (.bin .pow (.int 10) (.int 9))) (.var 5)) [5, 6])] []] [],
  .ret (.bi .tuple [.lc (.var 3) (.var 6) (.call "_law_fraction" [.var 6, .bi .sum [.var 3]]) [6]])]
def d__law_ways : List Stt := [
  .asg (.var 4) (.lcIf (.ix (.var 0) (.int 1)) (.tup [.var 8, .var 9]) (.cmp .eq (.var 8) (.var 3)) (.var 9) [8, 9]),
  .ite (.cmp .eq (.var 4) (.lst [])) [.ret (.bi .list [.var 2])] [],
  .asg (.var 5) (.lst []),
  .fr (.var 6) (.bi .range [.ix (.var 0) (.int 0)]) [.asg (.var 7) (.call "_law_product" [.call "_law_rest" [.tup [.int 1, .int 1], .var 1], .call "_law_fraction" [.mt .count (.var 4) [.var 6], .bi .len [.var 4]]]), .ex (.mt .append (.var 5) [.call "_law_sum" [.call "_law_product" [.var 1, .ix (.var 2) (.var 6)], .var 7]])],
  .ret (.var 5)]
def d__law_behind : List Stt := [
  .asg (.var 4) (.bin .mul (.lst [.tup [.int 0, .int 1]]) (.ix (.var 0) (.int 0))),
  .fr (.var 5) (.bi .range [.ix (.var 0) (.int 0)]) [.asg (.var 6) (.call "_law_ways" [.var 0, .var 1, .var 2, .var 5]), .asg (.var 4) (.lc (.bi .zip [.var 4, .var 6]) (.tup [.var 7, .var 8]) (.call "_law_sum" [.var 7, .call "_law_product" [.ix (.var 3) (.var 5), .var 8]]) [7, 8])],
  .ret (.var 4)]
def d__law_any_row : List Stt := [
  .asg (.var 2) (.lst []),
  .fr (.var 3) (.bi .range [.var 1]) [.asg (.var 4) (.ix (.lst [.int 1, .int 6, .int 999, .bin .sub (.bin .pow (.int 10) (.int 12)) (.int 11)]) (.call "_law_take" [.var 0, .int 4])), .asg (.var 5) (.ix (.lst [.int 0, .bin .sub (.call "_law_take" [.var 0, .int 1000]) (.int 500), .bin .add (.bin .mul (.call "_law_take" [.var 0, .int 1000]) (.bin .pow (.int 10) (.int 9))) (.int 7)]) (.call "_law_take" [.var 0, .int 3])), .ex (.mt .append (.var 2) [.call "_law_fraction" [.var 5, .var 4]])],
  .ret (.bi .tuple [.var 2])]
def d__law_full_row : List Stt := [
  .asg (.var 2) (.lc (.bi .range [.var 1]) (.var 3) (.ix (.lst [.int 0, .call "_law_take" [.var 0, .int 9], .call "_law_take" [.var 0, .int 1000]]) (.call "_law_take" [.var 0, .int 3])) [3]),
  .asg (.ix (.var 2) (.call "_law_take" [.var 0, .var 1])) (.bin .add (.int 1) (.call "_law_take" [.var 0, .int 99])),
  .ret (.bi .tuple [.lc (.var 2) (.var 4) (.call "_law_fraction" [.var 4, .bi .sum [.var 2]]) [4]])]
/-- the laws' draws and fractions stand in the table -/
structure KD (T : Tb) : Prop where
  take : T "_law_take" = some ⟨2, 2, bdTake⟩
  fr : T "_law_fraction" = some ⟨2, 4, bdFraction⟩
  sum : T "_law_sum" = some ⟨2, 2, bdSum⟩
  rest : T "_law_rest" = some ⟨2, 2, bdRest⟩
  prod : T "_law_product" = some ⟨2, 2, bdProduct⟩
theorem Dr.keep {n : Nat} {h h' : Hh} {x : Nat → Prop} (hd : Dr n h) (k : Kp x h h') (hx : ¬ x n) : Dr n h' := by
  obtain ⟨ds, hn⟩ := hd
  exact ⟨ds, k.get hn hx⟩
section
variable {T : Tb} (F : KD T)
include F
theorem tk (k : Nat) (n : Nat) (m : Int) (hm : 0 < m) (h : Hh) (hd : Dr n h) :
    W (callF T (k + 1) "_law_take" [.ref n, .int m] h) fun d h' => ∃ r : Nat, d = .int (r : Nat) ∧ (r : Int) < m ∧ Dr n h' ∧ Kp (· = n) h h' := by
  refine W_mono (sp_take F.take k n m hm h hd) ?_
  rintro d h' ⟨r, rfl, r0, r1, hd, kk⟩
  exact ⟨r.toNat, by rw [Int.toNat_of_nonneg r0], by omega, hd, kk⟩
section
variable (k : Nat) {p q : Rat} (hp : sz big p) (hq : sz big q) (h : Hh)
include hp hq
theorem e_dsum : callF T (k + 2) "_law_sum" [Fq p, Fq q] h = .ok (Fq (p + q)) h := sp_sum F.fr k hp hq (by decide) h F.sum
theorem e_drest : callF T (k + 2) "_law_rest" [Fq p, Fq q] h = .ok (Fq (p - q)) h := sp_rest F.fr k hp hq (by decide) h F.rest
theorem e_dprod : callF T (k + 2) "_law_product" [Fq p, Fq q] h = .ok (Fq (p * q)) h := sp_product F.fr k hp hq (by decide) h F.prod
end
/-- a web is drawn -/
theorem sp_dweb (hT : T "_law_web" = some ⟨1, 4, d__law_web⟩) (k : Nat) (n : Nat) (h : Hh) (hd : Dr n h) :
    W (callF T (k + 2) "_law_web" [.ref n] h) fun d h' => ∃ (m : Nat) (ls : List (Int × Int)), d = Wb m ls ∧ WebOk m ls ∧ Dr n h' ∧ Kp (· = n) h h' := by
  have hnl := hd.lt
  refine W_call hT rfl ?_
  unfold d__law_web
  rw [evSs_cons, W_bind, evS_asg]
  simp [-evSs_cons]
  refine W_mono (tk F k n 5 (by omega) _ hd) ?_
  rintro d h1 ⟨r, rfl, hr, hd1, k1⟩
  rw [bin_add, W_ok, show (1 + (r : Int)) = ((1 + r : Nat) : Int) by omega]
  rw [evSs_cons, W_bind, evS_ite]
  simp [-evSs_cons]
  refine W_mono (tk F k n 4 (by omega) _ hd1) ?_
  rintro d h2 ⟨r2, rfl, hr2, hd2, k2⟩
  have k02 := k1.trans k2
  suffices key : ∀ (pg : Nat) (h3 : Hh), 0 < pg → pg ≤ 12 → Dr n h3 → Kp (· = n) h h3 → W (evSs (callF T (k + 1)) (d__law_web.drop 2) [some (.ref n), some (.int (pg : Nat)), none, none] h3) (retP fun d h' => ∃ (m : Nat) (ls : List (Int × Int)), d = Wb m ls ∧ WebOk m ls ∧ Dr n h' ∧ Kp (· = n) h h') by
    simp [-evSs_cons]
    refine ⟨fun he => ?_, fun he => ?_⟩
    · rw [evSs_cons, W_bind, evS_asg]
      simp [-evSs_cons]
      refine W_mono (tk F k n 12 (by omega) _ hd2) ?_
      rintro d h3 ⟨r3, rfl, hr3, hd3, k3⟩
      rw [bin_add, W_ok, show (1 + (r3 : Int)) = ((1 + r3 : Nat) : Int) by omega]
      (try rw [evSs_nil, W_ok, nxt_nx])
      exact key (1 + r3) h3 (by omega) (by omega) hd3 (k02.trans k3)
    · (try rw [evSs_nil, W_ok, nxt_nx])
      rw [show 1 + (r : Int) = ((1 + r : Nat) : Int) by omega]
      exact key (1 + r) h2 (by omega) (by omega) hd2 k02
  clear hr2 hr
  intro pg h3 hp0 hp12 hd3 k3
  have hl3 := k3.1
  unfold d__law_web
  simp only [List.drop]
  rw [evSs_cons, W_bind, evS_asg]
  simp [-evSs_cons, W_mkL]
  have hv := get_new h3 (O.lst [])
  have hd4 := hd3.app [O.lst []]
  have k4 := k3.trans (Kp.app _ _ [O.lst []])
  generalize hve : h3.length = v at hv ⊢
  generalize h3 ++ [O.lst []] = h4 at hv hd4 k4 ⊢
  rw [evSs_cons, W_bind, evS_fr]
  simp [-evSs_cons, -itB_range, evIt_bi, W_mkL]
  refine ⟨mulokL' (by omega) (by omega), ?_⟩
  refine W_mono (tk F k n _ (by omega) _ hd4) ?_
  rintro d h5 ⟨r5, rfl, hr5, hd5, k5⟩
  refine W_mono (tk F k n _ (by omega) _ hd5) ?_
  rintro d h6 ⟨r6, rfl, hr6, hd6, k6⟩
  refine ⟨by decide +revert, ?_⟩
  refine W_mono (tk F k n _ (by omega) _ (hd6.app _)) ?_
  rintro d h7 ⟨r7, rfl, hr7, hd7, k7⟩
  have hl6 := hd6.lt
  have hv6 := k6.get (k5.get hv (by omega)) (by omega)
  have hv7 := k7.get (get_app hv6 [O.lst [.int (r5 : Nat), .int (r6 : Nat)]]) (by omega)
  have k07 := ((k4.trans k5).trans k6).trans ((Kp.app _ _ _).trans k7)
  simp only [cmp_eqI, W_ok, bi_intB]
  refine W_getR (k7.get (get_new h6 (O.lst [.int (r5 : Nat), .int (r6 : Nat)])) (by omega)) (d := .int ((if r7 = 1 then r6 else r5 : Nat) : Int)) ?_ ?_
  · by_cases e : r7 = 1
    · have e2 : ((r7 : Int) = 1) := by omega
      rw [if_pos e]; simp [e2]; rfl
    · have e2 : ¬ ((r7 : Int) = 1) := by omega
      rw [if_neg e]; simp [e2]; rfl
  have hmn : (if r7 = 1 then r6 else r5) ≤ 60 := by split <;> omega
  generalize (if r7 = 1 then r6 else r5) = mn at hmn ⊢
  rw [it_rangeN mn (by omega), W_ok]
  refine W_frI (I := fun i env h' => (∃ e, env = [some (.ref n), some (.int (pg : Nat)), some (.ref v), e]) ∧ ∃ ls : List (Int × Int), ls.length ≤ i ∧ (∀ p, p ∈ ls → 0 ≤ p.1 ∧ p.1 < pg ∧ 0 ≤ p.2 ∧ p.2 < pg) ∧ h'[v]? = some (.lst (ls.map Pd)) ∧ Dr n h' ∧ Kp (· = n) h h') (fun _ _ h' _ => chkOk_nil h') ?_ ?_ ⟨⟨_, rfl⟩, [], by simp, by simp, hv7, hd7, k07⟩
  · rintro i x env h' hx ⟨⟨e, rfl⟩, ls, hll, hlm, hv', hd', k'⟩
    have hi : i < mn := by have := (List.getElem?_eq_some_iff.mp hx).1; simpa using this
    rw [tb_get _ hi] at hx
    injection hx with hx; subst hx
    simp
    refine W_mono (tk F k n _ (by omega) h' hd') ?_
    rintro d h1 ⟨r, rfl, hr, hd1, k1⟩
    simp
    refine ⟨by omega, ?_⟩
    refine W_mono (tk F k n _ (by omega) h1 hd1) ?_
    rintro d h2 ⟨r2, rfl, hr2, hd2, k2⟩
    have hv2 := k2.get (k1.get hv' (by omega)) (by omega)
    simp [two_size]
    refine ⟨by omega, ?_⟩
    rw [W_append h2 hv2]
    have hvl := lt_of_get hv2
    have m1 := fmod_range (r : Int) (b := (pg : Int)) (by omega)
    have m2 := fmod_range (r2 : Int) (b := (pg : Int)) (by omega)
    refine ⟨by simp only [sizeLine_eq, List.length_map]; omega, ls ++ [((r : Int).fmod pg, (r2 : Int).fmod pg)], by simp; omega, ?_, ?_, ?_, ?_⟩
    · intro a b hp
      rcases List.mem_append.mp hp with hp | hp
      · exact hlm (a, b) hp
      · cases List.mem_singleton.mp hp
        exact ⟨m1.1, m1.2, m2.1, m2.2⟩
    · rw [get_set hvl, List.map_append]; rfl
    · exact hd2.keep (Kp.set (x := (· = v)) rfl _ _) (by omega)
    · exact ((k'.trans k1).trans k2).setNew (by omega) _
  · rintro env h' ⟨⟨e, rfl⟩, ls, hll, hlm, hv', hd', k'⟩
    simp at hll
    simp
    refine W_sortedP h' hv' (by omega) ?_
    rw [bi_tupR _ (get_new _ _)]
    simp [two_size]
    exact ⟨pg, ls.mergeSort leP, rfl, ⟨hp0, hp12, by rw [List.length_mergeSort]; omega, fun p hp => hlm p ((List.mem_mergeSort).mp hp)⟩, hd'.app _, k'.trans (Kp.app _ _ _)⟩
/-- a leap is drawn -/
theorem sp_dleap (hT : T "_law_leap" = some ⟨1, 3, d__law_leap⟩) (k : Nat) (n : Nat) (h : Hh) (hd : Dr n h) :
    W (callF T (k + 2) "_law_leap" [.ref n] h) fun d h' => ∃ l : Rat, d = Fq l ∧ LeapOk l ∧ Dr n h' ∧ Kp (· = n) h h' := by
  have hnl := hd.lt
  refine W_call hT rfl ?_
  unfold d__law_leap
  rw [evSs_cons, W_bind, evS_asg]
  simp [-evSs_cons, W_mkL]
  refine ⟨by decide, ?_⟩
  refine W_mono (tk F k n _ (by omega) _ (hd.app _)) ?_
  rintro d h1 ⟨r, rfl, hr, hd1, k1⟩
  refine W_getR (k1.get (get_new _ _) (by omega)) (d := .int ((if r = 0 then 2 else if r = 1 then 7 else if r = 2 then 100 else 999999999999 : Nat) : Int)) (by rcases r with _ | _ | _ | _ | r <;> first | rfl | omega) ?_
  have hb : 2 ≤ (if r = 0 then 2 else if r = 1 then 7 else if r = 2 then 100 else 999999999999 : Nat) ∧ (if r = 0 then 2 else if r = 1 then 7 else if r = 2 then 100 else 999999999999 : Nat) ≤ 999999999999 := by split <;> (try split) <;> (try split) <;> omega
  generalize (if r = 0 then 2 else if r = 1 then 7 else if r = 2 then 100 else 999999999999 : Nat) = b at hb ⊢
  rw [evSs_cons, W_bind, evS_asg]
  simp [-evSs_cons]
  refine W_mono (tk F k n _ (by omega) _ hd1) ?_
  rintro d h2 ⟨r2, rfl, hr2, hd2, k2⟩
  rw [bin_mul, W_need]
  refine ⟨mulokL' (by omega) (by omega), ?_⟩
  rw [W_ok, evSs_cons, W_bind, evS_asg]
  simp [-evSs_cons]
  refine W_mono (tk F k n _ (by omega) _ hd2) ?_
  rintro d h3 ⟨r3, rfl, hr3, hd3, k3⟩
  simp [-evSs_cons]
  refine ⟨mulokL' (by omega) (by omega), ?_⟩
  rw [evSs_cons, W_bind, evS_asg]
  simp [-evSs_cons]
  refine W_mono (tk F k n _ (by omega) _ hd3) ?_
  rintro d h4 ⟨r4, rfl, hr4, hd4, k4⟩
  simp [-evSs_cons]
  refine ⟨by omega, ?_⟩
  have m1 := fmod_range ((r2 : Int) * 1000000000 + (r3 : Int) * 100000 + (r4 : Int)) (b := (b : Int)) (by omega)
  obtain ⟨a, ha⟩ := Int.eq_ofNat_of_zero_le m1.1
  rw [ha]
  rw [evSs_cons, W_bind, evS_ret]
  simp [W_mkL, two_size]
  rw [sp_fraction F.fr k _ _ (by omega), W_ok]
  have l1 : LeapOk (Rat.divInt (1 + (a : Int)) b) := by
    rw [show Rat.divInt (1 + (a : Int)) b = rt (1 + a) b by unfold rt; congr 1 <;> omega]
    exact ⟨rt_pos (by omega) (by omega), rt_le1 (by omega) (by omega), sz_rt (by omega) (by omega) (by omega)⟩
  generalize Rat.divInt (1 + (a : Int)) b = la at l1 ⊢
  refine ⟨by simp only [sizeLine_eq]; omega, ?_⟩
  have hd5 := hd4.app [O.lst [D.tup [.int 1, .int 2], .tup [.int 1, .int 1], .tup [.int 3, .int 20], Fq la]]
  refine W_mono (tk F k n _ (by omega) _ hd5) ?_
  rintro d h6 ⟨r6, rfl, hr6, hd6, k6⟩
  have hn6 := k6.get (get_new h4 (O.lst [D.tup [.int 1, .int 2], .tup [.int 1, .int 1], .tup [.int 3, .int 20], Fq la])) (by have := hd4.lt; omega)
  have kk : Kp (· = n) h h6 := (((((Kp.app _ _ _).trans k1).trans k2).trans k3).trans k4).trans ((Kp.app _ _ _).trans k6)
  have fin : ∀ l : Rat, LeapOk l → L2.atI ([D.tup [.int 1, .int 2], .tup [.int 1, .int 1], .tup [.int 3, .int 20], Fq la]) (r6 : Int) = some (Fq l) → W (getIx (.ref h4.length) (.int (r6 : Nat)) h6) fun d h' => ∃ l : Rat, d = Fq l ∧ LeapOk l ∧ Dr n h' ∧ Kp (· = n) h h' := fun l ok e =>
    W_getR hn6 e ⟨l, rfl, ok, hd6, kk⟩
  rcases r6 with _ | _ | _ | _ | r6
  · exact fin (rt 1 2) ⟨rt_pos (by omega) (by omega), rt_le1 (by omega) (by omega), sz_rt (by omega) (by omega) (by omega)⟩ (by rw [← Fq_rt1 (by omega)]; rfl)
  · exact fin 1 ⟨by decide, by decide, sz_one.mono (by decide)⟩ rfl
  · refine fin (rt 3 20) ⟨rt_pos (by omega) (by omega), rt_le1 (by omega) (by omega), sz_rt (by omega) (by omega) (by omega)⟩ ?_
    obtain ⟨h1, h2⟩ := divInt_ext (a := 3) (b := 20) (q := rt 3 20) (by omega) rfl (by decide)
    unfold Fq
    rw [h1, h2]; rfl
  · exact fin la l1 rfl
  · omega
/-- a tuple of so many fractions is let by -/
theorem e_arefr (hT : T "_law_are_fractions" = some ⟨2, 3, d__law_are_fractions⟩) (k n : Nat) (f : Nat → Rat) (h : Hh) : callF T (k + 2) "_law_are_fractions" [Vt n f, .int (n : Nat)] h = .ok (.bl true) h := by
  refine W_iff (W_call hT rfl ?_)
  simp [d__law_are_fractions, evIt]
  refine W_frI (I := fun i env h' => h' = h ∧ ∃ a, env = [some (Vt n f), some (.int (n : Nat)), a]) (fun _ _ h' _ => chkOk_nil h') ?_ ?_ ⟨rfl, _, rfl⟩
  · rintro i x env h' hx ⟨rfl, a, rfl⟩
    have hi : i < n := by have := (List.getElem?_eq_some_iff.mp hx).1; simpa using this
    rw [tb_get _ hi] at hx
    injection hx with hx; subst hx
    have hd := den_pos' (f i)
    simp
    refine ⟨by omega, fun _ => ?_⟩
    rw [sp_fraction F.fr k _ _ (by omega) h', W_ok, Rat.num_divInt_den, cmp_neG _ (by simp) (by simp)]
    simp
  · rintro env h' ⟨rfl, a, rfl⟩
    simp
end
end Ip

/-! Ir, part B: leaps, rows, ways, steps of the laws k38 to k49. -/
namespace Ip
open PySem
section
variable {T : Tb} (F : KD T)
include F
/-- leaps by weights in a list: the end that is common -/
theorem by_weights (k : Nat) (e6 : Nat) (own : Nat → Option D → Env) (p : Nat) (hp : 0 < p) (hp2 : p ≤ 12) (h' : Hh) (v : Nat) (w : Nat → Nat) (hv : h'[v]? = some (.lst (tb p fun i => D.int (w i : Nat)))) (hw : ∀ i, i < p → w i ≤ 2 ^ 40) (hj : ∃ i, i < p ∧ 0 < w i) :
    ∃ q : Nat → Rat, LeapsOk p q ∧ CdR p q ∧ evB .sum [.ref v] h' = .ok (.int (tb p fun i => ((w i : Nat) : Int)).sum) h' ∧ ∀ i, i < p → callF T (k + 1) "_law_fraction" [.int (w i : Nat), .int (tb p fun i => ((w i : Nat) : Int)).sum] h' = .ok (Fq (q i)) h' := by
  obtain ⟨j, hj, hw0⟩ := hj
  have e1 : (tb p fun i => D.int (w i : Nat)) = (tb p fun i => ((w i : Nat) : Int)).map D.int := by rw [tb_map]
  have hsum := bi_sumR h' (n := v) (ns := tb p fun i => ((w i : Nat) : Int)) (by rw [hv, e1])
  have s1 := sum_tb_le (w := w) hj
  have s2 := sum_tb_most (w := w) (n := p) (m := 2 ^ 40) hw
  have s3 : (p : Int) * ((2 ^ 40 : Nat) : Int) ≤ 12 * ((2 ^ 40 : Nat) : Int) := Int.mul_le_mul_of_nonneg_right (by omega) (by omega)
  have s4 : ∀ j, j < p → ((w j : Nat) : Int) ≤ (tb p fun i => ((w i : Nat) : Int)).sum := fun j hj => sum_tb_le hj
  have s5 : ∀ S : Nat, (S : Int) = (tb p fun i => ((w i : Nat) : Int)).sum → 0 < S → LeapsOk p fun j => rt (w j) S := fun S e h => leaps_of e h
  generalize (tb p fun i => ((w i : Nat) : Int)).sum = S at hsum s1 s2 s4 s5 ⊢
  have eS : S = ((S.toNat : Nat) : Int) := by omega
  have hS0 : 0 < S.toNat := by omega
  refine ⟨fun j => rt (w j) S.toNat, s5 _ eS.symm hS0, ⟨S.toNat, hS0, by omega, fun j hj => ⟨w j, by have := s4 j hj; omega, rfl⟩⟩, hsum, fun i hi => ?_⟩
  rw [sp_fraction F.fr k _ _ (by omega)]
  unfold rt
  rw [← eS]
/-- leaps are drawn -/
theorem sp_dleaps (hT : T "_law_leaps" = some ⟨2, 7, d__law_leaps⟩) (k : Nat) (n p : Nat) (hp : 0 < p) (hp2 : p ≤ 12) (h : Hh) (hd : Dr n h) :
    W (callF T (k + 2) "_law_leaps" [.ref n, .int (p : Nat)] h) fun d h' => ∃ q : Nat → Rat, d = Vt p q ∧ LeapsOk p q ∧ CdR p q ∧ Dr n h' ∧ Kp (· = n) h h' := by
  have hnl := hd.lt
  have key : ∀ (h' : Hh) (v : Nat) (w : Nat → Nat) (x2 x4 x5 x6 : Option D), Dr n h' → Kp (· = n) h h' → h'[v]? = some (.lst (tb p fun i => D.int (w i : Nat))) → (∀ i, i < p → w i ≤ 2 ^ 40) → (∃ i, i < p ∧ 0 < w i) →
        W (evSs (callF T (k + 1)) (d__law_leaps.drop 4) [some (.ref n), some (.int (p : Nat)), x2, some (.ref v), x4, x5, x6] h') (retP fun d h' => ∃ q : Nat → Rat, d = Vt p q ∧ LeapsOk p q ∧ CdR p q ∧ Dr n h' ∧ Kp (· = n) h h') := by
    intro h' v w x2 x4 x5 x6 hd' k' hv hw hj
    obtain ⟨q, q1, q2, hsum, hq⟩ := by_weights F k 0 (fun _ _ => []) p hp hp2 h' v w hv hw hj
    unfold d__law_leaps
    simp only [List.drop]
    rw [evSs_cons, W_bind, evS_ret]
    simp [Ip.ev_lc, evIt, it_R hv]
    refine W_lcF (fun i => Fq (q i)) (fun h2 => h2 = h') (fun h2 e q hq => by rw [List.mem_singleton.mp hq, e]; exact hv) ?_ ?_ rfl
    · rintro i x h2 hi hx rfl
      simp at hi
      rw [tb_get _ hi] at hx
      injection hx with hx; subst hx
      simp [eltO, elt1, asgN, wipeE, hsum]
      rw [hq i hi, W_ok]
      exact ⟨rfl, rfl⟩
    · rintro h2 rfl
      simp [W_mkL]
      refine ⟨by simp only [sizeLine_eq]; omega, ?_⟩
      rw [bi_tupR _ (get_new _ _), W_ok]
      exact ⟨_, rfl, q1, q2, hd'.app _, k'.trans (Kp.app _ _ _)⟩
  have two : ∀ (h' : Hh) (v : Nat) (w : Nat → Nat) (kd : Nat) (x4 x5 x6 : Option D), Dr n h' → Kp (· = n) h h' → h.length ≤ v → h'[v]? = some (.lst (tb p fun i => D.int (w i : Nat))) → (∀ i, i < p → w i ≤ 2 ^ 40) → (∃ i, i < p ∧ 0 < w i) →
        W (evSs (callF T (k + 1)) (d__law_leaps.drop 3) [some (.ref n), some (.int (p : Nat)), some (.int (kd : Nat)), some (.ref v), x4, x5, x6] h') (retP fun d h' => ∃ q : Nat → Rat, d = Vt p q ∧ LeapsOk p q ∧ CdR p q ∧ Dr n h' ∧ Kp (· = n) h h') := by
    intro h' v w kd x4 x5 x6 hd' k' hvl hv hw hj
    have key' := key
    unfold d__law_leaps at key' ⊢
    simp only [List.drop] at key' ⊢
    rw [evSs_cons, W_bind, evS_ite]
    simp [-evSs_cons]
    refine ⟨fun h2 => ?_, fun h2 => ?_⟩
    · rw [evSs_cons, W_bind, evS_asg]
      simp [-evSs_cons, -itB_range, Ip.ev_lc, evIt_bi]
      rw [it_rangeN p (by omega), W_ok]
      refine W_lcQ (fun i y => ∃ w : Nat, y = .int (w : Nat) ∧ w < 4) (fun h2 => Dr n h2 ∧ Kp (· = n) h' h2) (fun h' _ => chkOk_nil h') ?_ ?_ ⟨hd', Kp.refl _ _⟩
      · rintro i x h2 hi hx ⟨hd2, k2⟩
        simp [eltO, elt1, asgN, wipeE]
        refine W_mono (tk F k n 4 (by omega) _ hd2) ?_
        rintro d h3 ⟨r, rfl, hr, hd3, k3⟩
        have hr' : r < 4 := by omega
        refine ⟨?_, hd3, k2.trans k3⟩
        first | exact hr' | exact ⟨r, rfl, hr'⟩ | (simp; omega)
      · intro g h3 hg ⟨hd3, k3⟩
        simp at hg
        obtain ⟨w', ew, hw'⟩ := pick hg
        simp [-evSs_cons, W_mkL]
        rw [ew]
        refine ⟨by simp only [sizeLine_eq]; omega, ?_⟩
        have hv4 := get_new h3 (O.lst (tb p fun i => D.int (w' i : Nat)))
        have hd4 := hd3.app [O.lst (tb p fun i => D.int (w' i : Nat))]
        have k4 := (k'.trans k3).trans (Kp.app _ _ [O.lst (tb p fun i => D.int (w' i : Nat))])
        have hl3 := (k'.trans k3).1
        generalize h3.length = v' at hv4 hl3 ⊢
        generalize h3 ++ [O.lst (tb p fun i => D.int (w' i : Nat))] = h4 at hv4 hd4 k4 ⊢
        rw [evSs_cons, W_bind, evS_asg]
        simp [-evSs_cons]
        refine W_mono (tk F k n 99 (by omega) _ hd4) ?_
        rintro d h5 ⟨r5, rfl, hr5, hd5, k5⟩
        rw [bin_add, W_ok]
        refine W_mono (tk F k n _ (by omega) _ hd5) ?_
        rintro d h6 ⟨r6, rfl, hr6, hd6, k6⟩
        have hv6 := k6.get (k5.get hv4 (by omega)) (by omega)
        have hr6' : r6 < p := by omega
        refine W_setR hv6 (j := r6) (ixN_nat (by simpa using hr6')) ?_
        have hv7 := get_set (lt_of_get hv6) (O.lst ((tb p fun i => D.int (w' i : Nat)).set r6 (.int (1 + (r5 : Int)))))
        have hd7 := hd6.keep (Kp.set (x := (· = v')) rfl h6 (O.lst ((tb p fun i => D.int (w' i : Nat)).set r6 (.int (1 + (r5 : Int)))))) (by omega)
        have k7 := ((k4.trans k5).trans k6).setNew (n := v') (by omega) (O.lst ((tb p fun i => D.int (w' i : Nat)).set r6 (.int (1 + (r5 : Int)))))
        generalize h6.set v' (O.lst ((tb p fun i => D.int (w' i : Nat)).set r6 (.int (1 + (r5 : Int))))) = h7 at hv7 hd7 k7 ⊢
        rw [tb_set _ _ hr6', tb_congr (g := fun i => D.int ((if i = r6 then 1 + r5 else w' i : Nat) : Int)) (fun i hi => by split <;> simp)] at hv7
        have hw7 : ∀ i, i < p → (if i = r6 then 1 + r5 else w' i) ≤ 100 := fun i hi => by have := hw' i hi; split <;> omega
        have hp7 : 0 < (if r6 = r6 then 1 + r5 else w' r6) := by simp; omega
        generalize hw7e : (fun i => if i = r6 then 1 + r5 else w' i) = w7 at hv7
        have hv7' : h7[v']? = some (O.lst (tb p fun i => D.int (w7 i : Nat))) := by rw [hv7, ← hw7e]
        have hw7' : ∀ i, i < p → w7 i ≤ 100 := fun i hi => by rw [← hw7e]; exact hw7 i hi
        have hp7' : 0 < w7 r6 := by rw [← hw7e]; exact hp7
        rw [evSs_cons, W_bind, evS_ite]
        simp [-evSs_cons]
        have out : ∀ h8, Dr n h8 → Kp (· = n) h h8 → h8[v']? = some (O.lst (tb p fun i => D.int (w7 i : Nat))) → W (evSs (callF T (k + 1)) [.ret (.bi .tuple [.lc (.var 3) (.var 6) (.call "_law_fraction" [.var 6, .bi .sum [.var 3]]) [6]])] [some (.ref n), some (.int (p : Nat)), some (.int (kd : Nat)), some (.ref v'), x4, x5, x6] h8) (retP fun d h' => ∃ q : Nat → Rat, d = Vt p q ∧ LeapsOk p q ∧ CdR p q ∧ Dr n h' ∧ Kp (· = n) h h') :=
          fun h8 a b c => key' h8 v' w7 _ x4 x5 x6 a b c (fun i hi => Nat.le_trans (hw7' i hi) (by omega)) ⟨r6, hr6', hp7'⟩
        refine ⟨fun h77 => ?_, fun h77 => ?_⟩
        · refine W_mono (tk F k n 4 (by omega) _ hd7) ?_
          rintro d h8 ⟨r8, rfl, hr8, hd8, k8⟩
          have hv8 := k8.get hv7' (by omega)
          simp [-evSs_cons]
          refine ⟨fun he => ?_, fun he => ?_⟩
          · rw [evSs_cons, W_bind, evS_asg]
            simp [-evSs_cons, Ip.ev_lc, evIt_bi]
            have eit : itB .enumerate [.ref v'] h8 = .ok (tb p fun i => .tup [.int (i : Nat), .int (w7 i : Nat)], [(v', tb p fun i => D.int (w7 i : Nat))]) h8 := by
              show (itSeq (.ref v') h8).bind _ = _
              rw [it_R hv8, Out.bind_ok, enumD_tb]
            rw [eit, W_ok]
            refine W_lcF (fun i => D.int ((w7 i * 1000000000 + i : Nat) : Int)) (fun h2 => h2 = h8) (fun h2 e q hq => by rw [List.mem_singleton.mp hq, e]; exact hv8) ?_ ?_ rfl
            · rintro i x h2 hi hx rfl
              simp at hi
              rw [tb_get _ hi] at hx
              injection hx with hx; subst hx
              simp [eltO, elt1, asgN, wipeE]
              exact mulokR' (by omega) (by omega)
            rintro h2 rfl
            simp only [W_mkL, W_ok, W_bind, tb_len]
            refine ⟨by simp only [sizeLine_eq]; omega, ?_⟩
            simp [-evSs_cons]
            (try rw [evSs_nil, W_ok, nxt_nx])
            refine key' _ _ (fun i => w7 i * 1000000000 + i) _ _ _ _ (hd8.app _) ((k7.trans k8).trans (Kp.app _ _ _)) ?_ (fun i hi => by have := hw7' i hi; omega) ⟨r6, hr6', by omega⟩
            simp
          · (try rw [evSs_nil, W_ok, nxt_nx])
            (try rw [evSs_nil, W_ok, nxt_nx])
            (try simp [-evSs_cons])
            exact out h8 hd8 (k7.trans k8) hv8
        · (try rw [evSs_nil, W_ok, nxt_nx])
          (try rw [evSs_nil, W_ok, nxt_nx])
          (try simp [-evSs_cons])
          exact out h7 hd7 k7 hv7'
    · (try rw [evSs_nil, W_ok, nxt_nx])
      exact key' h' v w _ _ _ _ hd' k' hv hw hj
  refine W_call hT rfl ?_
  have two' := two
  unfold d__law_leaps at two' ⊢
  simp only [List.drop] at two'
  rw [evSs_cons, W_bind, evS_asg]
  simp [-evSs_cons]
  refine W_mono (tk F k n 3 (by omega) _ hd) ?_
  rintro d h1 ⟨kd, rfl, hkd, hd1, k1⟩
  rw [evSs_cons, W_bind, evS_asg]
  simp [-evSs_cons, W_mkL]
  refine ⟨by decide, ?_⟩
  refine W_mulL (xs := [D.int 1]) (get_new _ _) (by omega) (by omega) (by simp; omega) ?_
  rw [Int.toNat_natCast, flat_rep]
  have hv2 := get_new (h1 ++ [O.lst [D.int 1]]) (O.lst (tb p fun _ => D.int 1))
  have hd2 := (hd1.app [O.lst [D.int 1]]).app [O.lst (tb p fun _ => D.int 1)]
  have k2 := k1.trans ((Kp.app _ _ [O.lst [D.int 1]]).trans (Kp.app _ _ [O.lst (tb p fun _ => D.int 1)]))
  have hl1 : h.length ≤ (h1 ++ [O.lst [D.int 1]]).length := by have := k1.1; simp; omega
  generalize (h1 ++ [O.lst [D.int 1]]).length = v at hv2 hl1 ⊢
  generalize h1 ++ [O.lst [D.int 1]] ++ [O.lst (tb p fun _ => D.int 1)] = h2 at hv2 hd2 k2 ⊢
  rw [evSs_cons, W_bind, evS_ite]
  simp [-evSs_cons]
  refine ⟨fun h11 => ?_, fun h11 => ?_⟩
  · rw [evSs_cons, W_bind, evS_asg]
    simp [-evSs_cons, W_mkL]
    refine ⟨by decide, ?_⟩
    refine W_mulL (xs := [D.int 0]) (get_new _ _) (by omega) (by omega) (by simp; omega) ?_
    rw [Int.toNat_natCast, flat_rep]
    have hv3 := get_new (h2 ++ [O.lst [D.int 0]]) (O.lst (tb p fun _ => D.int 0))
    have hd3 := (hd2.app [O.lst [D.int 0]]).app [O.lst (tb p fun _ => D.int 0)]
    have k3 := k2.trans ((Kp.app _ _ [O.lst [D.int 0]]).trans (Kp.app _ _ [O.lst (tb p fun _ => D.int 0)]))
    have hl2 : h.length ≤ (h2 ++ [O.lst [D.int 0]]).length := by have := k2.1; simp; omega
    generalize (h2 ++ [O.lst [D.int 0]]).length = v' at hv3 hl2 ⊢
    generalize h2 ++ [O.lst [D.int 0]] ++ [O.lst (tb p fun _ => D.int 0)] = h3 at hv3 hd3 k3 ⊢
    rw [evSs_cons, W_bind, evS_asg]
    simp [-evSs_cons]
    refine W_mono (tk F k n _ (by omega) _ hd3) ?_
    rintro d h4 ⟨r4, rfl, hr4, hd4, k4⟩
    have hv4 := k4.get hv3 (by omega)
    have hr4' : r4 < p := by omega
    refine W_setR hv4 (j := r4) (ixN_nat (by simpa using hr4')) ?_
    (try rw [evSs_nil, W_ok, nxt_nx])
    refine two' _ v' (fun i => if i = r4 then 1 else 0) kd _ _ _ (hd4.keep (Kp.set (x := (· = v')) rfl _ _) (by omega)) ((k3.trans k4).setNew (by omega) _) hl2 ?_ (fun i _ => by split <;> omega) ⟨r4, hr4', by simp⟩
    rw [get_set (lt_of_get hv4), tb_set _ _ hr4']
    congr 2
    exact tb_congr fun i _ => by split <;> rfl
  · (try rw [evSs_nil, W_ok, nxt_nx])
    exact two' h2 v (fun _ => 1) kd _ _ _ hd2 k2 hl1 hv2 (fun i _ => by omega) ⟨0, hp, by omega⟩
end
end Ip

/-! Ir, part C: rows, ways, steps of the laws k38 to k49; the package's walked. -/
namespace Ip
open PySem
section
variable {T : Tb} (F : KD T)
include F
theorem sp_dways (hT : T "_law_ways" = some ⟨4, 10, d__law_ways⟩) (k : Nat) (n : Nat) (hn : n ≤ 1000) (ls : List (Int × Int)) (hls : ls.length ≤ 1000) (l : Rat) (hl : sz 45 l) (q : Nat → Rat) (hq : ∀ j, j < n → sz 60 (q j)) (pg : Nat) (h : Hh) :
    W (callF T (k + 3) "_law_ways" [Wb n ls, Fq l, Vt n q, .int (pg : Nat)] h) fun d h' => ∃ r, d = .ref r ∧ h.length ≤ r ∧ Rl n r (Pm ls l q pg) h' ∧ Kn h h' := by
  refine W_call hT rfl ?_
  unfold d__law_ways
  rw [evSs_cons, W_bind, evS_asg]
  simp [-evSs_cons, Ip.ev_lcIf, evIt]
  refine W_lcP (toOf (pg : Nat)) (fun h' => h' = h) (fun h' _ => chkOk_nil h') ?_ ?_ rfl
  · rintro i x h' hx rfl
    obtain ⟨p, hp, rfl⟩ := List.mem_map.mp (List.mem_of_getElem? hx)
    rw [toOf_Pd]
    by_cases hp : p.1 = pg <;> simp [eltO, elt2, asgN, wipeE, Pd, hp]
  · rintro h' rfl
    rw [tos_map]
    have hg : dg ls pg ≤ 1000 := Nat.le_trans (tos_len ls _) hls
    simp [-evSs_cons, W_mkL]
    refine ⟨by unfold dg at hg; simp only [sizeLine_eq]; omega, ?_⟩
    have k1 : Kn h' (h' ++ [O.lst ((tos ls (pg : Nat)).map D.int)]) := Kp.app _ _ _
    have hm := get_new h' (O.lst ((tos ls (pg : Nat)).map D.int))
    generalize hm0 : h'.length = m at hm ⊢
    generalize h' ++ [O.lst ((tos ls (pg : Nat)).map D.int)] = h1 at hm k1 ⊢
    rw [evSs_cons, W_bind, evS_ite]
    simp [-evSs_cons, W_mkL]
    have hm1 := get_app hm [O.lst []]
    have k2 : Kn h' (h1 ++ [O.lst []]) := k1.trans (Kp.app _ _ _)
    rw [cmp_eqL (h1 ++ [O.lst []]) (ys := []) hm1 (by simp) (by simp) (by simp), W_ok, asB_bl, W_ok]
    refine ⟨fun he => ?_, fun he => ?_⟩
    · simp at he
      rw [evSs_cons, W_bind, evS_ret]
      have e0 : evB .list [Vt n q] (h1 ++ [O.lst []]) = mkL (tb n fun i => Fq (q i)) (h1 ++ [O.lst []]) := rfl
      simp [e0, W_mkL]
      have hl := k2.1
      refine ⟨by simp only [sizeLine_eq]; omega, by simp at hl; omega, ?_, k2.trans (by simpa using Kp.app (fun _ => False) (h1 ++ [O.lst []]) [O.lst (tb n fun i => Fq (q i))])⟩
      unfold Rl
      have e1 := get_new (h1 ++ [O.lst []]) (O.lst (tb n fun i => Fq (q i)))
      simp at e1
      simp
      refine tb_congr fun j hj => ?_
      unfold Pm
      rw [if_pos (by unfold dg; rw [he]; rfl)]
    · simp at he
      have h0 : dg ls pg ≠ 0 := fun z => he (List.length_eq_zero_iff.mp z)
      generalize h1 ++ [O.lst []] = h2 at hm1 k2
      have s1 : sz 47 (1 - l) := (sz_sub sz_one hl).mono (by decide)
      have hP := fun j (hj : j < n) => sz_Pm (i := pg) hls hl (hq j hj)
      (try rw [evSs_nil, W_ok, nxt_nx])
      rw [evSs_cons, W_bind, evS_asg]
      simp [-evSs_cons, W_mkL]
      have hr := get_new h2 (O.lst [])
      have k3 : Kn h' (h2 ++ [O.lst []]) := k2.trans (Kp.app _ _ _)
      have hm2 := get_app hm1 [O.lst []]
      have hl2 := lt_of_get hm1
      have hlh := k2.1
      generalize hr0 : h2.length = r at hr hl2 hlh ⊢
      generalize h2 ++ [O.lst []] = h3 at hr k3 hm2 ⊢
      rw [evSs_cons, W_bind, evS_fr]
      simp [-evSs_cons, -itB_range, evIt_bi]
      rw [it_rangeN n (by omega), W_ok]
      refine W_frI (I := fun i env h2 => (∃ a b c d, env = [some (Wb n ls), some (Fq l), some (Vt n q), some (.int (pg : Nat)), some (.ref m), some (.ref r), a, b, c, d]) ∧ Rl i r (Pm ls l q pg) h2 ∧ h2[m]? = some (.lst ((tos ls (pg : Nat)).map D.int)) ∧ Kn h' h2) (fun _ _ h' _ => chkOk_nil h') ?_ ?_ ⟨⟨_, _, _, _, rfl⟩, hr, hm2, k3⟩
      · rintro i x env h4 hx ⟨⟨a, b, c, d, rfl⟩, hr, hm, kk⟩
        have hi : i < n := by have := (List.getElem?_eq_some_iff.mp hx).1; simpa using this
        rw [tb_get _ hi] at hx
        injection hx with hx; subst hx
        simp [two_size]
        rw [show D.tup [.int 1, .int 1] = Fq 1 from rfl, e_drest F k (toBig sz_one (by omega)) (toBig hl (by omega)), W_ok]
        refine W_count _ hm ?_
        rw [bi_lenR h4 hm]
        simp
        rw [sp_fraction F.fr (k + 1) _ _ (by show ((dg ls pg : Nat) : Int) ≠ 0; omega), W_ok]
        rw [show Rat.divInt ((List.count (i : Int) (tos ls (pg : Nat)) : Nat) : Int) (((tos ls (pg : Nat)).length : Nat) : Int) = rt (cn ls pg i) (dg ls pg) from rfl]
        have e1 := sz_cn (i := pg) hls h0 i
        rw [e_dprod F k (toBig s1 (by omega)) (toBig e1 (by omega)), W_ok]
        (try simp)
        rw [ix_V q hi, W_ok]
        rw [e_dprod F k (hl.mono (by decide)) ((hq i hi).mono (by decide)), W_ok]
        rw [e_dsum F k ((sz_mul hl (hq i hi)).mono (by decide)) ((sz_mul s1 e1).mono (by decide)), W_ok]
        rw [W_append h4 hr]
        refine ⟨by simp only [sizeLine_eq, tb_len]; omega, ?_, ?_, kk.setNew (by omega) _⟩
        · unfold Rl
          rw [get_set (lt_of_get hr), tb_succ]
          unfold Pm
          rw [if_neg h0]; first | done | rfl
        · rw [List.getElem?_set_ne (by omega)]; exact hm
      · rintro env h4 ⟨⟨a, b, c, d, rfl⟩, hr, hm, kk⟩
        simp
        simp at hr
        exact ⟨by omega, hr, kk⟩
/-- the row behind a step, as a list -/
theorem sp_dbehind (hW : T "_law_ways" = some ⟨4, 10, d__law_ways⟩) (hT : T "_law_behind" = some ⟨4, 9, d__law_behind⟩) (k : Nat) (n : Nat) (hn : n ≤ 1000) (ls : List (Int × Int)) (hls : ls.length ≤ 1000) (l : Rat) (hl : sz 45 l) (q : Nat → Rat) (hq : ∀ j, j < n → sz 60 (q j)) (x : Nat → Rat) (bh : Bh n x (Pm ls l q)) (h : Hh) (xr : D)
    (hx : ∀ h', Kn h h' → ∀ i, i < n → getIx xr (.int (i : Nat)) h' = .ok (Fq (x i)) h') :
    W (callF T (k + 4) "_law_behind" [Wb n ls, Fq l, Vt n q, xr] h) fun d h' => ∃ r, d = .ref r ∧ h.length ≤ r ∧ Rl n r (stp n (Pm ls l q) x) h' ∧ Kn h h' := by
  refine W_call hT rfl ?_
  unfold d__law_behind
  rw [evSs_cons, W_bind, evS_asg]
  simp [-evSs_cons, W_mkL, two_size]
  refine ⟨by decide, W_mulL (xs := [D.tup [.int 0, .int 1]]) (get_new _ _) (by omega) (by omega) (by simp; omega) ?_⟩
  rw [Int.toNat_natCast, flat_rep]
  have hm := get_new (h ++ [O.lst [D.tup [.int 0, .int 1]]]) (O.lst (tb n fun _ => D.tup [.int 0, .int 1]))
  have kk : Kn h (h ++ [O.lst [D.tup [.int 0, .int 1]]] ++ [O.lst (tb n fun _ => D.tup [.int 0, .int 1])]) := (Kp.app _ _ _).trans (Kp.app _ _ _)
  have hmh : h.length ≤ (h ++ [O.lst [D.tup [.int 0, .int 1]]]).length := by simp
  generalize (h ++ [O.lst [D.tup [.int 0, .int 1]]]).length = m at hm hmh ⊢
  generalize (h ++ [O.lst [D.tup [.int 0, .int 1]]] ++ [O.lst (tb n fun _ => D.tup [.int 0, .int 1])]) = h1 at hm kk
  rw [evSs_cons, W_bind, evS_fr]
  simp [-evSs_cons, -itB_range, evIt_bi]
  rw [it_rangeN n (by omega), W_ok]
  refine W_frI (I := fun i env h' => (∃ m a b c d, h.length ≤ m ∧ env = [some (Wb n ls), some (Fq l), some (Vt n q), some xr, some (.ref m), a, b, c, d] ∧ Rl n m (fun j => sm i fun i => x i * Pm ls l q i j) h') ∧ Kn h h') (fun _ _ h' _ => chkOk_nil h') ?_ ?_ ⟨⟨m, _, _, _, _, hmh, rfl, hm⟩, kk⟩
  · rintro i x' env h' hx' ⟨⟨m, a, b, c, d, hmh, rfl, hm⟩, kk⟩
    have hi : i < n := by have := (List.getElem?_eq_some_iff.mp hx').1; simpa using this
    rw [tb_get _ hi] at hx'
    injection hx' with hx'; subst hx'
    simp
    refine W_mono (sp_dways F hW k n hn ls hls l hl q hq i h') ?_
    rintro y h2 ⟨r, rfl, hrl, hr, k2⟩
    have hm2 := hm.kn k2
    simp [Ip.ev_lc, evIt_bi]
    rw [it_zipR hm2 hr, W_ok]
    refine W_lcF (fun j => Fq (sm (i + 1) fun i => x i * Pm ls l q i j)) (fun h' => h' = h2) (fun h' e q hq => by
      subst e
      rcases List.mem_cons.mp hq with e | hq
      · rw [e]; exact hm2
      · rw [List.mem_singleton.mp hq]; exact hr) ?_ ?_ rfl
    · rintro o x' h3 ho hx' rfl
      simp at ho
      rw [tb_get _ ho] at hx'
      injection hx' with hx'; subst hx'
      simp [eltO, elt1, asgN, wipeE]
      rw [hx h3 (kk.trans k2) i hi, W_ok]
      rw [e_dprod F (k + 1) (bh.x1 i hi) ((sz_Pm hls hl (hq o ho) i).mono (by decide)), W_ok, e_dsum F (k + 1) (bh.s1 i o (by omega) ho) (bh.p1 i o hi ho), W_ok]
      exact ⟨rfl, rfl⟩
    · rintro h3 rfl
      simp [W_mkL]
      exact ⟨by simp only [sizeLine_eq]; omega, ⟨_, by have := (kk.trans k2).1; omega, rfl, get_new _ _⟩, kk.trans (k2.trans (Kp.app _ _ _))⟩
  · rintro env h' ⟨⟨m, a, b, c, d, hmh, rfl, hm⟩, kk⟩
    simp at hm
    simp
    exact ⟨hmh, hm, kk⟩
/-- any row -/
theorem sp_anyrow (hT : T "_law_any_row" = some ⟨2, 6, d__law_any_row⟩) (k : Nat) (n p : Nat) (hp2 : p ≤ 12) (h : Hh) (hd : Dr n h) :
    W (callF T (k + 2) "_law_any_row" [.ref n, .int (p : Nat)] h) fun d h' => ∃ x : Nat → Rat, d = Vt p x ∧ (∀ j, j < p → sz 45 (x j)) ∧ Dr n h' ∧ Kp (· = n) h h' := by
  have hnl := hd.lt
  refine W_call hT rfl ?_
  unfold d__law_any_row
  rw [evSs_cons, W_bind, evS_asg]
  simp [-evSs_cons, W_mkL]
  have hv := get_new h (O.lst [])
  have hd2 := hd.app [O.lst []]
  have k2 : Kp (· = n) h (h ++ [O.lst []]) := Kp.app _ _ [O.lst []]
  generalize hve : h.length = v at hv ⊢
  generalize h ++ [O.lst []] = h2 at hv hd2 k2 ⊢
  rw [evSs_cons, W_bind, evS_fr]
  simp [-evSs_cons, -itB_range, evIt_bi]
  rw [it_rangeN p (by omega), W_ok]
  refine W_frI (I := fun i env h' => (∃ a b c, env = [some (.ref n), some (.int (p : Nat)), some (.ref v), a, b, c]) ∧ (∃ x : Nat → Rat, h'[v]? = some (.lst (tb i fun j => Fq (x j))) ∧ ∀ j, j < i → sz 45 (x j)) ∧ Dr n h' ∧ Kp (· = n) h h') (fun _ _ h' _ => chkOk_nil h') ?_ ?_ ⟨⟨_, _, _, rfl⟩, ⟨fun _ => 0, hv, fun j hj => absurd hj (by omega)⟩, hd2, k2⟩
  · rintro i x env h3 hx ⟨⟨a, b, c, rfl⟩, ⟨x, hv3, hxs⟩, hd3, k3⟩
    have hi : i < p := by have := (List.getElem?_eq_some_iff.mp hx).1; simpa using this
    simp [-evSs_cons]
    rw [evSs_cons, W_bind, evS_asg]
    simp [-evSs_cons, W_mkL]
    refine ⟨by decide, ?_⟩
    have hl3 := lt_of_get hv3
    refine W_mono (tk F k n _ (by omega) _ (hd3.app _)) ?_
    rintro d h4 ⟨r4, rfl, hr4, hd4, k4⟩
    have hv4 := k4.get (get_app hv3 _) (by omega)
    refine W_getR (k4.get (get_new _ _) (by have := hd3.lt; omega)) (d := .int ((if r4 = 0 then 1 else if r4 = 1 then 6 else if r4 = 2 then 999 else 999999999989 : Nat) : Int)) (by rcases r4 with _ | _ | _ | _ | r4 <;> first | rfl | omega) ?_
    have hb : 1 ≤ (if r4 = 0 then 1 else if r4 = 1 then 6 else if r4 = 2 then 999 else 999999999989 : Nat) ∧ (if r4 = 0 then 1 else if r4 = 1 then 6 else if r4 = 2 then 999 else 999999999989 : Nat) ≤ 999999999989 := by split <;> (try split) <;> (try split) <;> omega
    generalize (if r4 = 0 then 1 else if r4 = 1 then 6 else if r4 = 2 then 999 else 999999999989 : Nat) = b at hb ⊢
    rw [evSs_cons, W_bind, evS_asg]
    simp [-evSs_cons, W_mkL]
    refine W_mono (tk F k n _ (by omega) _ hd4) ?_
    rintro d h5 ⟨r5, rfl, hr5, hd5, k5⟩
    rw [bin_sub, W_ok]
    refine W_mono (tk F k n _ (by omega) _ hd5) ?_
    rintro d h6 ⟨r6, rfl, hr6, hd6, k6⟩
    have hv6 := k6.get (k5.get hv4 (by omega)) (by omega)
    simp [-evSs_cons]
    refine ⟨mulokL' (by omega) (by omega), by simp only [sizeLine_eq]; omega, ?_⟩
    refine W_mono (tk F k n _ (by omega) _ (hd6.app _)) ?_
    rintro d h7 ⟨r7, rfl, hr7, hd7, k7⟩
    have hv7 := k7.get (get_app hv6 _) (by omega)
    refine W_getR (k7.get (get_new _ _) (by have := hd6.lt; omega)) (d := .int (if r7 = 0 then 0 else if r7 = 1 then (r5 : Int) - 500 else (r6 : Int) * 1000000000 + 7)) (by rcases r7 with _ | _ | _ | r7 <;> first | rfl | omega) ?_
    have ha : -500 ≤ (if r7 = 0 then 0 else if r7 = 1 then (r5 : Int) - 500 else (r6 : Int) * 1000000000 + 7) ∧ (if r7 = 0 then 0 else if r7 = 1 then (r5 : Int) - 500 else (r6 : Int) * 1000000000 + 7) ≤ 1000 * 1000000000 := by split <;> (try split) <;> omega
    generalize (if r7 = 0 then 0 else if r7 = 1 then (r5 : Int) - 500 else (r6 : Int) * 1000000000 + 7) = a at ha ⊢
    simp
    rw [sp_fraction F.fr k _ _ (by omega), W_ok]
    have hsz : sz 45 (Rat.divInt a (b : Int)) := sz_divInt (by omega) (by omega) (by omega)
    generalize Rat.divInt a (b : Int) = y at hsz ⊢
    rw [W_append h7 hv7]
    have hl7 := lt_of_get hv7
    refine ⟨by simp only [sizeLine_eq, tb_len]; omega, ⟨fun j => if j = i then y else x j, ?_, fun j hj => ?_⟩, hd7.keep (Kp.set (x := (· = v)) rfl _ _) (by omega), ((((k3.trans ((Kp.app _ _ _).trans k4)).trans k5).trans k6).trans ((Kp.app _ _ _).trans k7)).setNew (n := v) (by omega) _⟩
    · rw [get_set hl7, tb_succ]
      simp only [if_true]
      congr 3
      exact tb_congr fun j hj => by rw [if_neg (by omega)]
    · by_cases e : j = i
      · simp only [if_pos e]; exact hsz
      · simp only [if_neg e]; exact hxs j (by omega)
  · rintro env h3 ⟨⟨a, b, c, rfl⟩, ⟨x, hv3, hxs⟩, hd3, k3⟩
    simp
    rw [bi_tupR h3 hv3]
    simp at hxs
    simp
    exact ⟨x, rfl, hxs, hd3, k3⟩
/-- a full row -/
theorem sp_fullrow (hT : T "_law_full_row" = some ⟨2, 5, d__law_full_row⟩) (k : Nat) (n p : Nat) (hp : 0 < p) (hp2 : p ≤ 12) (h : Hh) (hd : Dr n h) :
    W (callF T (k + 2) "_law_full_row" [.ref n, .int (p : Nat)] h) fun d h' => ∃ q : Nat → Rat, d = Vt p q ∧ LeapsOk p q ∧ CdR p q ∧ Dr n h' ∧ Kp (· = n) h h' := by
  have hnl := hd.lt
  refine W_call hT rfl ?_
  unfold d__law_full_row
  rw [evSs_cons, W_bind, evS_asg]
  simp [-evSs_cons, -itB_range, Ip.ev_lc, evIt_bi]
  rw [it_rangeN p (by omega), W_ok]
  refine W_lcQ (fun i y => ∃ w : Nat, y = .int (w : Nat) ∧ w < 1000) (fun h2 => Dr n h2 ∧ Kp (· = n) h h2) (fun h' _ => chkOk_nil h') ?_ ?_ ⟨hd, Kp.refl _ _⟩
  · rintro i x h2 hi hx ⟨hd2, k2⟩
    simp [eltO, elt1, asgN, wipeE, W_mkL]
    refine W_mono (tk F k n _ (by omega) _ hd2) ?_
    rintro d h3 ⟨r3, rfl, hr3, hd3, k3⟩
    refine W_mono (tk F k n _ (by omega) _ hd3) ?_
    rintro d h4 ⟨r4, rfl, hr4, hd4, k4⟩
    refine ⟨by simp only [sizeLine_eq]; omega, ?_⟩
    refine W_mono (tk F k n _ (by omega) _ (hd4.app _)) ?_
    rintro d h5 ⟨r5, rfl, hr5, hd5, k5⟩
    refine W_getR (k5.get (get_new _ _) (by have := hd4.lt; omega)) (d := .int ((if r5 = 0 then 0 else if r5 = 1 then r3 else r4 : Nat) : Int)) (by rcases r5 with _ | _ | _ | r5 <;> first | rfl | omega) ?_
    have hr' : (if r5 = 0 then 0 else if r5 = 1 then r3 else r4) < 1000 := by split <;> (try split) <;> omega
    generalize (if r5 = 0 then 0 else if r5 = 1 then r3 else r4 : Nat) = r at hr' ⊢
    refine ⟨?_, hd5, ((k2.trans k3).trans k4).trans ((Kp.app _ _ _).trans k5)⟩
    first | exact hr' | exact ⟨r, rfl, hr'⟩ | (simp; omega)
  · intro g h3 hg ⟨hd3, k3⟩
    simp at hg
    obtain ⟨w', ew, hw'⟩ := pick hg
    simp [-evSs_cons, W_mkL]
    rw [ew]
    refine ⟨by simp only [sizeLine_eq]; omega, ?_⟩
    have hv4 := get_new h3 (O.lst (tb p fun i => D.int (w' i : Nat)))
    have hd4 := hd3.app [O.lst (tb p fun i => D.int (w' i : Nat))]
    have k4 := k3.trans (Kp.app _ _ [O.lst (tb p fun i => D.int (w' i : Nat))])
    have hl3 := k3.1
    generalize h3.length = v' at hv4 hl3 ⊢
    generalize h3 ++ [O.lst (tb p fun i => D.int (w' i : Nat))] = h4 at hv4 hd4 k4 ⊢
    rw [evSs_cons, W_bind, evS_asg]
    simp [-evSs_cons]
    refine W_mono (tk F k n 99 (by omega) _ hd4) ?_
    rintro d h5 ⟨r5, rfl, hr5, hd5, k5⟩
    rw [bin_add, W_ok]
    refine W_mono (tk F k n _ (by omega) _ hd5) ?_
    rintro d h6 ⟨r6, rfl, hr6, hd6, k6⟩
    have hv6 := k6.get (k5.get hv4 (by omega)) (by omega)
    have hr6' : r6 < p := by omega
    refine W_setR hv6 (j := r6) (ixN_nat (by simpa using hr6')) ?_
    have hv7 := get_set (lt_of_get hv6) (O.lst ((tb p fun i => D.int (w' i : Nat)).set r6 (.int (1 + (r5 : Int)))))
    have hd7 := hd6.keep (Kp.set (x := (· = v')) rfl h6 (O.lst ((tb p fun i => D.int (w' i : Nat)).set r6 (.int (1 + (r5 : Int)))))) (by omega)
    have k7 := ((k4.trans k5).trans k6).setNew (n := v') (by omega) (O.lst ((tb p fun i => D.int (w' i : Nat)).set r6 (.int (1 + (r5 : Int)))))
    generalize h6.set v' (O.lst ((tb p fun i => D.int (w' i : Nat)).set r6 (.int (1 + (r5 : Int))))) = h7 at hv7 hd7 k7 ⊢
    rw [tb_set _ _ hr6', tb_congr (g := fun i => D.int ((if i = r6 then 1 + r5 else w' i : Nat) : Int)) (fun i hi => by split <;> simp)] at hv7
    obtain ⟨q, q1, q2, hsum, hq⟩ := by_weights F k 0 (fun _ _ => []) p hp hp2 h7 v' (fun i => if i = r6 then 1 + r5 else w' i) hv7 (fun i hi => by have := hw' i hi; split <;> omega) ⟨r6, hr6', by simp only [if_true]; omega⟩
    rw [evSs_cons, W_bind, evS_ret]
    simp [Ip.ev_lc, evIt, it_R hv7]
    refine W_lcF (fun i => Fq (q i)) (fun h2 => h2 = h7) (fun h2 e q hq => by rw [List.mem_singleton.mp hq, e]; exact hv7) ?_ ?_ rfl
    · rintro i x h2 hi hx rfl
      simp at hi
      rw [tb_get _ hi] at hx
      injection hx with hx; subst hx
      simp [eltO, elt1, asgN, wipeE, hsum]
      rw [hq i hi, W_ok]
      exact ⟨rfl, rfl⟩
    · rintro h2 rfl
      simp [W_mkL]
      refine ⟨by simp only [sizeLine_eq]; omega, ?_⟩
      rw [bi_tupR _ (get_new _ _), W_ok]
      exact ⟨_, rfl, q1, q2, hd7.app _, k7.trans (Kp.app _ _ _)⟩
end
end Ip

/-! Ir, part D: a law of draws, turn by turn; many steps and their numbers' sizes. -/
namespace Ip
open PySem

def w_walked : List Stt := [
  .fr (.var 5) (.bi .range [.var 4]) [.asg (.var 3) (.call "behind" [.var 0, .var 1, .var 2, .var 3])],
  .ret (.bi .tuple [.var 3])]
abbrev dcond (M : Int) : Ex := .or (.cmp .lt (.var 2) (.int 1)) (.and (.cmp .ne (.var 1) (.lst [])) (.cmp .lt (.var 2) (.int M)))
/-- a law of draws, so many turns at most -/
theorem dlaw {T : Tb} (hD : T "_law_draws" = some ⟨1, 6, bdDraws⟩) (M : Nat) {m : Nat} {body : List Stt}
    (hT : T "law" = some ⟨1, m + 3, [.asg (.var 1) (.call "_law_draws" [.var 0]), .asg (.var 2) (.int 0), .whl (dcond M) body, .ret (.bl true)]⟩)
    (I : Env → Prop) (h0 : I (List.replicate m none))
    (step : ∀ (fz : D) (n k : Nat) (r : Env) (h : Hh), I r → Dr n h → W (evSs (callF T 11) body (some fz :: some (.ref n) :: some (.int (k : Nat)) :: r) h) fun fl h2 => (∃ r', fl = .nx (some fz :: some (.ref n) :: some (.int ((k : Int) + 1)) :: r') ∧ I r') ∧ Dr n h2) :
    ∀ ns : List Int, ns.length ≤ 63 → ∃ h', callF T 12 "law" [.frz (ns.map D.int)] [] = .ok (.bl true) h' := by
  intro ns hl
  obtain ⟨d, h', e, rfl⟩ : W (callF T 12 "law" [.frz (ns.map D.int)] []) fun d _ => d = .bl true := by
    refine W_call (k := 11) hT rfl ?_
    rw [show ([D.frz (ns.map D.int)].map some ++ List.replicate (m + 3 - [D.frz (ns.map D.int)].length) none) = some (D.frz (ns.map D.int)) :: none :: none :: List.replicate m none from rfl]
    rw [evSs_cons, W_bind, evS_asg]
    simp [-evSs_cons]
    refine W_mono (sp_draws hD 10 ns hl []) ?_
    rintro d h1 ⟨n, rfl, _, hd1, _⟩
    rw [evSs_cons, W_bind, evS_asg]
    simp [-evSs_cons]
    rw [evSs_cons, W_bind, evS_whl]
    refine W_whO (I := fun u env h => Dr n h ∧ ∃ (k : Nat) (r : Env), env = some (D.frz (ns.map D.int)) :: some (.ref n) :: some (.int (k : Nat)) :: r ∧ I r ∧ u = M + 1 - k) ?_ ⟨hd1, 0, _, rfl, h0, rfl⟩
    rintro u env h ⟨hd, k, r, rfl, hI, rfl⟩
    have cond : W (evT (callF T 11) (dcond M) (some (D.frz (ns.map D.int)) :: some (.ref n) :: some (.int (k : Nat)) :: r) h) fun t h2 => Dr n h2 ∧ (t = true → k < M + 1) := by
      obtain ⟨ds, hn⟩ := hd
      have hn1 : (h ++ [O.lst []])[n]? = some (.lst (ds.map D.int)) := by rw [List.getElem?_append_left (lt_of_get hn)]; exact hn
      simp [W_mkL]
      refine ⟨fun h0 => ⟨⟨ds, hn⟩, by omega⟩, fun h1 => ?_⟩
      rw [cmp_neL (h ++ [O.lst []]) (ys := []) hn1 (by simp) (by simp) (by simp)]
      simp
      exact ⟨fun _ => ⟨⟨ds, hn1⟩, by omega⟩, fun _ => ⟨ds, hn1⟩⟩
    refine W_mono cond ?_
    rintro t h2 ⟨hd2, ht⟩
    refine ⟨fun et => ?_, fun et => ?_⟩
    · refine W_mono (step (D.frz (ns.map D.int)) n k r h2 hI hd2) ?_
      rintro fl h3 ⟨⟨r', rfl, hI'⟩, hd3⟩
      exact ⟨M + 1 - (k + 1), by have := ht et; omega, hd3, k + 1, r', by push_cast; rfl, hI', rfl⟩
    · simp
  exact ⟨h', e⟩
/-! many steps -/
def itr (n : Nat) (P : Nat → Nat → Rat) : Nat → (Nat → Rat) → Nat → Rat
  | 0, x => x
  | t + 1, x => stp n P (itr n P t x)
theorem itr_add (n : Nat) (P : Nat → Nat → Rat) (s : Nat) (x : Nat → Rat) : ∀ t, itr n P (s + t) x = itr n P t (itr n P s x)
  | 0 => rfl
  | t + 1 => by show stp n P (itr n P (s + t) x) = _; rw [itr_add n P s x t]; rfl
theorem sp_walked {T : Tb} (F : KB T) (hT : T "walked" = some ⟨5, 6, w_walked⟩) {m : Nat} {ls : List (Int × Int)} {l : Rat} {q : Nat → Rat} (w : Wo m ls l q) (k t : Nat) (ht : t < 1000) (x : Nat → Rat) (bh : ∀ s, s < t → Bh m (itr m (Pm ls l q) s x) (Pm ls l q)) (h : Hh) :
    W (callF T (k + 6) "walked" [Wb m ls, Fq l, Vt m q, Vt m x, .int (t : Nat)] h) fun d h' => d = Vt m (itr m (Pm ls l q) t x) ∧ Kn h h' := by
  refine W_call hT rfl ?_
  unfold w_walked
  rw [evSs_cons, W_bind, evS_fr]
  simp [-evSs_cons, -itB_range, evIt_bi]
  rw [it_rangeN t (by omega), W_ok]
  refine W_frI (I := fun i env h' => (∃ a, env = [some (Wb m ls), some (Fq l), some (Vt m q), some (Vt m (itr m (Pm ls l q) i x)), some (.int (t : Nat)), a]) ∧ Kn h h') (fun _ _ h' _ => chkOk_nil h') ?_ ?_ ⟨⟨_, rfl⟩, Kp.refl _ _⟩
  · rintro i y env h1 hx ⟨⟨a, rfl⟩, k1⟩
    have hi : i < t := by have := (List.getElem?_eq_some_iff.mp hx).1; simpa using this
    rw [tb_get _ hi] at hx
    injection hx with hx; subst hx
    simp
    refine W_mono (sp_behind F k m (by have := w.web.n1; omega) ls (by have := w.web.len; omega) l w.leap.size q w.hq _ (bh i hi) h1) ?_
    rintro d h2 ⟨rfl, k2⟩
    exact ⟨rfl, k1.trans k2⟩
  · rintro env h1 ⟨⟨a, rfl⟩, k1⟩
    simp
    exact k1
/-- a number of one below, no more than so much -/
theorem sz_of {q : Rat} {D a b : Nat} {B : Nat} (h0 : 0 < D) (hD : D < 2 ^ a) (hB : B < 2 ^ b) (hi : isI (q * D)) (hq : ab q ≤ B) : sz (a + b) q := by
  obtain ⟨u, hu⟩ := hi
  rw [of_mul h0 hu]
  have hDq : (0 : Rat) ≤ (D : Rat) := by exact_mod_cast Nat.zero_le _
  have e1 : ab (q * D) = ab q * D := ab_mulr hDq q
  have e2 : ab (q * D) ≤ (B : Rat) * D := by
    rw [e1]
    have := Rat.mul_le_mul_of_nonneg_left hq hDq
    grind
  rw [hu] at e2
  have e3 : ab (u : Rat) = ((u.natAbs : Nat) : Rat) := by
    unfold ab
    by_cases hn : u < 0
    · rw [if_pos (by exact_mod_cast hn)]
      have : ((u.natAbs : Nat) : Int) = -u := by omega
      rw [show ((u.natAbs : Nat) : Rat) = (((u.natAbs : Nat) : Int) : Rat) from rfl, this]; push_cast; rfl
    · rw [if_neg (by intro z; exact hn (by exact_mod_cast z))]
      have : ((u.natAbs : Nat) : Int) = u := by omega
      rw [show ((u.natAbs : Nat) : Rat) = (((u.natAbs : Nat) : Int) : Rat) from rfl, this]
  rw [e3] at e2
  have e4 : u.natAbs ≤ B * D := by exact_mod_cast e2
  have e5 : B * D ≤ 2 ^ b * 2 ^ a := Nat.mul_le_mul (by omega) (by omega)
  have e6 : B * D < 2 ^ (a + b) := by
    rw [Nat.add_comm, Nat.pow_add]
    exact Nat.lt_of_le_of_lt (Nat.mul_le_mul_right _ (by omega : B ≤ 2 ^ b)) (Nat.mul_lt_mul_of_pos_left hD (Nat.two_pow_pos b))
  refine sz_divInt (by omega) (by omega) ?_
  have : (2 : Nat) ^ a ≤ 2 ^ (a + b) := Nat.pow_le_pow_right (by omega) (by omega)
  simpa using Nat.lt_of_lt_of_le hD this
/-- the numbers of a row: of one below, together no more than so much -/
structure Cx (n D B : Nat) (x : Nat → Rat) : Prop where
  i : ∀ j, j < n → isI (x j * D)
  b : n1 n x ≤ B
theorem n1_term {n : Nat} {x : Nat → Rat} {j : Nat} (hj : j < n) : ab (x j) ≤ n1 n x := sm_term (f := fun i => ab (x i)) (fun i _ => ab_nn _) hj
theorem sm_isI {n : Nat} {f : Nat → Rat} (h : ∀ i, i < n → isI (f i)) : ∀ p, p ≤ n → isI (sm p f)
  | 0, _ => ⟨0, rfl⟩
  | p + 1, hp => isI_add (sm_isI h p (by omega)) (h p (by omega))
theorem sm_up {n : Nat} {f : Nat → Rat} (h : ∀ i, i < n → 0 ≤ f i) : ∀ p, p ≤ n → sm p f ≤ sm n f := by
  intro p hp
  obtain ⟨d, rfl⟩ : ∃ d, n = p + d := ⟨n - p, by omega⟩
  rw [sm_append]
  have := sm_nn (f := fun i => f (p + i)) (n := d) fun i hi => h (p + i) (by omega)
  grind
section
variable {m : Nat} {ls : List (Int × Int)} {l : Rat} {q : Nat → Rat} (w : Wo m ls l q) {E : Nat} (e0 : 0 < E) (e1 : E < 2 ^ 200) (hE : ∀ i j, i < m → j < m → isI (Pm ls l q i j * E))
include w
theorem n1_stp (x : Nat → Rat) : n1 m (stp m (Pm ls l q) x) ≤ n1 m x := by
  have wk := w.wk
  unfold n1 stp
  have h : sm m (fun j => ab (sm m fun i => x i * Pm ls l q i j)) ≤ sm m fun j => sm m fun i => ab (x i) * Pm ls l q i j := by
    refine sm_le fun j hj => Rat.le_trans (ab_sm _ m) (sm_le fun i hi => ?_)
    rw [ab_mulr (wk.p0 i j hi hj)]; exact Rat.le_refl
  refine Rat.le_trans h ?_
  rw [← sm_comm, sm_congr (g := fun i => ab (x i)) fun i hi => ?_]
  · exact Rat.le_refl
  · rw [sm_mul, wk.p1 i hi]; grind
include e0 e1 hE
theorem Cx.up {D B : Nat} {x : Nat → Rat} (c : Cx m D B x) : Cx m (D * E) B (stp m (Pm ls l q) x) := by
  refine ⟨fun j hj => ?_, Rat.le_trans (n1_stp w x) c.b⟩
  unfold stp
  rw [← sm_mul']
  refine sm_isI (n := m) (fun i hi => ?_) m (Nat.le_refl _)
  have : x i * Pm ls l q i j * ((D * E : Nat) : Rat) = (x i * D) * (Pm ls l q i j * E) := by push_cast; grind
  rw [this]
  exact isI_mul (c.i i hi) (hE i j hi hj)
theorem Cx.bh {D B : Nat} {x : Nat → Rat} (c : Cx m D B x) (d0 : 0 < D) {a b : Nat} (hD : D * E < 2 ^ a) (hB : B < 2 ^ b) (hab : a + b ≤ 60000000) : Bh m x (Pm ls l q) := by
  have wk := w.wk
  have hde : 0 < D * E := Nat.mul_pos d0 e0
  have hD' : D < 2 ^ a := Nat.lt_of_le_of_lt (Nat.le_mul_of_pos_right _ e0) hD
  have hxi : ∀ i j, i < m → j < m → isI (x i * Pm ls l q i j * ((D * E : Nat) : Rat)) := fun i j hi hj => by
    have : x i * Pm ls l q i j * ((D * E : Nat) : Rat) = (x i * D) * (Pm ls l q i j * E) := by push_cast; grind
    rw [this]
    exact isI_mul (c.i i hi) (hE i j hi hj)
  have hle : ∀ i j, i < m → j < m → ab (x i) * Pm ls l q i j ≤ ab (x i) := fun i j hi hj => by
    have := Rat.mul_le_mul_of_nonneg_left (wk.pl1 i j hi hj) (ab_nn (x i))
    grind
  refine ⟨fun i hi => toBig (sz_of d0 hD' hB (c.i i hi) (Rat.le_trans (n1_term hi) c.b)) hab, fun i j hi hj => toBig (sz_of hde hD hB (hxi i j hi hj) ?_) hab, fun p j hp hj => toBig (sz_of hde hD hB ?_ ?_) hab⟩
  · rw [ab_mulr (wk.p0 i j hi hj)]
    exact Rat.le_trans (hle i j hi hj) (Rat.le_trans (n1_term hi) c.b)
  · rw [← sm_mul']
    exact sm_isI (n := m) (fun i hi => hxi i j hi hj) p hp
  · refine Rat.le_trans (ab_sm _ p) ?_
    have h1 : sm p (fun i => ab (x i * Pm ls l q i j)) ≤ sm m (fun i => ab (x i * Pm ls l q i j)) := sm_up (fun i _ => ab_nn _) p hp
    refine Rat.le_trans h1 (Rat.le_trans (sm_le (g := fun i => ab (x i)) fun i hi => ?_) c.b)
    rw [ab_mulr (wk.p0 i j hi hj)]
    exact hle i j hi hj
theorem Cx.many {D B : Nat} {x : Nat → Rat} (c : Cx m D B x) : ∀ t, Cx m (D * E ^ t) B (itr m (Pm ls l q) t x)
  | 0 => by rw [Nat.pow_zero, Nat.mul_one]; exact c
  | t + 1 => by
    have := Cx.up w e0 e1 hE (Cx.many c t)
    rw [Nat.mul_assoc, ← Nat.pow_succ] at this
    exact this
theorem Cx.bhs {D B : Nat} {x : Nat → Rat} (c : Cx m D B x) (d0 : 0 < D) {a b t : Nat} (hD : D < 2 ^ a) (hB : B < 2 ^ b) (hab : a + b + 200 * t + 200 ≤ 60000000) : ∀ s, s ≤ t → Bh m (itr m (Pm ls l q) s x) (Pm ls l q) := by
  intro s hs
  have hEs : ∀ u, E ^ u ≤ 2 ^ (200 * u) := fun u => by
    rw [Nat.pow_mul]; exact Nat.pow_le_pow_left (by omega) u
  have h1 : D * E ^ s * E < 2 ^ (a + 200 * (s + 1)) := by
    rw [Nat.mul_assoc, ← Nat.pow_succ, Nat.pow_add]
    exact Nat.lt_of_le_of_lt (Nat.mul_le_mul_left _ (hEs (s + 1))) (Nat.mul_lt_mul_of_pos_right hD (Nat.two_pow_pos _))
  exact Cx.bh w e0 e1 hE (Cx.many w e0 e1 hE c s) (Nat.mul_pos d0 (Nat.pow_pos e0)) h1 hB (by omega)
end
/-- any row of numbers of so many bits -/
def dp (x : Nat → Rat) : Nat → Nat
  | 0 => 1
  | n + 1 => dp x n * (x n).den
theorem dp_pos (x : Nat → Rat) : ∀ n, 0 < dp x n
  | 0 => Nat.one_pos
  | n + 1 => Nat.mul_pos (dp_pos x n) (x n).den_pos
theorem dp_isI (x : Nat → Rat) {j : Nat} : ∀ {n}, j < n → isI (x j * dp x n)
  | n + 1, hj => by
    show isI (x j * ((dp x n * (x n).den : Nat) : Rat))
    push_cast
    rcases Nat.lt_or_ge j n with h | h
    · rw [← Rat.mul_assoc]; exact isI_mul (dp_isI x h) (isI_nat _)
    · have e : j = n := by omega
      subst e
      rw [show x j * ((dp x j : Rat) * ((x j).den : Rat)) = (x j * ((x j).den : Rat)) * (dp x j : Rat) by grind]
      exact isI_mul (den_mulI _) (isI_nat _)
theorem dp_lt (x : Nat → Rat) {s : Nat} : ∀ {n}, (∀ j, j < n → sz s (x j)) → dp x n < 2 ^ (s * n + 1)
  | 0, _ => by simp [dp]
  | n + 1, h => by
    have a := dp_lt x fun j hj => h j (Nat.lt_succ_of_lt hj)
    have b := (h n (by omega)).2
    show dp x n * (x n).den < _
    rw [show s * (n + 1) + 1 = (s * n + 1) + s by rw [Nat.mul_add]; omega, Nat.pow_add]
    exact Nat.lt_of_le_of_lt (Nat.mul_le_mul_left _ (Nat.le_of_lt b)) (Nat.mul_lt_mul_of_pos_right a (Nat.two_pow_pos s))
theorem ab_sz {s : Nat} {q : Rat} (h : sz s q) : ab q ≤ ((2 ^ s : Nat) : Rat) := by
  have hd := q.den_pos
  have e : q = Rat.divInt q.num q.den := (Rat.num_divInt_den q).symm
  have e2 : ab q = Rat.divInt (q.num.natAbs : Int) q.den := by rw [ab_divInt (by omega), Rat.num_divInt_den]
  rw [e2, Rat.divInt_eq_div]
  have h1 : ((q.num.natAbs : Int) : Rat) ≤ ((2 ^ s : Nat) : Rat) := by exact_mod_cast Nat.le_of_lt h.1
  have h2 : (0 : Rat) < ((q.den : Int) : Rat) := by exact_mod_cast hd
  have h3 := Rat.lt_div_iff (a := ((2 ^ s : Nat) : Rat)) (b := ((q.num.natAbs : Int) : Rat)) h2
  have h4 : ((2 ^ s : Nat) : Rat) ≤ ((2 ^ s : Nat) : Rat) * ((q.den : Int) : Rat) := by exact_mod_cast Nat.le_mul_of_pos_right _ hd
  rw [← Rat.not_lt, h3, Rat.not_lt]
  exact Rat.le_trans h1 h4
theorem Cx.of {n s : Nat} (hn : n ≤ 12) {x : Nat → Rat} (h : ∀ j, j < n → sz s (x j)) : Cx n (dp x n) (12 * 2 ^ s) x := by
  refine ⟨fun j hj => dp_isI x hj, ?_⟩
  have a : n1 n x ≤ sm n fun _ => ((2 ^ s : Nat) : Rat) := sm_le fun i hi => ab_sz (h i hi)
  rw [sm_const] at a
  refine Rat.le_trans a ?_
  exact_mod_cast Nat.mul_le_mul_right _ hn
/-- steps of any row of no more than 45 bits a number -/
theorem bhs45 {m : Nat} {ls : List (Int × Int)} {l : Rat} {q : Nat → Rat} (w : Wo m ls l q) {x : Nat → Rat} (h : ∀ j, j < m → sz 45 (x j)) {t : Nat} (ht : t ≤ 1000) : ∀ s, s ≤ t → Bh m (itr m (Pm ls l q) s x) (Pm ls l q) := by
  obtain ⟨E, e0, e1, hE⟩ := CdM_Pm w.web.len w.leap.size w.cd
  have hm := w.web.n1
  have hD := dp_lt x h
  have hD2 : dp x m < 2 ^ 541 := Nat.lt_of_lt_of_le hD (Nat.pow_le_pow_right (by omega) (by omega))
  exact Cx.bhs w e0 e1 hE (Cx.of hm h) (dp_pos x m) (a := 541) (b := 50) hD2 (by decide) (by omega)
end Ip

/-! Iy, part A: texts of signs; leaps by kinds. -/
namespace Ip
open PySem
/-! ### texts by their signs -/
abbrev kt (cs : List Nat) : Str := ⟨cs.toArray⟩
theorem kt_tl (cs : List Nat) : (kt cs).cps.toList = cs := rfl
theorem kt_len (cs : List Nat) : (kt cs).length = cs.length := by simp [Str.length]
theorem kt_of (x : Str) : x = kt x.cps.toList := TL.ext_tl rfl
theorem kt_signs (cs : List Nat) : signs (kt cs) = cs.map fun c => .str (sg c) := rfl
theorem kt_append (a b : List Nat) : kt a ++ kt b = kt (a ++ b) := TL.ext_tl (by rw [TL.tl_append])
theorem kt_inj {a b : List Nat} : kt a = kt b ↔ a = b := ⟨fun h => congrArg (fun x : Str => x.cps.toList) h, fun h => h ▸ rfl⟩
theorem sg_inj {a b : Nat} : sg a = sg b ↔ a = b := ⟨fun h => by have := kt_inj (a := [a]) (b := [b]) |>.mp h; exact (List.cons.inj this).1, fun h => h ▸ rfl⟩
theorem count_kt (cs : List Nat) (c : Nat) : Txt.count (kt cs) (sg c) = ((cs.count c : Nat) : Int) := by
  rw [PyProof.Rows.count_is]
  show PyProof.Rows.cnt c cs = _
  induction cs with
  | nil => rfl
  | cons x cs ih =>
    rw [PyProof.Rows.cnt_cons, ih, List.count_cons]
    by_cases e : x = c
    · simp [e]; omega
    · simp [e]
theorem join_kt (ps : List (List Nat)) : Txt.join (kt []) (ps.map kt) = kt ps.flatten := by
  rw [TL.join_eq]
  refine TL.ext_tl ?_
  rw [TL.tl_join, List.map_map]
  show TL.joinL [] (ps.map id) = ps.flatten
  rw [List.map_id]
  induction ps with
  | nil => rfl
  | cons p ps ih =>
    cases ps with
    | nil => simp [TL.joinL]
    | cons q ps => simp only [TL.joinL] at ih ⊢; simp [ih]
theorem bi_lenK (cs : List Nat) (hl : cs.length ≤ 16777216) (h : Hh) : evB .len [.str (kt cs)] h = .ok (.int (cs.length : Nat)) h := by
  rw [bi_lenS h _ (by rw [kt_len, sizeLine_eq]; exact hl), kt_len]
theorem getIx_K (cs : List Nat) (hl : cs.length ≤ 16777216) (h : Hh) {k : Int} {c : Nat} (e : L2.atI cs k = some c) : getIx (.str (kt cs)) (.int k) h = .ok (.str (sg c)) h :=
  getIx_S h _ (by rw [kt_len, sizeLine_eq]; exact hl) e
theorem bi_lenSg (c : Nat) (h : Hh) : evB .len [.str (sg c)] h = .ok (.int 1) h := bi_lenK [c] (by simp) h
theorem atI_N {α : Type} {n i : Nat} (f : Nat → α) (h1 : i < n) : L2.atI (tb n f) (i : Int) = some (f i) := by
  unfold L2.atI L2.ixN
  rw [if_pos (by omega), if_pos (by simp; omega)]
  simp [tb_get f h1]
/-! ### leaps by kinds -/
def d_leaps_of : List Stt := [
  .ite (.or (.not (.bi .isinst [.var 1, .con (.ty "str")])) (.or (.cmp .ne (.bi .len [.var 1]) (.int 1)) (.cmp .notin (.var 1) (.var 0)))) [.raise "NoKind"] [],
  .asg (.var 2) (.call "made" [.int 1, .mt .count (.var 0) [.var 1]]),
  .ret (.bi .tuple [.lc (.var 0) (.var 3) (.ix (.lst [.con dNo, .var 2]) (.bi .int [.cmp .eq (.var 3) (.var 1)])) [3]])]
def leapK (cs : List Nat) (c : Nat) (i : Nat) : Rat := if cs[i]? = some c then rt 1 (cs.count c) else 0
section
variable {T : Tb} (hC : T "common" = some ⟨2, 4, bdCommon⟩) (hM : T "made" = some ⟨2, 3, bdMade⟩) (hL : T "leaps_of" = some ⟨2, 4, d_leaps_of⟩)
include hC hM hL
theorem sp_leapsOf (k : Nat) {cs : List Nat} {c : Nat} (hc : c ∈ cs) (hl : cs.length ≤ 12) (h : Hh) :
    W (callF T (k + 3) "leaps_of" [.str (kt cs), .str (sg c)] h) fun d h' => d = Vt cs.length (leapK cs c) ∧ Kn h h' := by
  have hn : 0 < cs.count c := List.count_pos_iff.mpr hc
  refine W_call hL rfl ?_
  unfold d_leaps_of
  rw [evSs_cons, W_bind, evS_ite]
  simp [-evSs_cons]
  rw [bi_lenSg]
  simp [-evSs_cons, hc]
  (try rw [evSs_nil, W_ok, nxt_nx])
  rw [evSs_cons, W_bind, evS_asg]
  simp [-evSs_cons]
  rw [show Txt.count (kt cs) (kt [c]) = _ from count_kt cs c, sp_made hC hM k 1 _ (by omega), W_ok]
  rw [show Rat.divInt 1 ((cs.count c : Nat) : Int) = rt 1 (cs.count c) from rfl]
  rw [evSs_cons, W_bind, evS_ret]
  simp [-evSs_cons, Ip.ev_lc, evIt]
  refine W_lcF (fun i => Fq (leapK cs c i)) (fun h' => Kn h h') (fun h' e q hq => by simp at hq) ?_ ?_ (Kp.refl _ _)
  · rintro i x h1 hi hx k1
    rw [kt_signs, List.length_map] at hi
    rw [kt_signs, List.getElem?_map, List.getElem?_eq_getElem hi] at hx
    injection hx with hx; subst hx
    simp [eltO, elt1, asgN, wipeE, W_mkL, two_size]
    refine W_getR (get_new h1 _) (d := Fq (leapK cs c i)) ?_ ⟨rfl, k1.trans (Kp.app _ _ _)⟩
    unfold leapK
    rw [List.getElem?_eq_getElem hi]
    by_cases e : cs[i] = c
    · rw [if_pos (by rw [e])]
      simp [e]; rfl
    · rw [if_neg (by simpa using e)]
      simp [e, sg_inj]; rfl
  · rintro h1 k1
    rw [kt_signs, List.length_map]
    simp only [W_mkL, W_bind, W_ok, tb_len]
    refine ⟨by simp only [sizeLine_eq]; omega, ?_⟩
    rw [bi_tupR _ (get_new _ _)]
    simp
    exact ⟨rfl, k1.trans (Kp.app _ _ _)⟩
omit hC hM in
/-- a letter that no page has, and what is no letter -/
def NoLet (cs : List Nat) (d : D) : Prop := isInst d "str" = some false ∨ (∃ xs : List Nat, d = .str (kt xs) ∧ xs.length ≤ 100 ∧ xs.length ≠ 1) ∨ ∃ c, d = .str (sg c) ∧ c ∉ cs
omit hC hM in
theorem x_leapsOf (k : Nat) {cs : List Nat} {d : D} (no : NoLet cs d) (h : Hh) : callF T (k + 1) "leaps_of" [.str (kt cs), d] h = .exn "NoKind" h := by
  rw [callF]
  simp only [hL, runF]
  rw [need_pos (by rfl)]
  show Out.bind (evSs (callF T k) d_leaps_of [some (.str (kt cs)), some d, none, none] h) _ = _
  unfold d_leaps_of
  rcases no with no | ⟨xs, rfl, h1, h2⟩ | ⟨c, rfl, h1⟩
  · simp [no]
  · have h3 : ¬ ((xs.length : Int) = 1) := by omega
    simp [bi_lenK xs (by omega) h, h3]
  · simp [bi_lenSg, h1]
end
theorem tkk {T : Tb} (hT : T "_law_take" = some ⟨2, 2, bdTake⟩) (k : Nat) (n : Nat) (m : Int) (hm : 0 < m) (h : Hh) (hd : Dr n h) :
    W (callF T (k + 1) "_law_take" [.ref n, .int m] h) fun d h' => ∃ r : Nat, d = .int (r : Nat) ∧ (r : Int) < m ∧ Dr n h' ∧ Kp (· = n) h h' := by
  refine W_mono (sp_take hT k n m hm h hd) ?_
  rintro d h' ⟨r, rfl, r0, r1, hd, kk⟩
  exact ⟨r.toNat, by rw [Int.toNat_of_nonneg r0], by omega, hd, kk⟩
theorem sum_sg : ∀ l : List Nat, ((l.map sg).map (·.length)).sum = l.length
  | [] => rfl
  | c :: l => by
    rw [List.map_cons, List.map_cons, List.sum_cons, sum_sg l, List.length_cons]
    show 1 + l.length = l.length + 1
    omega
def d__law_kinds : List Stt := [
  .asg (.var 2) (.str "abcdefghijklmnopqrstuvwxyz"),
  .asg (.var 3) (.ix (.lst [.int 1, .int 2, .int 3, .int 6, .int 12, .int 26]) (.call "_law_take" [.var 0, .int 6])),
  .asg (.var 4) (.call "_law_take" [.var 0, .bin .sub (.int 27) (.var 3)]),
  .ret (.mt .join (.str "") [.lc (.bi .range [.var 1]) (.var 5) (.ix (.var 2) (.bin .add (.var 4) (.call "_law_take" [.var 0, .var 3]))) [5]])]
theorem abc_kt : (("abcdefghijklmnopqrstuvwxyz" : String) : Str) = kt (tb 26 fun i => 97 + i) := TL.ext_tl (by first | rfl | decide +kernel)
theorem nil_kt : (("" : String) : Str) = kt [] := TL.ext_tl (by first | rfl | decide +kernel)
def LetOk (cs : List Nat) : Prop := ∀ c, c ∈ cs → 97 ≤ c ∧ c < 123
theorem sp_kinds {T : Tb} (hT : T "_law_take" = some ⟨2, 2, bdTake⟩) (hK : T "_law_kinds" = some ⟨2, 6, d__law_kinds⟩) (k n m : Nat) (hm : m ≤ 12) (h : Hh) (hd : Dr n h) :
    W (callF T (k + 2) "_law_kinds" [.ref n, .int (m : Nat)] h) fun d h' => ∃ cs : List Nat, d = .str (kt cs) ∧ cs.length = m ∧ LetOk cs ∧ Dr n h' ∧ Kp (· = n) h h' := by
  have hnl := hd.lt
  refine W_call hK rfl ?_
  unfold d__law_kinds
  rw [evSs_cons, W_bind, evS_asg]
  simp [-evSs_cons]
  rw [evSs_cons, W_bind, evS_asg]
  simp [-evSs_cons, W_mkL]
  refine ⟨by decide, ?_⟩
  refine W_mono (tkk hT k n 6 (by omega) _ (hd.app _)) ?_
  rintro d h1 ⟨r, rfl, hr, hd1, k1⟩
  refine W_getR (k1.get (get_new _ _) (by omega)) (d := .int ((if r = 0 then 1 else if r = 1 then 2 else if r = 2 then 3 else if r = 3 then 6 else if r = 4 then 12 else 26 : Nat) : Int)) (by rcases r with _ | _ | _ | _ | _ | _ | r <;> first | rfl | omega) ?_
  have hw : 1 ≤ (if r = 0 then 1 else if r = 1 then 2 else if r = 2 then 3 else if r = 3 then 6 else if r = 4 then 12 else 26 : Nat) ∧ (if r = 0 then 1 else if r = 1 then 2 else if r = 2 then 3 else if r = 3 then 6 else if r = 4 then 12 else 26 : Nat) ≤ 26 := by repeat (first | omega | split)
  generalize (if r = 0 then 1 else if r = 1 then 2 else if r = 2 then 3 else if r = 3 then 6 else if r = 4 then 12 else 26 : Nat) = w at hw ⊢
  rw [evSs_cons, W_bind, evS_asg]
  simp [-evSs_cons]
  refine W_mono (tkk hT k n _ (by omega) _ hd1) ?_
  rintro d h2 ⟨f, rfl, hf, hd2, k2⟩
  have k02 : Kp (· = n) h h2 := ((Kp.app _ _ _).trans k1).trans k2
  rw [evSs_cons, W_bind, evS_ret]
  simp [-evSs_cons, Ip.ev_lc, evIt_bi, -itB_range]
  rw [it_rangeN m (by omega), W_ok]
  refine W_lcQ (fun _ y => ∃ c : Nat, y = .str (sg c) ∧ 97 ≤ c ∧ c < 123) (fun h' => Dr n h' ∧ Kp (· = n) h h') (fun h' _ => chkOk_nil h') ?_ ?_ ⟨hd2, k02⟩
  · rintro i x h' hi hx ⟨hd', k'⟩
    simp [eltO, elt1, asgN, wipeE]
    rw [tb_len] at hi
    rw [tb_get _ hi] at hx
    injection hx with hx; subst hx
    refine W_mono (tkk hT k n _ (by omega) _ hd') ?_
    rintro d h3 ⟨q, rfl, hq, hd3, k3⟩
    rw [bin_add, W_ok, abc_kt, getIx_K _ (by simp) h3 (k := (f : Int) + (q : Int)) (c := 97 + (f + q)) (by
      rw [show (f : Int) + (q : Int) = ((f + q : Nat) : Int) by omega, atI_N _ (by omega)])]
    simp
    exact ⟨by omega, hd3, k'.trans k3⟩
  · rintro g h' hg ⟨hd', k'⟩
    rw [tb_len] at hg ⊢
    obtain ⟨cf, hcf⟩ : ∃ cf : Nat → Nat, ∀ i, i < m → g i = .str (sg (cf i)) ∧ 97 ≤ cf i ∧ cf i < 123 := by
      refine ⟨fun i => if hi : i < m then Classical.choose (hg i hi) else 0, fun i hi => ?_⟩
      simp only [dif_pos hi]
      exact Classical.choose_spec (hg i hi)
    have e1 : tb m g = ((tb m cf).map sg).map D.str := by
      rw [tb_map, tb_map]
      exact tb_congr fun i hi => (hcf i hi).1
    simp only [W_mkL, W_bind, W_ok, tb_len]
    refine ⟨by simp only [sizeLine_eq]; omega, ?_⟩
    rw [e1]
    refine W_join _ (get_new _ _) ?_ ?_
    · rw [sum_sg, List.length_map, nil_kt, kt_len, tb_len]
      simp
      omega
    · have e2 : (tb m cf).map sg = ((tb m cf).map fun c => [c]).map kt := by rw [List.map_map]; rfl
      rw [nil_kt, e2, join_kt]
      refine ⟨tb m cf, ?_, by simp, fun c hc => ?_, hd'.app _, k'.trans (Kp.app _ _ _)⟩
      · congr 2
        induction (tb m cf) with
        | nil => rfl
        | cons a l ih => simp [ih]
      · obtain ⟨i, hi, rfl⟩ := tb_mem hc
        exact (hcf i hi).2
theorem foldr_max_lt {b : Nat} (hb : 0 < b) : ∀ {cs : List Nat}, (∀ c, c ∈ cs → c < b) → cs.foldr max 0 < b
  | [], _ => hb
  | c :: cs, h => by
    rw [List.foldr_cons]
    exact Nat.max_lt.mpr ⟨h c (by simp), foldr_max_lt hb fun x hx => h x (by simp [hx])⟩
theorem letters_len {cs : List Nat} (ok : LetOk cs) : (letters (kt cs)).length ≤ 123 := by
  unfold letters
  refine Nat.le_trans (List.length_filter_le _ _) ?_
  rw [List.length_range]
  exact foldr_max_lt (b := 123) (by omega) fun c hc => (ok c hc).2
theorem letters_ne {cs : List Nat} (h : 0 < cs.length) : 0 < (letters (kt cs)).length := by
  cases cs with
  | nil => simp at h
  | cons c cs => exact List.length_pos_of_mem ((mem_letters (kt (c :: cs)) c).mpr (by simp))
/-! ### refused things -/
theorem eq_tf3 {a b : Nat} {h : Hh} (ha : h[a]? = some (.lst [.bl true, .bl true, .bl false])) (hb : h[b]? = some (.lst [.bl true, .bl true, .bl false])) : cmpop .eq (.ref a) (.ref b) h = .ok (.bl true) h := by
  have t : ∀ c, h[c]? = some (.lst [.bl true, .bl true, .bl false]) → toP 66 h (.ref c) = some (.list [.bool true, .bool true, .bool false]) := fun c hc => by
    show (match h[c]? with
      | some (.lst ds) => (ds.mapM (toP 65 h)).map PyData.list
      | _ => none) = _
    rw [hc]; rfl
  show ofB h (eqD h (.ref a) (.ref b)) = _
  unfold eqD
  rw [t a ha, t b hb]
  have s1 : SeqAt.shaped (.list [.bool true, .bool true, .bool false]) = true := by decide +kernel
  have s2 : PyData.eqv (.list [.bool true, .bool true, .bool false]) (.list [.bool true, .bool true, .bool false]) = true := by decide +kernel
  simp only [s1, s2, Bool.and_self, if_true]
  rfl
def y__law_refused : List Stt := [
  .asg (.var 2) (.lst []),
  .tryK [.ex (.call "leaps_of" [.var 0, .var 1])] [("NoKind", [true, true, false])] 2 4,
  .ret (.cmp .eq (.var 2) (.lst [.bl true, .bl true, .bl false]))]
theorem sp_refusedK {T : Tb} (hL : T "leaps_of" = some ⟨2, 4, d_leaps_of⟩) (hT : T "_law_refused" = some ⟨2, 4, y__law_refused⟩) (k : Nat) {cs : List Nat} {d : D} (no : NoLet cs d) (h : Hh) :
    W (callF T (k + 2) "_law_refused" [.str (kt cs), d] h) fun d h' => d = .bl true ∧ Kn h h' := by
  refine W_call hT rfl ?_
  unfold y__law_refused
  rw [evSs_cons, W_bind, evS_asg]
  simp [-evSs_cons, W_mkL]
  have k0 := Kp.app (fun _ => False) h [O.lst []]
  generalize h ++ [O.lst []] = h1 at k0 ⊢
  rw [evSs_cons, W_bind, evS_tryK]
  have body : ∀ a2 : Option D, evSs (callF T (k + 1)) [.ex (.call "leaps_of" [.var 0, .var 1])] [some (.str (kt cs)), some d, a2, none] h1 = .exn "NoKind" h1 := fun a2 => by
    simp [x_leapsOf hL k no h1]
  rw [body, caughtK_is (bs := [true, true, false]) _ _ (by decide +kernel)]
  unfold keptK
  simp [-evSs_cons, W_mkL]
  refine ⟨by decide, ?_⟩
  have g3 := get_new h1 (O.lst [D.bl true, .bl true, .bl false])
  have k3 := k0.trans (Kp.app (fun _ => False) h1 [O.lst [D.bl true, .bl true, .bl false]])
  generalize h1 ++ [O.lst [D.bl true, .bl true, .bl false]] = h3 at g3 k3 ⊢
  rw [evSs_cons, W_bind, evS_ret]
  simp [-evSs_cons, W_mkL]
  refine ⟨by decide, ?_⟩
  rw [eq_tf3 (get_app g3 _) (get_new _ _), W_ok]
  exact ⟨rfl, k3.trans (Kp.app _ _ _)⟩
def y__law_deep : List Stt := [
  .asg (.var 1) (.lst []),
  .fr (.var 2) (.bi .range [.var 0]) [.asg (.var 1) (.lst [.var 1])],
  .ret (.var 1)]
theorem sp_deepL {T : Tb} (hT : T "_law_deep" = some ⟨1, 3, y__law_deep⟩) (k m : Nat) (hm : m < 1000000) (h : Hh) : W (callF T (k + 1) "_law_deep" [.int (m : Nat)] h) fun d h' => (∃ r, d = .ref r) ∧ Kn h h' := by
  refine W_call hT rfl ?_
  unfold y__law_deep
  rw [evSs_cons, W_bind, evS_asg]
  simp [-evSs_cons, W_mkL]
  rw [evSs_cons, W_bind, evS_fr]
  simp [-evSs_cons, evIt_bi, -itB_range]
  rw [it_rangeN m hm, W_ok]
  refine W_frI (I := fun _ env h' => (∃ (r : Nat) (a2 : Option D), env = [some (.int (m : Nat)), some (.ref r), a2]) ∧ Kn h h') (fun _ _ h' _ => chkOk_nil h') ?_ ?_ ⟨⟨_, _, rfl⟩, Kp.app _ _ _⟩
  · rintro i x env h' hx ⟨⟨r, a2, rfl⟩, k'⟩
    simp [W_mkL]
    exact ⟨by decide, k'.trans (Kp.app _ _ _)⟩
  · rintro env h' ⟨⟨r, a2, rfl⟩, k'⟩
    simp
    exact k'
end Ip

/-! Iy, part B: equal data with texts; shares by kinds. -/
namespace Ip
open PySem
/-! ### data with texts -/
def Gs : Nat → D → Prop
  | _, .int _ => True
  | _, .non => True
  | _, .bl _ => True
  | _, .str x => PyData.strOk x = true
  | n + 1, .tup ds => ∀ d, d ∈ ds → Gs n d
  | _, _ => False
theorem mapM_ex {α β : Type} {f : α → Option β} {Q : β → Prop} : ∀ {xs : List α}, (∀ x, x ∈ xs → ∃ y, f x = some y ∧ Q y) → ∃ ys, xs.mapM f = some ys ∧ ∀ y, y ∈ ys → Q y
  | [], _ => ⟨[], rfl, by simp⟩
  | x :: xs, h => by
    obtain ⟨y, e, q⟩ := h x (by simp)
    obtain ⟨ys, e2, q2⟩ := mapM_ex (f := f) (Q := Q) (xs := xs) fun z hz => h z (by simp [hz])
    refine ⟨y :: ys, by simp [List.mapM_cons, e, e2], fun z hz => ?_⟩
    rcases List.mem_cons.mp hz with rfl | hz
    · exact q
    · exact q2 z hz
theorem toP_Gs (h : Hh) : ∀ (n : Nat) (d : D) (m : Nat), Gs n d → n ≤ m → ∃ p, toP m h d = some p ∧ p.canLay0 = true ∧ p.depth ≤ n
  | n, .int i, m, _, _ => ⟨.int i, by cases m <;> rfl, rfl, by simp [PyData.depth]⟩
  | n, .non, m, _, _ => ⟨.none, by cases m <;> rfl, rfl, by simp [PyData.depth]⟩
  | n, .bl b, m, _, _ => ⟨.bool b, by cases m <;> rfl, rfl, by simp [PyData.depth]⟩
  | n, .str x, m, g, _ => ⟨.str x, by cases m <;> rfl, by cases n <;> exact g, by simp [PyData.depth]⟩
  | 0, .tup ds, m, g, _ => False.elim g
  | n + 1, .tup ds, 0, g, h => absurd h (by omega)
  | n + 1, .tup ds, m + 1, g, hm => by
    obtain ⟨ps, e, q⟩ := mapM_ex (f := toP m h) (Q := fun p => p.canLay0 = true ∧ p.depth ≤ n) (xs := ds) fun d hd => toP_Gs h n d m (g d hd) (by omega)
    refine ⟨.tuple ps, ?_, ?_, ?_⟩
    · show (ds.mapM (toP m h)).map PyData.tuple = _
      rw [e]; rfl
    · rw [PyData.canLay0]
      exact canLayAll0_of fun p hp => (q p hp).1
    · have := depthAll_of (n := n) fun p hp => (q p hp).2
      simp only [PyData.depth]
      omega
  | 0, .ty _, _, g, _ => False.elim g
  | 0, .frz _, _, g, _ => False.elim g
  | 0, .ref _, _, g, _ => False.elim g
  | 0, .dct _ _, _, g, _ => False.elim g
  | 0, .obj _, _, g, _ => False.elim g
  | n + 1, .ty _, _, g, _ => False.elim g
  | n + 1, .frz _, _, g, _ => False.elim g
  | n + 1, .ref _, _, g, _ => False.elim g
  | n + 1, .dct _ _, _, g, _ => False.elim g
  | n + 1, .obj _, _, g, _ => False.elim g
theorem eqv_self {p : PyData} (h : p.canLay0 = true) : PyData.eqv p p = true := SeqAt.eqv_refl_plain p (PyData.plain_of_canLay0 _ h)
theorem eqL_self {a b : Nat} {xs : List D} {h : Hh} (ha : h[a]? = some (.lst xs)) (hb : h[b]? = some (.lst xs)) (g : ∀ x, x ∈ xs → Gs 60 x) : eqD h (.ref a) (.ref b) = some true := by
  obtain ⟨ps, e, q⟩ := mapM_ex (f := toP 65 h) (Q := fun p => p.canLay0 = true ∧ p.depth ≤ 60) (xs := xs) fun d hd => toP_Gs h 60 d 65 (g d hd) (by omega)
  have t : ∀ r, h[r]? = some (.lst xs) → toP 66 h (.ref r) = some (.list ps) := fun r hr => by
    show (match h[r]? with
      | some (.lst ds) => (ds.mapM (toP 65 h)).map PyData.list
      | _ => none) = _
    rw [hr]
    show (xs.mapM (toP 65 h)).map PyData.list = _
    rw [e]; rfl
  have c : (PyData.list ps).canLay0 = true := by
    rw [PyData.canLay0]
    exact canLayAll0_of fun p hp => (q p hp).1
  have s : SeqAt.shaped (.list ps) = true := by
    unfold SeqAt.shaped
    have := depthAll_of (n := 60) fun p hp => (q p hp).2
    rw [c, Bool.true_and]
    exact decide_eq_true (by show PyData.depthAll _ + 1 ≤ 64; omega)
  unfold eqD
  rw [t a ha, t b hb]
  simp only [s, Bool.and_self, if_true, eqv_self c]
theorem ne_selfL {a b : Nat} {xs : List D} {h : Hh} (ha : h[a]? = some (.lst xs)) (hb : h[b]? = some (.lst xs)) (g : ∀ x, x ∈ xs → Gs 60 x) : cmpop .ne (.ref a) (.ref b) h = .ok (.bl false) h := by
  show ofB h ((eqD h (.ref a) (.ref b)).map not) = _
  rw [eqL_self ha hb g]; rfl
theorem eq_selfL {a b : Nat} {xs : List D} {h : Hh} (ha : h[a]? = some (.lst xs)) (hb : h[b]? = some (.lst xs)) (g : ∀ x, x ∈ xs → Gs 60 x) : cmpop .eq (.ref a) (.ref b) h = .ok (.bl true) h := by
  show ofB h (eqD h (.ref a) (.ref b)) = _
  rw [eqL_self ha hb g]; rfl
theorem Gs_Fq (n : Nat) (q : Rat) : Gs (n + 1) (Fq q) := fun d hd => by
  simp only [List.mem_cons, List.not_mem_nil, or_false] at hd
  rcases hd with rfl | rfl <;> (cases n <;> trivial)
theorem Gs_V (n m : Nat) (f : Nat → Rat) : Gs (n + 2) (Vt m f) := fun d hd => by
  obtain ⟨i, _, rfl⟩ := tb_mem hd
  exact Gs_Fq n _
theorem strOk128 : ∀ c, c < 128 → PyData.strOk (sg c) = true := by decide +kernel
/-! ### leaps by kinds are leaps -/
theorem leapK_rt (cs : List Nat) (c : Nat) : leapK cs c = fun i => rt (if cs[i]? = some c then 1 else 0) (cs.count c) := by
  funext i
  unfold leapK
  split
  · rfl
  · unfold rt; simp
theorem tb_opt {α β : Type} (cs : List α) (f : Option α → β) : (tb cs.length fun i => f cs[i]?) = cs.map fun c => f (some c) := by
  apply List.ext_getElem?
  intro i
  by_cases hi : i < cs.length
  · rw [tb_get _ hi, List.getElem?_map, List.getElem?_eq_getElem hi]; rfl
  · rw [List.getElem?_eq_none (by simp; omega), List.getElem?_eq_none (by simp; omega)]
theorem sum_is (c : Nat) : ∀ cs : List Nat, ((cs.map fun x => if some x = some c then (1 : Int) else 0).sum) = ((cs.count c : Nat) : Int)
  | [] => rfl
  | x :: cs => by
    rw [List.map_cons, List.sum_cons, sum_is c cs, List.count_cons]
    by_cases e : x = c
    · simp [e]; omega
    · simp [e]
theorem leapK_ok {cs : List Nat} {c : Nat} (hc : c ∈ cs) (hl : cs.length ≤ 12) : LeapsOk cs.length (leapK cs c) ∧ CdR cs.length (leapK cs c) := by
  have h0 : 0 < cs.count c := List.count_pos_iff.mpr hc
  have h1 := List.count_le_length (a := c) (l := cs)
  rw [leapK_rt]
  refine ⟨leaps_of (w := fun i => if cs[i]? = some c then 1 else 0) ?_ h0, ⟨cs.count c, h0, by omega, fun j _ => ⟨_, by split <;> omega, rfl⟩⟩⟩
  have e : (tb cs.length fun i => (((if cs[i]? = some c then 1 else 0) : Nat) : Int)) = tb cs.length fun i => (fun o : Option Nat => if o = some c then (1 : Int) else 0) cs[i]? := tb_congr fun i _ => by
    dsimp only
    split <;> rfl
  rw [e, tb_opt cs fun o : Option Nat => if o = some c then (1 : Int) else 0]
  exact (sum_is c cs).symm
theorem woK {m : Nat} {ls : List (Int × Int)} {l : Rat} {cs : List Nat} {c : Nat} (web : WebOk m ls) (lok : LeapOk l) (hm : cs.length = m) (hc : c ∈ cs) : Wo m ls l (leapK cs c) := by
  subst hm
  obtain ⟨a, b⟩ := leapK_ok hc web.n1
  exact ⟨web, lok, a, b⟩
/-! ### shares by kinds -/
def y_by_kinds : List Stt := [
  .ret (.lc (.sset (.var 2)) (.var 3) (.tup [.var 3, .call "shares" [.var 0, .var 1, .call "leaps_of" [.var 2, .var 3]]]) [3])]
/-- the letters by their places -/
def lt_ (cs : List Nat) (i : Nat) : Nat := (letters (kt cs))[i]!
theorem lt_tb (cs : List Nat) : letters (kt cs) = tb (letters (kt cs)).length (lt_ cs) := tb_of _
theorem lt_mem {cs : List Nat} {i : Nat} (hi : i < (letters (kt cs)).length) : lt_ cs i ∈ cs := by
  unfold lt_
  rw [getElem!_pos (letters (kt cs)) i hi]
  exact (mem_letters (kt cs) _).mp (List.getElem_mem hi)
/-- what by_kinds tells -/
def BK (cs : List Nat) (m : Nat) (X : Nat → Nat → Rat) : List D := tb (letters (kt cs)).length fun i => .tup [.str (sg (lt_ cs i)), Vt m (X i)]
def BKok (cs : List Nat) (m : Nat) (ls : List (Int × Int)) (l : Rat) (X : Nat → Nat → Rat) : Prop := ∀ i, i < (letters (kt cs)).length → Sh m (Pm ls l (leapK cs (lt_ cs i))) (X i) ∧ ∀ j, j < m → sz 830000 (X i j)
def BKP (cs : List Nat) (m : Nat) (ls : List (Int × Int)) (l : Rat) (h : Hh) (d : D) (h' : Hh) : Prop := ∃ r X, d = .ref r ∧ h.length ≤ r ∧ h'[r]? = some (.lst (BK cs m X)) ∧ BKok cs m ls l X ∧ Kn h h'
theorem sp_by_kinds {T : Tb} (F : KR T) (hL : T "leaps_of" = some ⟨2, 4, d_leaps_of⟩) (hB : T "by_kinds" = some ⟨3, 4, y_by_kinds⟩) (k : Nat) {m : Nat} {ls : List (Int × Int)} {l : Rat} {cs : List Nat} (web : WebOk m ls) (lok : LeapOk l) (hm : cs.length = m) (ok : LetOk cs) (h : Hh) :
    W (callF T (k + 7) "by_kinds" [Wb m ls, Fq l, .str (kt cs)] h) (BKP cs m ls l h) := by
  have m12 := web.n1
  have ll := letters_len ok
  refine W_call hB rfl ?_
  unfold y_by_kinds
  rw [evSs_cons, W_bind, evS_ret]
  simp [-evSs_cons, Ip.ev_lc, evIt]
  refine W_sset h (by rw [kt_len]; omega) (by rw [sizeLine_eq]; omega) ?_
  have gr := get_new h (O.lst ((letters (kt cs)).map fun c => D.str (sg c)))
  have k1 : Kn h (h ++ [O.lst ((letters (kt cs)).map fun c => D.str (sg c))]) := Kp.app _ _ _
  generalize h.length = r at gr ⊢
  generalize h ++ [O.lst ((letters (kt cs)).map fun c => D.str (sg c))] = h1 at gr k1 ⊢
  have el : ((letters (kt cs)).map fun c => D.str (sg c)) = tb (letters (kt cs)).length fun i => D.str (sg (lt_ cs i)) := by
    conv => lhs; rw [lt_tb cs]
    rw [tb_map]
  rw [el] at gr
  rw [it_R gr, W_ok]
  refine W_lcQ (fun i y => ∃ x : Nat → Rat, y = .tup [.str (sg (lt_ cs i)), Vt m x] ∧ Sh m (Pm ls l (leapK cs (lt_ cs i))) x ∧ ∀ j, j < m → sz 830000 (x j)) (fun h' => Kn h h' ∧ h'[r]? = some (.lst (tb (letters (kt cs)).length fun i => D.str (sg (lt_ cs i))))) (fun h' p q hq => by rw [List.mem_singleton.mp hq]; exact p.2) ?_ ?_ ⟨k1, gr⟩
  · rintro i x h2 hi hx ⟨k2, g2⟩
    rw [tb_len] at hi
    rw [tb_get _ hi] at hx
    injection hx with hx; subst hx
    have hc := lt_mem hi
    simp [eltO, elt1, asgN, wipeE]
    refine W_mono (sp_leapsOf F.common F.made hL (k + 3) hc (by omega) h2) ?_
    rintro d h3 ⟨rfl, k3⟩
    rw [hm]
    refine W_mono ((woK web lok hm hc).shares F k h3) ?_
    rintro d h4 ⟨x, rfl, sh, sx, k4⟩
    simp [two_size]
    exact ⟨⟨x, rfl, sh, sx⟩, (k2.trans k3).trans k4, Kn.get k4 (Kn.get k3 g2)⟩
  · rintro g h2 hg ⟨k2, g2⟩
    rw [tb_len] at hg ⊢
    obtain ⟨X, hX⟩ : ∃ X : Nat → Nat → Rat, ∀ i, i < (letters (kt cs)).length → g i = .tup [.str (sg (lt_ cs i)), Vt m (X i)] ∧ Sh m (Pm ls l (leapK cs (lt_ cs i))) (X i) ∧ ∀ j, j < m → sz 830000 (X i j) := by
      refine ⟨fun i => if hi : i < (letters (kt cs)).length then Classical.choose (hg i hi) else fun _ => 0, fun i hi => ?_⟩
      simp only [dif_pos hi]
      exact Classical.choose_spec (hg i hi)
    have e : tb (letters (kt cs)).length g = BK cs m X := tb_congr fun i hi => (hX i hi).1
    simp only [W_mkL, W_bind, W_ok, tb_len, W_need, evB, fTuple]
    rw [e]
    refine ⟨by rw [sizeLine_eq]; omega, ?_⟩
    (try simp)
    exact ⟨_, X, rfl, k2.1, get_new _ _, fun i hi => (hX i hi).2, k2.trans (Kp.app _ _ _)⟩
end Ip

namespace K39
open PySem PySem.Spec PyProof.Rows L2 Ip
def c_NOUGHT_shares : D := .tup [.int 0, .int 1]
def c_ONE : D := .tup [.int 1, .int 1]
def c_NOUGHT_kinds : D := .tup [.int 0, .int 1]
def cf : Cf := ⟨[("NOUGHT_shares", c_NOUGHT_shares), ("ONE", c_ONE), ("NOUGHT_kinds", c_NOUGHT_kinds)], ["common", "made", "plus", "less", "times", "by", "leads", "ways", "equations", "taken_off", "solved", "shares", "leaps_of", "by_kinds", "_law_draws", "_law_take", "_law_fraction", "_law_sum", "_law_rest", "_law_product", "_law_total", "_law_are_fractions", "_law_web", "_law_leap", "_law_ways", "_law_behind", "_law_stays", "_law_kinds", "_law_right", "law"], [], [], ["NoKind"], []⟩
def n_common : List Str := ["one", "other", "left", "right"]
def b_common : List Stt := [
  .asg (.tup [.var 2, .var 3]) (.tup [.bi .abs [.var 0], .bi .abs [.var 1]]),
  .whl (.cmp .gt (.var 3) (.int 0)) [.asg (.tup [.var 2, .var 3]) (.tup [.var 3, .bin .mod (.var 2) (.var 3)])],
  .ret (.var 2)]
def f_common : Fn := ⟨2, 4, b_common⟩
def n_made : List Str := ["above", "below", "divisor"]
def b_made : List Stt := [
  .asg (.var 2) (.call "common" [.var 0, .var 1]),
  .ite (.cmp .lt (.var 1) (.int 0)) [.asg (.var 2) (.neg (.var 2))] [],
  .ret (.tup [.bin .fdiv (.var 0) (.var 2), .bin .fdiv (.var 1) (.var 2)])]
def f_made : Fn := ⟨2, 3, b_made⟩
def n_plus : List Str := ["one", "other"]
def b_plus : List Stt := [
  .ret (.call "made" [.bin .add (.bin .mul (.ix (.var 0) (.int 0)) (.ix (.var 1) (.int 1))) (.bin .mul (.ix (.var 1) (.int 0)) (.ix (.var 0) (.int 1))), .bin .mul (.ix (.var 0) (.int 1)) (.ix (.var 1) (.int 1))])]
def f_plus : Fn := ⟨2, 2, b_plus⟩
def n_less : List Str := ["one", "other"]
def b_less : List Stt := [
  .ret (.call "made" [.bin .sub (.bin .mul (.ix (.var 0) (.int 0)) (.ix (.var 1) (.int 1))) (.bin .mul (.ix (.var 1) (.int 0)) (.ix (.var 0) (.int 1))), .bin .mul (.ix (.var 0) (.int 1)) (.ix (.var 1) (.int 1))])]
def f_less : Fn := ⟨2, 2, b_less⟩
def n_times : List Str := ["one", "other"]
def b_times : List Stt := [
  .ret (.call "made" [.bin .mul (.ix (.var 0) (.int 0)) (.ix (.var 1) (.int 0)), .bin .mul (.ix (.var 0) (.int 1)) (.ix (.var 1) (.int 1))])]
def f_times : Fn := ⟨2, 2, b_times⟩
def n_by : List Str := ["one", "other"]
def b_by : List Stt := [
  .ret (.call "made" [.bin .mul (.ix (.var 0) (.int 0)) (.ix (.var 1) (.int 1)), .bin .mul (.ix (.var 0) (.int 1)) (.ix (.var 1) (.int 0))])]
def f_by : Fn := ⟨2, 2, b_by⟩
def n_leads : List Str := ["web", "page", "start", "to"]
def b_leads : List Stt := [
  .ret (.lcIf (.ix (.var 0) (.int 1)) (.tup [.var 2, .var 3]) (.cmp .eq (.var 2) (.var 1)) (.var 3) [2, 3])]
def f_leads : Fn := ⟨2, 4, b_leads⟩
def n_ways : List Str := ["web", "leap", "leaps", "page", "there", "rest", "found", "other", "share", "along"]
def b_ways : List Stt := [
  .asg (.var 4) (.call "leads" [.var 0, .var 3]),
  .ite (.cmp .eq (.var 4) (.lst [])) [.ret (.bi .tuple [.var 2])] [],
  .asg (.var 5) (.call "less" [.tup [.int 1, .int 1], .var 1]),
  .asg (.var 6) (.lst []),
  .fr (.tup [.var 7, .var 8]) (.bi .enumerate [.var 2]) [.asg (.var 9) (.call "times" [.var 5, .call "made" [.mt .count (.var 4) [.var 7], .bi .len [.var 4]]]), .ex (.mt .append (.var 6) [.call "plus" [.call "times" [.var 1, .var 8], .var 9]])],
  .ret (.bi .tuple [.var 6])]
def f_ways : Fn := ⟨4, 10, b_ways⟩
def n_equations : List Str := ["web", "leap", "leaps", "pages", "steps", "rows", "other", "row", "page"]
def b_equations : List Stt := [
  .asg (.var 3) (.ix (.var 0) (.int 0)),
  .asg (.var 4) (.lc (.bi .range [.var 3]) (.var 8) (.call "ways" [.var 0, .var 1, .var 2, .var 8]) [8]),
  .asg (.var 5) (.lst []),
  .fr (.var 6) (.bi .range [.bin .sub (.var 3) (.int 1)]) [.asg (.var 7) (.bin .add (.lc (.bi .range [.var 3]) (.var 8) (.ix (.ix (.var 4) (.var 8)) (.var 6)) [8]) (.lst [.con c_NOUGHT_shares])), .asg (.ix (.var 7) (.var 6)) (.call "less" [.ix (.var 7) (.var 6), .con c_ONE]), .ex (.mt .append (.var 5) [.var 7])],
  .ex (.mt .append (.var 5) [.bin .mul (.lst [.con c_ONE]) (.bin .add (.var 3) (.int 1))]),
  .ret (.var 5)]
def f_equations : Fn := ⟨3, 9, b_equations⟩
def n_taken_off : List Str := ["row", "pivot", "column", "one", "other"]
def b_taken_off : List Stt := [
  .ite (.cmp .eq (.ix (.var 0) (.var 2)) (.con c_NOUGHT_shares)) [.ret (.var 0)] [],
  .ret (.lc (.bi .zip [.var 0, .var 1]) (.tup [.var 3, .var 4]) (.call "less" [.var 3, .call "times" [.ix (.var 0) (.var 2), .var 4]]) [3, 4])]
def f_taken_off : Fn := ⟨3, 5, b_taken_off⟩
def n_solved : List Str := ["rows", "many", "column", "at", "pivot", "number", "row"]
def b_solved : List Stt := [
  .asg (.var 1) (.bi .len [.var 0]),
  .fr (.var 2) (.bi .range [.var 1]) [.asg (.var 3) (.var 2), .whl (.cmp .eq (.ix (.ix (.var 0) (.var 3)) (.var 2)) (.con c_NOUGHT_shares)) [.aug 3 (.int 1)], .asg (.var 4) (.lc (.ix (.var 0) (.var 3)) (.var 5) (.call "by" [.var 5, .ix (.ix (.var 0) (.var 3)) (.var 2)]) [5]), .asg (.ix (.var 0) (.var 3)) (.ix (.var 0) (.var 2)), .asg (.var 0) (.lc (.var 0) (.var 6) (.call "taken_off" [.var 6, .var 4, .var 2]) [6]), .asg (.ix (.var 0) (.var 2)) (.var 4)],
  .ret (.lc (.var 0) (.var 6) (.ix (.var 6) (.var 1)) [6])]
def f_solved : Fn := ⟨1, 7, b_solved⟩
def n_shares : List Str := ["web", "leap", "leaps"]
def b_shares : List Stt := [
  .ret (.bi .tuple [.call "solved" [.call "equations" [.var 0, .var 1, .var 2]]])]
def f_shares : Fn := ⟨3, 3, b_shares⟩
def n_leaps_of : List Str := ["kinds", "letter", "share", "kind"]
def b_leaps_of : List Stt := [
  .ite (.or (.not (.bi .isinst [.var 1, .con (.ty "str")])) (.or (.cmp .ne (.bi .len [.var 1]) (.int 1)) (.cmp .notin (.var 1) (.var 0)))) [.raise "NoKind"] [],
  .asg (.var 2) (.call "made" [.int 1, .mt .count (.var 0) [.var 1]]),
  .ret (.bi .tuple [.lc (.var 0) (.var 3) (.ix (.lst [.con c_NOUGHT_kinds, .var 2]) (.bi .int [.cmp .eq (.var 3) (.var 1)])) [3]])]
def f_leaps_of : Fn := ⟨2, 4, b_leaps_of⟩
def n_by_kinds : List Str := ["web", "leap", "kinds", "letter"]
def b_by_kinds : List Stt := [
  .ret (.lc (.sset (.var 2)) (.var 3) (.tup [.var 3, .call "shares" [.var 0, .var 1, .call "leaps_of" [.var 2, .var 3]]]) [3])]
def f_by_kinds : Fn := ⟨3, 4, b_by_kinds⟩
def n__law_draws : List Str := ["script", "draws", "k", "rest", "stir", "many"]
def b__law_draws : List Stt := [
  .asg (.var 1) (.lst []),
  .fr (.var 2) (.bi .range [.bi .min [.bi .len [.var 0], .int 80]]) [.asg (.var 3) (.bi .abs [.ix (.var 0) (.var 2)]), .ite (.cmp .lt (.var 3) (.bin .pow (.int 10) (.int 18))) [.asg (.var 4) (.bin .mod (.bin .mul (.bin .mod (.bin .add (.bin .add (.var 3) (.bin .mul (.int 7919) (.var 2))) (.int 3)) (.int 2147483647)) (.int 48271)) (.int 2147483647)), .asg (.var 4) (.bin .mod (.bin .mul (.var 4) (.var 4)) (.int 2147483629)), .ex (.mt .append (.var 1) [.bin .mod (.bin .fdiv (.var 4) (.int 16)) (.int 1000)]), .ex (.mt .append (.var 1) [.bin .mod (.bin .fdiv (.var 4) (.int 16000)) (.int 1000)]), .asg (.var 4) (.bin .mod (.bin .add (.var 4) (.bin .mul (.int 40692) (.bin .add (.var 2) (.int 7)))) (.int 2147483587)), .ex (.mt .append (.var 1) [.bin .mod (.bin .fdiv (.bin .mod (.bin .mul (.var 4) (.var 4)) (.int 2147483647)) (.int 16)) (.int 1000)])] [.asg (.var 5) (.int 0), .whl (.and (.cmp .ge (.var 3) (.int 1000)) (.cmp .lt (.var 5) (.int 60))) [.ex (.mt .append (.var 1) [.bin .mod (.var 3) (.int 1000)]), .asg (.var 3) (.bin .fdiv (.var 3) (.int 1000)), .asg (.var 5) (.bin .add (.var 5) (.int 1))]]],
  .ret (.sl (.var 1) (.non) (.int 240))]
def f__law_draws : Fn := ⟨1, 6, b__law_draws⟩
def n__law_take : List Str := ["draws", "many"]
def b__law_take : List Stt := [
  .ite (.cmp .eq (.var 0) (.lst [])) [.ret (.int 0)] [],
  .ret (.bin .mod (.mt .popAt (.var 0) [.int 0]) (.var 1))]
def f__law_take : Fn := ⟨2, 2, b__law_take⟩
def n__law_fraction : List Str := ["above", "below", "one", "other"]
def b__law_fraction : List Stt := [
  .ite (.cmp .lt (.var 1) (.int 0)) [.asg (.var 0) (.bin .sub (.int 0) (.var 0)), .asg (.var 1) (.bin .sub (.int 0) (.var 1))] [],
  .asg (.var 2) (.bi .abs [.var 0]),
  .asg (.var 3) (.var 1),
  .whl (.cmp .gt (.var 3) (.int 0)) [.asg (.tup [.var 2, .var 3]) (.tup [.var 3, .bin .mod (.var 2) (.var 3)])],
  .ret (.tup [.bin .fdiv (.var 0) (.var 2), .bin .fdiv (.var 1) (.var 2)])]
def f__law_fraction : Fn := ⟨2, 4, b__law_fraction⟩
def n__law_sum : List Str := ["one", "other"]
def b__law_sum : List Stt := [
  .ret (.call "_law_fraction" [.bin .add (.bin .mul (.ix (.var 0) (.int 0)) (.ix (.var 1) (.int 1))) (.bin .mul (.ix (.var 1) (.int 0)) (.ix (.var 0) (.int 1))), .bin .mul (.ix (.var 0) (.int 1)) (.ix (.var 1) (.int 1))])]
def f__law_sum : Fn := ⟨2, 2, b__law_sum⟩
def n__law_rest : List Str := ["one", "other"]
def b__law_rest : List Stt := [
  .ret (.call "_law_fraction" [.bin .sub (.bin .mul (.ix (.var 0) (.int 0)) (.ix (.var 1) (.int 1))) (.bin .mul (.ix (.var 1) (.int 0)) (.ix (.var 0) (.int 1))), .bin .mul (.ix (.var 0) (.int 1)) (.ix (.var 1) (.int 1))])]
def f__law_rest : Fn := ⟨2, 2, b__law_rest⟩
def n__law_product : List Str := ["one", "other"]
def b__law_product : List Stt := [
  .ret (.call "_law_fraction" [.bin .mul (.ix (.var 0) (.int 0)) (.ix (.var 1) (.int 0)), .bin .mul (.ix (.var 0) (.int 1)) (.ix (.var 1) (.int 1))])]
def f__law_product : Fn := ⟨2, 2, b__law_product⟩
def n__law_total : List Str := ["row", "total", "part"]
def b__law_total : List Stt := [
  .asg (.var 1) (.tup [.int 0, .int 1]),
  .fr (.var 2) (.var 0) [.asg (.var 1) (.call "_law_sum" [.var 1, .var 2])],
  .ret (.var 1)]
def f__law_total : Fn := ⟨1, 3, b__law_total⟩
def n__law_are_fractions : List Str := ["found", "many", "part"]
def b__law_are_fractions : List Stt := [
  .ite (.or (.not (.bi .isinst [.var 0, .con (.ty "tuple")])) (.cmp .ne (.bi .len [.var 0]) (.var 1))) [.ret (.bl false)] [],
  .fr (.var 2) (.var 0) [.ite (.or (.not (.bi .isinst [.var 2, .con (.ty "tuple")])) (.or (.cmp .ne (.bi .len [.var 2]) (.int 2)) (.or (.bi .isinst [.ix (.var 2) (.int 0), .con (.ty "bool")]) (.bi .isinst [.ix (.var 2) (.int 1), .con (.ty "bool")])))) [.ret (.bl false)] [], .ite (.or (.not (.bi .isinst [.ix (.var 2) (.int 0), .con (.ty "int")])) (.or (.not (.bi .isinst [.ix (.var 2) (.int 1), .con (.ty "int")])) (.cmp .lt (.ix (.var 2) (.int 1)) (.int 1)))) [.ret (.bl false)] [], .ite (.cmp .ne (.call "_law_fraction" [.ix (.var 2) (.int 0), .ix (.var 2) (.int 1)]) (.var 2)) [.ret (.bl false)] []],
  .ret (.bl true)]
def f__law_are_fractions : Fn := ⟨2, 3, b__law_are_fractions⟩
def n__law_web : List Str := ["draws", "many", "links", "k"]
def b__law_web : List Stt := [
  .asg (.var 1) (.bin .add (.int 1) (.call "_law_take" [.var 0, .int 5])),
  .ite (.cmp .eq (.call "_law_take" [.var 0, .int 4]) (.int 1)) [.asg (.var 1) (.bin .add (.int 1) (.call "_law_take" [.var 0, .int 12]))] [],
  .asg (.var 2) (.lst []),
  .fr (.var 3) (.bi .range [.ix (.lst [.call "_law_take" [.var 0, .bin .add (.bin .mul (.int 2) (.var 1)) (.int 1)], .call "_law_take" [.var 0, .int 61]]) (.bi .int [.cmp .eq (.call "_law_take" [.var 0, .int 8]) (.int 1)])]) [.ex (.mt .append (.var 2) [.tup [.bin .mod (.call "_law_take" [.var 0, .int 144]) (.var 1), .bin .mod (.call "_law_take" [.var 0, .int 144]) (.var 1)]])],
  .ret (.tup [.var 1, .bi .tuple [.bi .sorted [.var 2]]])]
def f__law_web : Fn := ⟨1, 4, b__law_web⟩
def n__law_leap : List Str := ["draws", "below", "above"]
def b__law_leap : List Stt := [
  .asg (.var 1) (.ix (.lst [.int 2, .int 7, .int 100, .bin .sub (.bin .pow (.int 10) (.int 12)) (.int 1)]) (.call "_law_take" [.var 0, .int 4])),
  .asg (.var 2) (.bin .mul (.call "_law_take" [.var 0, .int 1000]) (.bin .pow (.int 10) (.int 9))),
  .asg (.var 2) (.bin .add (.var 2) (.bin .mul (.call "_law_take" [.var 0, .int 1000]) (.bin .pow (.int 10) (.int 5)))),
  .asg (.var 2) (.bin .add (.int 1) (.bin .mod (.bin .add (.var 2) (.call "_law_take" [.var 0, .int 1000])) (.var 1))),
  .ret (.ix (.lst [.tup [.int 1, .int 2], .tup [.int 1, .int 1], .tup [.int 3, .int 20], .call "_law_fraction" [.var 2, .var 1]]) (.call "_law_take" [.var 0, .int 4]))]
def f__law_leap : Fn := ⟨1, 3, b__law_leap⟩
def n__law_ways : List Str := ["web", "leap", "leaps", "page", "tos", "found", "beside", "along", "start", "to"]
def b__law_ways : List Stt := [
  .asg (.var 4) (.lcIf (.ix (.var 0) (.int 1)) (.tup [.var 8, .var 9]) (.cmp .eq (.var 8) (.var 3)) (.var 9) [8, 9]),
  .ite (.cmp .eq (.var 4) (.lst [])) [.ret (.bi .list [.var 2])] [],
  .asg (.var 5) (.lst []),
  .fr (.var 6) (.bi .range [.ix (.var 0) (.int 0)]) [.asg (.var 7) (.call "_law_product" [.call "_law_rest" [.tup [.int 1, .int 1], .var 1], .call "_law_fraction" [.mt .count (.var 4) [.var 6], .bi .len [.var 4]]]), .ex (.mt .append (.var 5) [.call "_law_sum" [.call "_law_product" [.var 1, .ix (.var 2) (.var 6)], .var 7]])],
  .ret (.var 5)]
def f__law_ways : Fn := ⟨4, 10, b__law_ways⟩
def n__law_behind : List Str := ["web", "leap", "leaps", "row", "found", "page", "steps", "elder", "step"]
def b__law_behind : List Stt := [
  .asg (.var 4) (.bin .mul (.lst [.tup [.int 0, .int 1]]) (.ix (.var 0) (.int 0))),
  .fr (.var 5) (.bi .range [.ix (.var 0) (.int 0)]) [.asg (.var 6) (.call "_law_ways" [.var 0, .var 1, .var 2, .var 5]), .asg (.var 4) (.lc (.bi .zip [.var 4, .var 6]) (.tup [.var 7, .var 8]) (.call "_law_sum" [.var 7, .call "_law_product" [.ix (.var 3) (.var 5), .var 8]]) [7, 8])],
  .ret (.var 4)]
def f__law_behind : Fn := ⟨4, 9, b__law_behind⟩
def n__law_stays : List Str := ["web", "leap", "leaps", "row", "part"]
def b__law_stays : List Stt := [
  .ite (.or (.not (.call "_law_are_fractions" [.var 3, .ix (.var 0) (.int 0)])) (.cmp .ne (.lcIf (.var 3) (.var 4) (.cmp .lt (.ix (.var 4) (.int 0)) (.int 0)) (.var 4) [4]) (.lst []))) [.ret (.bl false)] [],
  .ret (.and (.cmp .eq (.call "_law_total" [.var 3]) (.tup [.int 1, .int 1])) (.cmp .eq (.call "_law_behind" [.var 0, .var 1, .var 2, .var 3]) (.bi .list [.var 3])))]
def f__law_stays : Fn := ⟨4, 5, b__law_stays⟩
def n__law_kinds : List Str := ["draws", "many", "letters", "wide", "first", "page"]
def b__law_kinds : List Stt := [
  .asg (.var 2) (.str "abcdefghijklmnopqrstuvwxyz"),
  .asg (.var 3) (.ix (.lst [.int 1, .int 2, .int 3, .int 6, .int 12, .int 26]) (.call "_law_take" [.var 0, .int 6])),
  .asg (.var 4) (.call "_law_take" [.var 0, .bin .sub (.int 27) (.var 3)]),
  .ret (.mt .join (.str "") [.lc (.bi .range [.var 1]) (.var 5) (.ix (.var 2) (.bin .add (.var 4) (.call "_law_take" [.var 0, .var 3]))) [5]])]
def f__law_kinds : Fn := ⟨2, 6, b__law_kinds⟩
def n__law_right : List Str := ["web", "leap", "kinds", "found", "letters", "letter", "told", "leaps", "kind"]
def b__law_right : List Stt := [
  .asg (.var 4) (.sset (.var 2)),
  .ite (.or (.not (.bi .isinst [.var 3, .con (.ty "list")])) (.cmp .ne (.bi .len [.var 3]) (.bi .len [.var 4]))) [.ret (.bl false)] [],
  .fr (.tup [.var 5, .var 6]) (.bi .zip [.var 4, .var 3]) [.ite (.or (.not (.bi .isinst [.var 6, .con (.ty "tuple")])) (.or (.cmp .ne (.bi .len [.var 6]) (.int 2)) (.or (.cmp .ne (.ix (.var 6) (.int 0)) (.var 5)) (.not (.bi .isinst [.ix (.var 6) (.int 0), .con (.ty "str")]))))) [.ret (.bl false)] [], .asg (.var 7) (.bi .tuple [.lc (.var 2) (.var 8) (.call "_law_fraction" [.bi .int [.cmp .eq (.var 8) (.var 5)], .mt .count (.var 2) [.var 5]]) [8]]), .ite (.not (.call "_law_stays" [.var 0, .var 1, .var 7, .ix (.var 6) (.int 1)])) [.ret (.bl false)] []],
  .ret (.bl true)]
def f__law_right : Fn := ⟨4, 9, b__law_right⟩
def n_law : List Str := ["script", "draws", "many", "web", "leap", "kinds", "found", "kept"]
def b_law : List Stt := [
  .asg (.var 1) (.call "_law_draws" [.var 0]),
  .asg (.var 2) (.int 0),
  .whl (.or (.cmp .lt (.var 2) (.int 1)) (.and (.cmp .ne (.var 1) (.lst [])) (.cmp .lt (.var 2) (.int 3)))) [.asg (.var 3) (.call "_law_web" [.var 1]), .asg (.var 4) (.call "_law_leap" [.var 1]), .asg (.var 5) (.call "_law_kinds" [.var 1, .ix (.var 3) (.int 0)]), .asg (.var 6) (.call "by_kinds" [.var 3, .var 4, .var 5]), .ite (.not (.call "_law_right" [.var 3, .var 4, .var 5, .var 6])) [.ret (.bl false)] [], .asg (.var 7) (.bi .list [.var 6]), .ex (.mt .append (.var 6) [.non]), .asg (.ix (.var 6) (.int 0)) (.non), .ite (.cmp .ne (.call "by_kinds" [.var 3, .var 4, .var 5]) (.var 7)) [.ret (.bl false)] [], .asg (.var 2) (.bin .add (.var 2) (.int 1))],
  .ret (.bl true)]
def f_law : Fn := ⟨1, 8, b_law⟩
def tab : List (Str × Fn) := [("common", f_common), ("made", f_made), ("plus", f_plus), ("less", f_less), ("times", f_times), ("by", f_by), ("leads", f_leads), ("ways", f_ways), ("equations", f_equations), ("taken_off", f_taken_off), ("solved", f_solved), ("shares", f_shares), ("leaps_of", f_leaps_of), ("by_kinds", f_by_kinds), ("_law_draws", f__law_draws), ("_law_take", f__law_take), ("_law_fraction", f__law_fraction), ("_law_sum", f__law_sum), ("_law_rest", f__law_rest), ("_law_product", f__law_product), ("_law_total", f__law_total), ("_law_are_fractions", f__law_are_fractions), ("_law_web", f__law_web), ("_law_leap", f__law_leap), ("_law_ways", f__law_ways), ("_law_behind", f__law_behind), ("_law_stays", f__law_stays), ("_law_kinds", f__law_kinds), ("_law_right", f__law_right), ("law", f_law)]
def T : Tb := fun x => tab.lookup x
theorem h_common : T "common" = some f_common := by kernel_rfl
theorem h_made : T "made" = some f_made := by kernel_rfl
theorem h_plus : T "plus" = some f_plus := by kernel_rfl
theorem h_less : T "less" = some f_less := by kernel_rfl
theorem h_times : T "times" = some f_times := by kernel_rfl
theorem h_by : T "by" = some f_by := by kernel_rfl
theorem h_leads : T "leads" = some f_leads := by kernel_rfl
theorem h_ways : T "ways" = some f_ways := by kernel_rfl
theorem h_equations : T "equations" = some f_equations := by kernel_rfl
theorem h_taken_off : T "taken_off" = some f_taken_off := by kernel_rfl
theorem h_solved : T "solved" = some f_solved := by kernel_rfl
theorem h_shares : T "shares" = some f_shares := by kernel_rfl
theorem h_leaps_of : T "leaps_of" = some f_leaps_of := by kernel_rfl
theorem h_by_kinds : T "by_kinds" = some f_by_kinds := by kernel_rfl
theorem h__law_draws : T "_law_draws" = some f__law_draws := by kernel_rfl
theorem h__law_take : T "_law_take" = some f__law_take := by kernel_rfl
theorem h__law_fraction : T "_law_fraction" = some f__law_fraction := by kernel_rfl
theorem h__law_sum : T "_law_sum" = some f__law_sum := by kernel_rfl
theorem h__law_rest : T "_law_rest" = some f__law_rest := by kernel_rfl
theorem h__law_product : T "_law_product" = some f__law_product := by kernel_rfl
theorem h__law_total : T "_law_total" = some f__law_total := by kernel_rfl
theorem h__law_are_fractions : T "_law_are_fractions" = some f__law_are_fractions := by kernel_rfl
theorem h__law_web : T "_law_web" = some f__law_web := by kernel_rfl
theorem h__law_leap : T "_law_leap" = some f__law_leap := by kernel_rfl
theorem h__law_ways : T "_law_ways" = some f__law_ways := by kernel_rfl
theorem h__law_behind : T "_law_behind" = some f__law_behind := by kernel_rfl
theorem h__law_stays : T "_law_stays" = some f__law_stays := by kernel_rfl
theorem h__law_kinds : T "_law_kinds" = some f__law_kinds := by kernel_rfl
theorem h__law_right : T "_law_right" = some f__law_right := by kernel_rfl
theorem h_law : T "law" = some f_law := by kernel_rfl
end K39

namespace K39
open PySem PySem.Spec PyProof.Rows L2 Ip
def topS (i : Nat) : Stmt := PySem.Challenge.pw_pagewalks_k39_shares_by_kinds.main.body.getD i (.Pass ⟨0, 0, 0, 0⟩)
abbrev s_common : Stmt := topS 4
theorem sc_common : FnScope n_common ["one", "other"] (defScope s_common) := ⟨rfl, rfl, rfl, by decide +kernel, rfl, by decide +kernel, by decide +kernel⟩
theorem t_common : mapO (trS 60 n_common cf (defScope s_common)) (defBody s_common) = some b_common := by kernel_rfl
abbrev s_made : Stmt := topS 5
theorem sc_made : FnScope n_made ["above", "below"] (defScope s_made) := ⟨rfl, rfl, rfl, by decide +kernel, rfl, by decide +kernel, by decide +kernel⟩
theorem t_made : mapO (trS 60 n_made cf (defScope s_made)) (defBody s_made) = some b_made := by kernel_rfl
abbrev s_plus : Stmt := topS 6
theorem sc_plus : FnScope n_plus ["one", "other"] (defScope s_plus) := ⟨rfl, rfl, rfl, by decide +kernel, rfl, by decide +kernel, by decide +kernel⟩
theorem t_plus : mapO (trS 60 n_plus cf (defScope s_plus)) (defBody s_plus) = some b_plus := by kernel_rfl
abbrev s_less : Stmt := topS 7
theorem sc_less : FnScope n_less ["one", "other"] (defScope s_less) := ⟨rfl, rfl, rfl, by decide +kernel, rfl, by decide +kernel, by decide +kernel⟩
theorem t_less : mapO (trS 60 n_less cf (defScope s_less)) (defBody s_less) = some b_less := by kernel_rfl
abbrev s_times : Stmt := topS 8
theorem sc_times : FnScope n_times ["one", "other"] (defScope s_times) := ⟨rfl, rfl, rfl, by decide +kernel, rfl, by decide +kernel, by decide +kernel⟩
theorem t_times : mapO (trS 60 n_times cf (defScope s_times)) (defBody s_times) = some b_times := by kernel_rfl
abbrev s_by : Stmt := topS 9
theorem sc_by : FnScope n_by ["one", "other"] (defScope s_by) := ⟨rfl, rfl, rfl, by decide +kernel, rfl, by decide +kernel, by decide +kernel⟩
theorem t_by : mapO (trS 60 n_by cf (defScope s_by)) (defBody s_by) = some b_by := by kernel_rfl
abbrev s_leads : Stmt := topS 11
theorem sc_leads : FnScope n_leads ["web", "page"] (defScope s_leads) := ⟨rfl, rfl, rfl, by decide +kernel, rfl, by decide +kernel, by decide +kernel⟩
theorem t_leads : mapO (trS 60 n_leads cf (defScope s_leads)) (defBody s_leads) = some b_leads := by kernel_rfl
abbrev s_ways : Stmt := topS 13
theorem sc_ways : FnScope n_ways ["web", "leap", "leaps", "page"] (defScope s_ways) := ⟨rfl, rfl, rfl, by decide +kernel, rfl, by decide +kernel, by decide +kernel⟩
theorem t_ways : mapO (trS 60 n_ways cf (defScope s_ways)) (defBody s_ways) = some b_ways := by kernel_rfl
abbrev s_equations : Stmt := topS 17
theorem sc_equations : FnScope n_equations ["web", "leap", "leaps"] (defScope s_equations) := ⟨rfl, rfl, rfl, by decide +kernel, rfl, by decide +kernel, by decide +kernel⟩
theorem t_equations : mapO (trS 60 n_equations cf (defScope s_equations)) (defBody s_equations) = some b_equations := by kernel_rfl
abbrev s_taken_off : Stmt := topS 18
theorem sc_taken_off : FnScope n_taken_off ["row", "pivot", "column"] (defScope s_taken_off) := ⟨rfl, rfl, rfl, by decide +kernel, rfl, by decide +kernel, by decide +kernel⟩
theorem t_taken_off : mapO (trS 60 n_taken_off cf (defScope s_taken_off)) (defBody s_taken_off) = some b_taken_off := by kernel_rfl
abbrev s_solved : Stmt := topS 19
theorem sc_solved : FnScope n_solved ["rows"] (defScope s_solved) := ⟨rfl, rfl, rfl, by decide +kernel, rfl, by decide +kernel, by decide +kernel⟩
theorem t_solved : mapO (trS 60 n_solved cf (defScope s_solved)) (defBody s_solved) = some b_solved := by kernel_rfl
abbrev s_shares : Stmt := topS 20
theorem sc_shares : FnScope n_shares ["web", "leap", "leaps"] (defScope s_shares) := ⟨rfl, rfl, rfl, by decide +kernel, rfl, by decide +kernel, by decide +kernel⟩
theorem t_shares : mapO (trS 60 n_shares cf (defScope s_shares)) (defBody s_shares) = some b_shares := by kernel_rfl
abbrev s_leaps_of : Stmt := topS 23
theorem sc_leaps_of : FnScope n_leaps_of ["kinds", "letter"] (defScope s_leaps_of) := ⟨rfl, rfl, rfl, by decide +kernel, rfl, by decide +kernel, by decide +kernel⟩
theorem t_leaps_of : mapO (trS 60 n_leaps_of cf (defScope s_leaps_of)) (defBody s_leaps_of) = some b_leaps_of := by kernel_rfl
abbrev s_by_kinds : Stmt := topS 24
theorem sc_by_kinds : FnScope n_by_kinds ["web", "leap", "kinds"] (defScope s_by_kinds) := ⟨rfl, rfl, rfl, by decide +kernel, rfl, by decide +kernel, by decide +kernel⟩
theorem t_by_kinds : mapO (trS 60 n_by_kinds cf (defScope s_by_kinds)) (defBody s_by_kinds) = some b_by_kinds := by kernel_rfl
abbrev s__law_draws : Stmt := topS 26
theorem sc__law_draws : FnScope n__law_draws ["script"] (defScope s__law_draws) := ⟨rfl, rfl, rfl, by decide +kernel, rfl, by decide +kernel, by decide +kernel⟩
theorem t__law_draws : mapO (trS 60 n__law_draws cf (defScope s__law_draws)) (defBody s__law_draws) = some b__law_draws := by kernel_rfl
abbrev s__law_take : Stmt := topS 27
theorem sc__law_take : FnScope n__law_take ["draws", "many"] (defScope s__law_take) := ⟨rfl, rfl, rfl, by decide +kernel, rfl, by decide +kernel, by decide +kernel⟩
theorem t__law_take : mapO (trS 60 n__law_take cf (defScope s__law_take)) (defBody s__law_take) = some b__law_take := by kernel_rfl
abbrev s__law_fraction : Stmt := topS 28
theorem sc__law_fraction : FnScope n__law_fraction ["above", "below"] (defScope s__law_fraction) := ⟨rfl, rfl, rfl, by decide +kernel, rfl, by decide +kernel, by decide +kernel⟩
theorem t__law_fraction : mapO (trS 60 n__law_fraction cf (defScope s__law_fraction)) (defBody s__law_fraction) = some b__law_fraction := by kernel_rfl
abbrev s__law_sum : Stmt := topS 29
theorem sc__law_sum : FnScope n__law_sum ["one", "other"] (defScope s__law_sum) := ⟨rfl, rfl, rfl, by decide +kernel, rfl, by decide +kernel, by decide +kernel⟩
theorem t__law_sum : mapO (trS 60 n__law_sum cf (defScope s__law_sum)) (defBody s__law_sum) = some b__law_sum := by kernel_rfl
abbrev s__law_rest : Stmt := topS 30
theorem sc__law_rest : FnScope n__law_rest ["one", "other"] (defScope s__law_rest) := ⟨rfl, rfl, rfl, by decide +kernel, rfl, by decide +kernel, by decide +kernel⟩
theorem t__law_rest : mapO (trS 60 n__law_rest cf (defScope s__law_rest)) (defBody s__law_rest) = some b__law_rest := by kernel_rfl
abbrev s__law_product : Stmt := topS 31
theorem sc__law_product : FnScope n__law_product ["one", "other"] (defScope s__law_product) := ⟨rfl, rfl, rfl, by decide +kernel, rfl, by decide +kernel, by decide +kernel⟩
theorem t__law_product : mapO (trS 60 n__law_product cf (defScope s__law_product)) (defBody s__law_product) = some b__law_product := by kernel_rfl
abbrev s__law_total : Stmt := topS 33
theorem sc__law_total : FnScope n__law_total ["row"] (defScope s__law_total) := ⟨rfl, rfl, rfl, by decide +kernel, rfl, by decide +kernel, by decide +kernel⟩
theorem t__law_total : mapO (trS 60 n__law_total cf (defScope s__law_total)) (defBody s__law_total) = some b__law_total := by kernel_rfl
abbrev s__law_are_fractions : Stmt := topS 34
theorem sc__law_are_fractions : FnScope n__law_are_fractions ["found", "many"] (defScope s__law_are_fractions) := ⟨rfl, rfl, rfl, by decide +kernel, rfl, by decide +kernel, by decide +kernel⟩
theorem t__law_are_fractions : mapO (trS 60 n__law_are_fractions cf (defScope s__law_are_fractions)) (defBody s__law_are_fractions) = some b__law_are_fractions := by kernel_rfl
abbrev s__law_web : Stmt := topS 35
theorem sc__law_web : FnScope n__law_web ["draws"] (defScope s__law_web) := ⟨rfl, rfl, rfl, by decide +kernel, rfl, by decide +kernel, by decide +kernel⟩
theorem t__law_web : mapO (trS 60 n__law_web cf (defScope s__law_web)) (defBody s__law_web) = some b__law_web := by kernel_rfl
abbrev s__law_leap : Stmt := topS 36
theorem sc__law_leap : FnScope n__law_leap ["draws"] (defScope s__law_leap) := ⟨rfl, rfl, rfl, by decide +kernel, rfl, by decide +kernel, by decide +kernel⟩
theorem t__law_leap : mapO (trS 60 n__law_leap cf (defScope s__law_leap)) (defBody s__law_leap) = some b__law_leap := by kernel_rfl
abbrev s__law_ways : Stmt := topS 38
theorem sc__law_ways : FnScope n__law_ways ["web", "leap", "leaps", "page"] (defScope s__law_ways) := ⟨rfl, rfl, rfl, by decide +kernel, rfl, by decide +kernel, by decide +kernel⟩
theorem t__law_ways : mapO (trS 60 n__law_ways cf (defScope s__law_ways)) (defBody s__law_ways) = some b__law_ways := by kernel_rfl
abbrev s__law_behind : Stmt := topS 41
theorem sc__law_behind : FnScope n__law_behind ["web", "leap", "leaps", "row"] (defScope s__law_behind) := ⟨rfl, rfl, rfl, by decide +kernel, rfl, by decide +kernel, by decide +kernel⟩
theorem t__law_behind : mapO (trS 60 n__law_behind cf (defScope s__law_behind)) (defBody s__law_behind) = some b__law_behind := by kernel_rfl
abbrev s__law_stays : Stmt := topS 42
theorem sc__law_stays : FnScope n__law_stays ["web", "leap", "leaps", "row"] (defScope s__law_stays) := ⟨rfl, rfl, rfl, by decide +kernel, rfl, by decide +kernel, by decide +kernel⟩
theorem t__law_stays : mapO (trS 60 n__law_stays cf (defScope s__law_stays)) (defBody s__law_stays) = some b__law_stays := by kernel_rfl
abbrev s__law_kinds : Stmt := topS 43
theorem sc__law_kinds : FnScope n__law_kinds ["draws", "many"] (defScope s__law_kinds) := ⟨rfl, rfl, rfl, by decide +kernel, rfl, by decide +kernel, by decide +kernel⟩
theorem t__law_kinds : mapO (trS 60 n__law_kinds cf (defScope s__law_kinds)) (defBody s__law_kinds) = some b__law_kinds := by kernel_rfl
abbrev s__law_right : Stmt := topS 44
theorem sc__law_right : FnScope n__law_right ["web", "leap", "kinds", "found"] (defScope s__law_right) := ⟨rfl, rfl, rfl, by decide +kernel, rfl, by decide +kernel, by decide +kernel⟩
theorem t__law_right : mapO (trS 60 n__law_right cf (defScope s__law_right)) (defBody s__law_right) = some b__law_right := by kernel_rfl
abbrev s_law : Stmt := topS 45
theorem sc_law : FnScope n_law ["script"] (defScope s_law) := ⟨rfl, rfl, rfl, by decide +kernel, rfl, by decide +kernel, by decide +kernel⟩
theorem t_law : mapO (trS 60 n_law cf (defScope s_law)) (defBody s_law) = some b_law := by kernel_rfl
end K39

namespace K39
open PySem Ip
def lb : List Stt := [
  .asg (.var 3) (.call "_law_web" [.var 1]),
  .asg (.var 4) (.call "_law_leap" [.var 1]),
  .asg (.var 5) (.call "_law_kinds" [.var 1, .ix (.var 3) (.int 0)]),
  .asg (.var 6) (.call "by_kinds" [.var 3, .var 4, .var 5]),
  .ite (.not (.call "_law_right" [.var 3, .var 4, .var 5, .var 6])) [.ret (.bl false)] [],
  .asg (.var 7) (.bi .list [.var 6]),
  .ex (.mt .append (.var 6) [.non]),
  .asg (.ix (.var 6) (.int 0)) (.non),
  .ite (.cmp .ne (.call "by_kinds" [.var 3, .var 4, .var 5]) (.var 7)) [.ret (.bl false)] [],
  .asg (.var 2) (.bin .add (.var 2) (.int 1))]

theorem kd : KD T := { take := h__law_take, fr := h__law_fraction, sum := h__law_sum, rest := h__law_rest, prod := h__law_product }
theorem kr : KR T := { common := h_common, made := h_made, plus := h_plus, less := h_less, times := h_times, leads := h_leads, ways := h_ways, by_ := h_by, equations := h_equations, taken := h_taken_off, solved := h_solved, shares := h_shares }
theorem total_loop {n s : Nat} {f : Nat → Rat} (hn : n ≤ 12) (hs : s ≤ 1000000) (sf : ∀ i, i < n → sz s (f i)) (k : Nat) (r : D) (chk : List (Nat × List D)) (h : Hh) (hc : chkOk chk h) {P : D → Hh → Prop} (p : P (Fq (sm n f)) h) :
    W (frL (evA (callF T (k + 2)) (.var 2)) (evSs (callF T (k + 2)) [.asg (.var 1) (.call "_law_sum" [.var 1, .var 2])]) chk (tb n fun i => Fq (f i)) [some r, some (D.tup [.int 0, .int 1]), none] h) fun a h => W (nxt (evSs (callF T (k + 2)) [.ret (.var 1)]) a h) (retP P) := by
  refine W_frI (I := fun i env h' => (∃ a2, env = [some r, some (Fq (sm i f)), a2]) ∧ h' = h) (fun i env h' q => by rw [q.2]; exact hc) ?_ ?_ ⟨⟨_, rfl⟩, rfl⟩
  · rintro i y env h' hy ⟨⟨a, rfl⟩, rfl⟩
    have hi : i < n := by have := (List.getElem?_eq_some_iff.mp hy).1; simpa using this
    rw [tb_get _ hi] at hy
    injection hy with hy; subst hy
    simp
    rw [e_dsum kd k (toBig (sz_sm12 hn sf i (by omega)) (by omega)) (toBig (sf i hi) (by omega)), W_ok]
    exact ⟨rfl, rfl⟩
  · rintro env h' ⟨⟨a, rfl⟩, rfl⟩
    rw [tb_len]
    simp
    exact p
theorem sp_totalV {n s : Nat} {f : Nat → Rat} (hn : n ≤ 12) (hs : s ≤ 1000000) (sf : ∀ i, i < n → sz s (f i)) (k : Nat) (h : Hh) {P : D → Hh → Prop} (p : P (Fq (sm n f)) h) : W (callF T (k + 3) "_law_total" [Vt n f] h) P := by
  refine W_call h__law_total rfl ?_
  unfold b__law_total
  rw [evSs_cons, W_bind, evS_asg]
  simp [-evSs_cons, two_size]
  rw [evSs_cons, W_bind, evS_fr]
  simp only [evIt, ev_v0, W_bind, W_ok, Out.bind_ok]
  rw [seq_V, W_ok]
  exact total_loop hn hs sf k _ _ h (chkOk_nil h) p
theorem sp_stays (k : Nat) {m : Nat} {ls : List (Int × Int)} {l : Rat} {q x : Nat → Rat} (w : Wo m ls l q) (sh : Sh m (Pm ls l q) x) (sx : ∀ i, i < m → sz 830000 (x i)) (h : Hh) :
    W (callF T (k + 5) "_law_stays" [Wb m ls, Fq l, Vt m q, Vt m x] h) fun d h' => d = .bl true ∧ Kn h h' := by
  have m12 := w.web.n1
  have nn := w.wk.pos sh.one sh.own
  refine W_call h__law_stays rfl ?_
  unfold b__law_stays
  rw [evSs_cons, W_bind, evS_ite]
  simp only [evT_def, ev_or, W_bind]
  simp [-evSs_cons, -ev_cmp]
  rw [e_arefr kd h__law_are_fractions (k + 2) m x h, W_ok, asB_bl, W_ok]
  simp [-evSs_cons, -ev_cmp]
  rw [ev_cmp]
  simp [-evSs_cons, Ip.ev_lcIf, evIt]
  refine W_lcNo (fun h' => h' = h) (fun h' _ => chkOk_nil h') ?_ ?_ rfl
  · rintro i y h' hy rfl
    have hi : i < m := by have := (List.getElem?_eq_some_iff.mp hy).1; simpa using this
    rw [tb_get _ hi] at hy
    injection hy with hy; subst hy
    have := Rat.num_nonneg.mpr (nn i hi)
    simp [eltO, elt2, asgN, wipeE]
    first | omega | exact nn i hi | (simpa using nn i hi)
  rintro h' rfl
  simp [-evSs_cons, W_mkL]
  rw [cmp_neL (n := h'.length) (m := h'.length + 1) (xs := []) (ys := []) _ (by simp) (by simp) (by simp) (by simp), W_ok, asB_bl, W_ok]
  have k1 : Kn h' (h' ++ [O.lst [], O.lst []]) := Kp.app _ _ _
  generalize h' ++ [O.lst [], O.lst []] = h1 at k1 ⊢
  simp [-evSs_cons, sameL]
  (try simp only [W_ok, nxt_nx, evSs_nil])
  rw [evSs_cons, W_bind, evS_ret]
  simp [-evSs_cons, -ev_cmp]
  rw [ev_cmp]
  simp [-evSs_cons, -ev_cmp, two_size]
  refine sp_totalV m12 (by omega) sx (k + 1) h1 ?_
  rw [sh.one, show D.tup [.int 1, .int 1] = Fq 1 from rfl, cmp_eqG h1 (G_Fq _ _) (G_Fq _ _), W_ok, asB_bl, W_ok]
  simp [-evSs_cons, -ev_cmp]
  rw [ev_cmp]
  simp [-evSs_cons, -ev_cmp]
  refine W_mono (sp_dbehind kd h__law_ways h__law_behind k m (by omega) ls (by have := w.web.len; omega) l w.leap.size q w.hq x (Bh.of (t := 180) m12 (by omega) sx w.hP) h1 (Vt m x) fun h' _ i hi => ix_V x hi h') ?_
  rintro d h2 ⟨r, rfl, _, hr, k2⟩
  have e : Rl m r x h2 := hr.congr fun j hj => sh.own j hj
  unfold Rl at e
  rw [show Vt m x = D.tup (tb m fun j => Fq (x j)) from rfl, bi_listT, W_mkL]
  refine ⟨by simp only [sizeLine_eq, tb_len]; omega, ?_⟩
  have gg : ∀ y, y ∈ (tb m fun j => Fq (x j)) → G 60 y := fun y hy => by obtain ⟨i, _, rfl⟩ := tb_mem hy; simp
  rw [cmp_eqL _ (get_app e _) (get_new _ _) gg gg, W_ok]
  simp [sameL]
  exact (k1.trans k2).trans (Kp.app _ _ _)
theorem tb_leapK {cs : List Nat} {c : Nat} : (tb cs.length fun i => Fq (Rat.divInt (if cs[i]? = some c then 1 else 0) ((cs.count c : Nat) : Int))) = tb cs.length fun i => Fq (leapK cs c i) := tb_congr fun i hi => by
  rw [leapK_rt]
  dsimp only
  unfold rt
  by_cases e : cs[i]? = some c
  · rw [if_pos e, if_pos e]; rfl
  · rw [if_neg e, if_neg e]; rfl
def RI (m : Nat) (ls : List (Int × Int)) (l : Rat) (cs : List Nat) (fr r : Nat) (X : Nat → Nat → Rat) (h : Hh) (_ : Nat) (env : Ip.Env) (h' : Hh) : Prop := ∃ a5 a6 a7 a8 : Option D, env = [some (Wb m ls), some (Fq l), some (.str (kt cs)), some (.ref fr), some (.ref r), a5, a6, a7, a8] ∧ Kn h h'
theorem sp_right (k : Nat) {m : Nat} {ls : List (Int × Int)} {l : Rat} {cs : List Nat} (web : WebOk m ls) (lok : LeapOk l) (hm : cs.length = m) (ok : LetOk cs) {fr : Nat} {X : Nat → Nat → Rat} {h : Hh} (hf : h[fr]? = some (.lst (BK cs m X))) (bk : BKok cs m ls l X) :
    W (callF T (k + 6) "_law_right" [Wb m ls, Fq l, .str (kt cs), .ref fr] h) fun d h' => d = .bl true ∧ Kn h h' := by
  have m12 := web.n1
  have ll := letters_len ok
  refine W_call h__law_right rfl ?_
  unfold b__law_right
  rw [evSs_cons, W_bind, evS_asg]
  simp [-evSs_cons]
  refine W_sset h (by rw [kt_len]; omega) (by rw [sizeLine_eq]; omega) ?_
  have gr := get_new h (O.lst ((letters (kt cs)).map fun c => D.str (sg c)))
  have k1 : Kn h (h ++ [O.lst ((letters (kt cs)).map fun c => D.str (sg c))]) := Kp.app _ _ _
  have el : ((letters (kt cs)).map fun c => D.str (sg c)) = tb (letters (kt cs)).length fun i => D.str (sg (lt_ cs i)) := by
    conv => lhs; rw [lt_tb cs]
    rw [tb_map]
  rw [el] at gr k1 ⊢
  have hf1 := get_app hf [O.lst (tb (letters (kt cs)).length fun i => D.str (sg (lt_ cs i)))]
  generalize h.length = r at gr ⊢
  generalize h ++ [O.lst (tb (letters (kt cs)).length fun i => D.str (sg (lt_ cs i)))] = h1 at gr k1 hf1 ⊢
  (try simp only [evA_var, W_ok, nxt_nx, List.set_cons_succ, List.set_cons_zero])
  rw [evSs_cons, W_bind, evS_ite]
  simp [-evSs_cons]
  rw [bi_lenR _ hf1, W_ok, bi_lenR _ gr, W_ok]
  simp [-evSs_cons, BK]
  (try simp only [W_ok, nxt_nx, evSs_nil])
  rw [evSs_cons, W_bind, evS_fr]
  simp [-evSs_cons, evIt_bi]
  have hf2 : h1[fr]? = some (.lst (tb (letters (kt cs)).length fun i => D.tup [.str (sg (lt_ cs i)), Vt m (X i)])) := hf1
  rw [show itB .zip [.ref r, .ref fr] h1 = .ok (tb (letters (kt cs)).length fun i => .tup [.str (sg (lt_ cs i)), .tup [.str (sg (lt_ cs i)), Vt m (X i)]], [(r, tb (letters (kt cs)).length fun i => D.str (sg (lt_ cs i))), (fr, tb (letters (kt cs)).length fun i => D.tup [.str (sg (lt_ cs i)), Vt m (X i)])]) h1 by
    show itZip [.ref r, .ref fr] h1 = _
    simp [itZip, itSeqZ, gr, hf2, zipD_tb], W_ok]
  refine W_frI (I := RI m ls l cs fr r X h1) (fun i env h' p q hq => by
    obtain ⟨_, _, _, _, _, kk⟩ := p
    simp only [List.mem_cons, List.not_mem_nil, or_false] at hq
    rcases hq with rfl | rfl
    · exact Kn.get kk gr
    · exact Kn.get kk hf2) ?_ ?_ ⟨_, _, _, _, rfl, Kp.refl _ _⟩
  · rintro i y env h2 hy ⟨a5, a6, a7, a8, rfl, k2⟩
    have hi : i < (letters (kt cs)).length := by have := (List.getElem?_eq_some_iff.mp hy).1; simpa using this
    rw [tb_get _ hi] at hy
    injection hy with hy; subst hy
    have hc := lt_mem hi
    obtain ⟨sh, sx⟩ := bk i hi
    have hn : 0 < cs.count (lt_ cs i) := List.count_pos_iff.mpr hc
    (try simp only [evA_tup2, W_ok, nxt_nx, List.set_cons_succ, List.set_cons_zero])
    rw [evSs_cons, W_bind, evS_ite]
    simp [-evSs_cons]
    (try simp only [W_ok, nxt_nx, evSs_nil])
    rw [evSs_cons, W_bind, evS_asg]
    simp [-evSs_cons, Ip.ev_lc, evIt]
    refine W_lcF (fun j => Fq (Rat.divInt (if cs[j]? = some (lt_ cs i) then 1 else 0) ((cs.count (lt_ cs i) : Nat) : Int))) (fun h' => h' = h2) (fun h' _ => chkOk_nil h') ?_ ?_ rfl
    · rintro j x h' hj hx rfl
      rw [kt_signs, List.length_map] at hj
      rw [kt_signs, List.getElem?_map, List.getElem?_eq_getElem hj] at hx
      injection hx with hx; subst hx
      simp [eltO, elt1, asgN, wipeE]
      rw [show Txt.count (kt cs) (sg (lt_ cs i)) = _ from count_kt cs _, sp_fraction h__law_fraction _ _ _ (by omega), W_ok]
      rw [List.getElem?_eq_getElem hj]
      simp [sg_inj]
    rintro h' rfl
    rw [kt_signs, List.length_map, tb_leapK, W_mkL]
    refine ⟨by simp only [sizeLine_eq, tb_len]; omega, ?_⟩
    rw [bi_tupR _ (get_new _ _)]
    have k3 := k2.trans (Kp.app (fun _ => False) h' [O.lst (tb cs.length fun j => Fq (leapK cs (lt_ cs i) j))])
    generalize h' ++ [O.lst (tb cs.length fun j => Fq (leapK cs (lt_ cs i) j))] = h3 at k3 ⊢
    rw [show D.tup (tb cs.length fun j => Fq (leapK cs (lt_ cs i) j)) = Vt m (leapK cs (lt_ cs i)) by rw [← hm]; rfl]
    (try simp only [evA_var, W_ok, nxt_nx, List.set_cons_succ, List.set_cons_zero])
    rw [evSs_cons, W_bind, evS_ite]
    simp [-evSs_cons]
    refine W_mono (sp_stays k (woK web lok hm hc) sh sx h3) ?_
    rintro d h4 ⟨rfl, k4⟩
    simp
    exact ⟨_, _, _, _, rfl, k3.trans k4⟩
  · rintro env h2 ⟨a5, a6, a7, a8, rfl, k2⟩
    simp
    exact k1.trans k2
theorem BK_eq {m : Nat} {ls : List (Int × Int)} {l : Rat} {cs : List Nat} (web : WebOk m ls) (lok : LeapOk l) (hm : cs.length = m) {X Y : Nat → Nat → Rat} (a : BKok cs m ls l X) (b : BKok cs m ls l Y) : BK cs m X = BK cs m Y := tb_congr fun i hi => by
  rw [sh_eq (woK web lok hm (lt_mem hi)).wk (a i hi).1 (b i hi).1]
theorem BK_Gs {m : Nat} {cs : List Nat} (ok : LetOk cs) (X : Nat → Nat → Rat) : ∀ x, x ∈ BK cs m X → Gs 60 x := fun x hx => by
  obtain ⟨i, hi, rfl⟩ := tb_mem hx
  intro d hd
  simp only [List.mem_cons, List.not_mem_nil, or_false] at hd
  rcases hd with rfl | rfl
  · exact strOk128 _ (by have := ok _ (lt_mem hi); omega)
  · exact Gs_V 57 _ _
theorem sp_bk (k : Nat) {m : Nat} {ls : List (Int × Int)} {l : Rat} {cs : List Nat} (web : WebOk m ls) (lok : LeapOk l) (hm : cs.length = m) (ok : LetOk cs) (h : Hh) : W (callF T (k + 7) "by_kinds" [Wb m ls, Fq l, .str (kt cs)] h) (BKP cs m ls l h) := sp_by_kinds kr h_leaps_of h_by_kinds k web lok hm ok h
def StP (fz : D) (n k : Nat) (fl : Fl) (h2 : Hh) : Prop := (∃ r', fl = .nx (some fz :: some (.ref n) :: some (.int ((k : Int) + 1)) :: r') ∧ ∃ b3 b4 b5 b6 b7 : Option D, r' = [b3, b4, b5, b6, b7]) ∧ Dr n h2
theorem step (fz : D) (n k : Nat) (a3 a4 a5 a6 a7 : Option D) (h : Hh) (hd : Dr n h) : W (evSs (callF T 11) lb [some fz, some (.ref n), some (.int (k : Nat)), a3, a4, a5, a6, a7] h) (StP fz n k) := by
  unfold lb
  rw [evSs_cons, W_bind, evS_asg]
  simp [-evSs_cons]
  refine W_mono (sp_dweb kd h__law_web 9 n h hd) ?_
  rintro d h1 ⟨m, ls, rfl, web, hd1, k1⟩
  (try simp only [evA_var, W_ok, nxt_nx, List.set_cons_succ, List.set_cons_zero])
  rw [evSs_cons, W_bind, evS_asg]
  simp [-evSs_cons]
  refine W_mono (sp_dleap kd h__law_leap 9 n h1 hd1) ?_
  rintro d h2 ⟨l, rfl, lok, hd2, k2⟩
  (try simp only [evA_var, W_ok, nxt_nx, List.set_cons_succ, List.set_cons_zero])
  rw [evSs_cons, W_bind, evS_asg]
  simp [-evSs_cons]
  refine W_mono (sp_kinds h__law_take h__law_kinds 9 n m web.n1 h2 hd2) ?_
  rintro d h3 ⟨cs, rfl, hm, ok, hd3, k3⟩
  clear hd k1 k2 k3 hd1 hd2
  (try simp only [evA_var, W_ok, nxt_nx, List.set_cons_succ, List.set_cons_zero])
  rw [evSs_cons, W_bind, evS_asg]
  simp [-evSs_cons]
  refine W_mono (sp_bk 4 web lok hm ok h3) ?_
  rintro d h4 ⟨f, X, rfl, hf, gf, bX, k4⟩
  have hd4 := hd3.keep k4 (by simp)
  have nl := hd3.lt
  (try simp only [evA_var, W_ok, nxt_nx, List.set_cons_succ, List.set_cons_zero])
  rw [evSs_cons, W_bind, evS_ite]
  simp [-evSs_cons]
  refine W_mono (sp_right 5 web lok hm ok gf bX) ?_
  rintro d h5 ⟨rfl, k5⟩
  have hd5 := hd4.keep k5 (by simp)
  have gf5 := Kn.get k5 gf
  simp [-evSs_cons]
  (try simp only [W_ok, nxt_nx, evSs_nil])
  have ll := letters_len ok
  have l0 : 0 < (letters (kt cs)).length := letters_ne (by have := web.n0; omega)
  have bl : (BK cs m X).length = (letters (kt cs)).length := by simp [BK]
  rw [evSs_cons, W_bind, evS_asg]
  simp [-evSs_cons]
  rw [bi_listR _ gf5, W_mkL]
  refine ⟨by rw [sizeLine_eq]; omega, ?_⟩
  have gk := get_new h5 (O.lst (BK cs m X))
  have hd6 := hd5.app [O.lst (BK cs m X)]
  have gf6 := get_app gf5 [O.lst (BK cs m X)]
  have fl5 := lt_of_get gf5
  generalize h5.length = kp at gk fl5 ⊢
  generalize h5 ++ [O.lst (BK cs m X)] = h6 at gk hd6 gf6 ⊢
  (try simp only [evA_var, W_ok, nxt_nx, List.set_cons_succ, List.set_cons_zero])
  rw [evSs_cons, W_bind, evS_ex]
  simp [-evSs_cons]
  rw [W_append _ gf6]
  refine ⟨by rw [sizeLine_eq]; omega, ?_⟩
  have gf7 := get_set (lt_of_get gf6) (O.lst (BK cs m X ++ [D.non]))
  have hd7 := hd6.keep (Kp.set (x := (· = f)) rfl h6 (O.lst (BK cs m X ++ [D.non]))) (by omega)
  have gk7 : (h6.set f (.lst (BK cs m X ++ [D.non])))[kp]? = some (.lst (BK cs m X)) := by rw [List.getElem?_set_ne (by omega)]; exact gk
  generalize h6.set f (.lst (BK cs m X ++ [D.non])) = h7 at gf7 hd7 gk7 ⊢
  (try simp only [W_ok, nxt_nx, evSs_nil])
  rw [evSs_cons, W_bind, evS_asg]
  simp [-evSs_cons]
  refine W_setR gf7 (j := 0) (by rw [List.length_append]; exact ixN_nat (i := 0) (by simp)) ?_
  have hd8 := hd7.keep (Kp.set (x := (· = f)) rfl h7 (O.lst ((BK cs m X ++ [D.non]).set 0 D.non))) (by omega)
  have gk8 : (h7.set f (.lst ((BK cs m X ++ [D.non]).set 0 D.non)))[kp]? = some (.lst (BK cs m X)) := by rw [List.getElem?_set_ne (by omega)]; exact gk7
  generalize h7.set f (.lst ((BK cs m X ++ [D.non]).set 0 D.non)) = h8 at hd8 gk8 ⊢
  (try simp only [W_ok, nxt_nx, evSs_nil])
  rw [evSs_cons, W_bind, evS_ite]
  simp [-evSs_cons]
  refine W_mono (sp_bk 4 web lok hm ok h8) ?_
  rintro d h9 ⟨g, Y, rfl, hg, gg, bY, k9⟩
  rw [BK_eq web lok hm bY bX] at gg
  rw [ne_selfL gg (Kn.get k9 gk8) (BK_Gs ok X), W_ok, asB_bl, W_ok]
  simp [-evSs_cons]
  (try simp only [W_ok, nxt_nx, evSs_nil])
  rw [evSs_cons, W_bind, evS_asg]
  simp
  exact ⟨⟨_, rfl, _, _, _, _, _, rfl⟩, hd8.keep k9 (by simp)⟩
theorem law_true : ∀ ns : List Int, ns.length ≤ 63 → ∃ h', callF T 12 "law" [.frz (ns.map D.int)] [] = .ok (.bl true) h' :=
  dlaw h__law_draws 3 (body := lb) h_law (I := fun r => ∃ a3 a4 a5 a6 a7 : Option D, r = [a3, a4, a5, a6, a7]) ⟨_, _, _, _, _, rfl⟩ (by
    rintro fz n k r h ⟨a3, a4, a5, a6, a7, rfl⟩ hd
    exact step fz n k a3 a4 a5 a6 a7 h hd)
end K39

namespace K39
open PySem PySem.Spec PyProof.Rows L2 Ip
theorem law_ok {w : World} {K : Fr} {h : Heap} {mg : Str → Option Value} {fa : Addr} (X : K.In h) (G : h.Ns mainGlobals mg) (hfa : mg "law" = some (.ref fa))
    {E2 : Addr} (gE2 : PySem.W.nsIn K mainGlobals "NoKind" = some (some (.ref E2))) (xE2 : PySem.W.excIn K E2 [.type "ValueError", .type "Exception", .type "BaseException", .type "object"] "ValueError.__new__" = true) (kE2 : PySem.W.keepIn K (.ref E2) = true)
    (bE2 : PySem.W.subIn K (.ref E2) (.type "BaseException") = some true) (tE2 : PySem.W.typeIn K (.ref E2) = some (.type "type")) (iE2 : PySem.W.isClsIn K E2 = true) (sE2 : PySem.W.subIn K (.ref E2) (.ref E2) = some true)
    {a4 : Addr} {od4 an4 : Option Addr} {sl4 : Array (Option Value)} {oc4 kV4 dc4 pm4 cd4 ct4 : Value}
    (g4 : PySem.W.nsIn K mainGlobals "common" = some (some (.ref a4))) (l4 : K.lookup a4 = some ⟨oc4, od4, .func (PySem.W.fnOf "common" "common" (defArgs s_common) (defBody s_common) (defScope s_common) .none kV4 dc4 pm4 an4 cd4 ct4), sl4⟩)
    (c4 : PySem.W.codeIn K cd4 "common" = true) (k4 : PySem.W.keepIn K (.ref a4) = true)
    {a5 : Addr} {od5 an5 : Option Addr} {sl5 : Array (Option Value)} {oc5 kV5 dc5 pm5 cd5 ct5 : Value}
    (g5 : PySem.W.nsIn K mainGlobals "made" = some (some (.ref a5))) (l5 : K.lookup a5 = some ⟨oc5, od5, .func (PySem.W.fnOf "made" "made" (defArgs s_made) (defBody s_made) (defScope s_made) .none kV5 dc5 pm5 an5 cd5 ct5), sl5⟩)
    (c5 : PySem.W.codeIn K cd5 "made" = true) (k5 : PySem.W.keepIn K (.ref a5) = true)
    {a6 : Addr} {od6 an6 : Option Addr} {sl6 : Array (Option Value)} {oc6 kV6 dc6 pm6 cd6 ct6 : Value}
    (g6 : PySem.W.nsIn K mainGlobals "plus" = some (some (.ref a6))) (l6 : K.lookup a6 = some ⟨oc6, od6, .func (PySem.W.fnOf "plus" "plus" (defArgs s_plus) (defBody s_plus) (defScope s_plus) .none kV6 dc6 pm6 an6 cd6 ct6), sl6⟩)
    (c6 : PySem.W.codeIn K cd6 "plus" = true) (k6 : PySem.W.keepIn K (.ref a6) = true)
    {a7 : Addr} {od7 an7 : Option Addr} {sl7 : Array (Option Value)} {oc7 kV7 dc7 pm7 cd7 ct7 : Value}
    (g7 : PySem.W.nsIn K mainGlobals "less" = some (some (.ref a7))) (l7 : K.lookup a7 = some ⟨oc7, od7, .func (PySem.W.fnOf "less" "less" (defArgs s_less) (defBody s_less) (defScope s_less) .none kV7 dc7 pm7 an7 cd7 ct7), sl7⟩)
    (c7 : PySem.W.codeIn K cd7 "less" = true) (k7 : PySem.W.keepIn K (.ref a7) = true)
    {a8 : Addr} {od8 an8 : Option Addr} {sl8 : Array (Option Value)} {oc8 kV8 dc8 pm8 cd8 ct8 : Value}
    (g8 : PySem.W.nsIn K mainGlobals "times" = some (some (.ref a8))) (l8 : K.lookup a8 = some ⟨oc8, od8, .func (PySem.W.fnOf "times" "times" (defArgs s_times) (defBody s_times) (defScope s_times) .none kV8 dc8 pm8 an8 cd8 ct8), sl8⟩)
    (c8 : PySem.W.codeIn K cd8 "times" = true) (k8 : PySem.W.keepIn K (.ref a8) = true)
    {a9 : Addr} {od9 an9 : Option Addr} {sl9 : Array (Option Value)} {oc9 kV9 dc9 pm9 cd9 ct9 : Value}
    (g9 : PySem.W.nsIn K mainGlobals "by" = some (some (.ref a9))) (l9 : K.lookup a9 = some ⟨oc9, od9, .func (PySem.W.fnOf "by" "by" (defArgs s_by) (defBody s_by) (defScope s_by) .none kV9 dc9 pm9 an9 cd9 ct9), sl9⟩)
    (c9 : PySem.W.codeIn K cd9 "by" = true) (k9 : PySem.W.keepIn K (.ref a9) = true)
    {a11 : Addr} {od11 an11 : Option Addr} {sl11 : Array (Option Value)} {oc11 kV11 dc11 pm11 cd11 ct11 : Value}
    (g11 : PySem.W.nsIn K mainGlobals "leads" = some (some (.ref a11))) (l11 : K.lookup a11 = some ⟨oc11, od11, .func (PySem.W.fnOf "leads" "leads" (defArgs s_leads) (defBody s_leads) (defScope s_leads) .none kV11 dc11 pm11 an11 cd11 ct11), sl11⟩)
    (c11 : PySem.W.codeIn K cd11 "leads" = true) (k11 : PySem.W.keepIn K (.ref a11) = true)
    {a13 : Addr} {od13 an13 : Option Addr} {sl13 : Array (Option Value)} {oc13 kV13 dc13 pm13 cd13 ct13 : Value}
    (g13 : PySem.W.nsIn K mainGlobals "ways" = some (some (.ref a13))) (l13 : K.lookup a13 = some ⟨oc13, od13, .func (PySem.W.fnOf "ways" "ways" (defArgs s_ways) (defBody s_ways) (defScope s_ways) .none kV13 dc13 pm13 an13 cd13 ct13), sl13⟩)
    (c13 : PySem.W.codeIn K cd13 "ways" = true) (k13 : PySem.W.keepIn K (.ref a13) = true)
    {a17 : Addr} {od17 an17 : Option Addr} {sl17 : Array (Option Value)} {oc17 kV17 dc17 pm17 cd17 ct17 : Value}
    (g17 : PySem.W.nsIn K mainGlobals "equations" = some (some (.ref a17))) (l17 : K.lookup a17 = some ⟨oc17, od17, .func (PySem.W.fnOf "equations" "equations" (defArgs s_equations) (defBody s_equations) (defScope s_equations) .none kV17 dc17 pm17 an17 cd17 ct17), sl17⟩)
    (c17 : PySem.W.codeIn K cd17 "equations" = true) (k17 : PySem.W.keepIn K (.ref a17) = true)
    {a18 : Addr} {od18 an18 : Option Addr} {sl18 : Array (Option Value)} {oc18 kV18 dc18 pm18 cd18 ct18 : Value}
    (g18 : PySem.W.nsIn K mainGlobals "taken_off" = some (some (.ref a18))) (l18 : K.lookup a18 = some ⟨oc18, od18, .func (PySem.W.fnOf "taken_off" "taken_off" (defArgs s_taken_off) (defBody s_taken_off) (defScope s_taken_off) .none kV18 dc18 pm18 an18 cd18 ct18), sl18⟩)
    (c18 : PySem.W.codeIn K cd18 "taken_off" = true) (k18 : PySem.W.keepIn K (.ref a18) = true)
    {a19 : Addr} {od19 an19 : Option Addr} {sl19 : Array (Option Value)} {oc19 kV19 dc19 pm19 cd19 ct19 : Value}
    (g19 : PySem.W.nsIn K mainGlobals "solved" = some (some (.ref a19))) (l19 : K.lookup a19 = some ⟨oc19, od19, .func (PySem.W.fnOf "solved" "solved" (defArgs s_solved) (defBody s_solved) (defScope s_solved) .none kV19 dc19 pm19 an19 cd19 ct19), sl19⟩)
    (c19 : PySem.W.codeIn K cd19 "solved" = true) (k19 : PySem.W.keepIn K (.ref a19) = true)
    {a20 : Addr} {od20 an20 : Option Addr} {sl20 : Array (Option Value)} {oc20 kV20 dc20 pm20 cd20 ct20 : Value}
    (g20 : PySem.W.nsIn K mainGlobals "shares" = some (some (.ref a20))) (l20 : K.lookup a20 = some ⟨oc20, od20, .func (PySem.W.fnOf "shares" "shares" (defArgs s_shares) (defBody s_shares) (defScope s_shares) .none kV20 dc20 pm20 an20 cd20 ct20), sl20⟩)
    (c20 : PySem.W.codeIn K cd20 "shares" = true) (k20 : PySem.W.keepIn K (.ref a20) = true)
    {a23 : Addr} {od23 an23 : Option Addr} {sl23 : Array (Option Value)} {oc23 kV23 dc23 pm23 cd23 ct23 : Value}
    (g23 : PySem.W.nsIn K mainGlobals "leaps_of" = some (some (.ref a23))) (l23 : K.lookup a23 = some ⟨oc23, od23, .func (PySem.W.fnOf "leaps_of" "leaps_of" (defArgs s_leaps_of) (defBody s_leaps_of) (defScope s_leaps_of) .none kV23 dc23 pm23 an23 cd23 ct23), sl23⟩)
    (c23 : PySem.W.codeIn K cd23 "leaps_of" = true) (k23 : PySem.W.keepIn K (.ref a23) = true)
    {a24 : Addr} {od24 an24 : Option Addr} {sl24 : Array (Option Value)} {oc24 kV24 dc24 pm24 cd24 ct24 : Value}
    (g24 : PySem.W.nsIn K mainGlobals "by_kinds" = some (some (.ref a24))) (l24 : K.lookup a24 = some ⟨oc24, od24, .func (PySem.W.fnOf "by_kinds" "by_kinds" (defArgs s_by_kinds) (defBody s_by_kinds) (defScope s_by_kinds) .none kV24 dc24 pm24 an24 cd24 ct24), sl24⟩)
    (c24 : PySem.W.codeIn K cd24 "by_kinds" = true) (k24 : PySem.W.keepIn K (.ref a24) = true)
    {a26 : Addr} {od26 an26 : Option Addr} {sl26 : Array (Option Value)} {oc26 kV26 dc26 pm26 cd26 ct26 : Value}
    (g26 : PySem.W.nsIn K mainGlobals "_law_draws" = some (some (.ref a26))) (l26 : K.lookup a26 = some ⟨oc26, od26, .func (PySem.W.fnOf "_law_draws" "_law_draws" (defArgs s__law_draws) (defBody s__law_draws) (defScope s__law_draws) .none kV26 dc26 pm26 an26 cd26 ct26), sl26⟩)
    (c26 : PySem.W.codeIn K cd26 "_law_draws" = true) (k26 : PySem.W.keepIn K (.ref a26) = true)
    {a27 : Addr} {od27 an27 : Option Addr} {sl27 : Array (Option Value)} {oc27 kV27 dc27 pm27 cd27 ct27 : Value}
    (g27 : PySem.W.nsIn K mainGlobals "_law_take" = some (some (.ref a27))) (l27 : K.lookup a27 = some ⟨oc27, od27, .func (PySem.W.fnOf "_law_take" "_law_take" (defArgs s__law_take) (defBody s__law_take) (defScope s__law_take) .none kV27 dc27 pm27 an27 cd27 ct27), sl27⟩)
    (c27 : PySem.W.codeIn K cd27 "_law_take" = true) (k27 : PySem.W.keepIn K (.ref a27) = true)
    {a28 : Addr} {od28 an28 : Option Addr} {sl28 : Array (Option Value)} {oc28 kV28 dc28 pm28 cd28 ct28 : Value}
    (g28 : PySem.W.nsIn K mainGlobals "_law_fraction" = some (some (.ref a28))) (l28 : K.lookup a28 = some ⟨oc28, od28, .func (PySem.W.fnOf "_law_fraction" "_law_fraction" (defArgs s__law_fraction) (defBody s__law_fraction) (defScope s__law_fraction) .none kV28 dc28 pm28 an28 cd28 ct28), sl28⟩)
    (c28 : PySem.W.codeIn K cd28 "_law_fraction" = true) (k28 : PySem.W.keepIn K (.ref a28) = true)
    {a29 : Addr} {od29 an29 : Option Addr} {sl29 : Array (Option Value)} {oc29 kV29 dc29 pm29 cd29 ct29 : Value}
    (g29 : PySem.W.nsIn K mainGlobals "_law_sum" = some (some (.ref a29))) (l29 : K.lookup a29 = some ⟨oc29, od29, .func (PySem.W.fnOf "_law_sum" "_law_sum" (defArgs s__law_sum) (defBody s__law_sum) (defScope s__law_sum) .none kV29 dc29 pm29 an29 cd29 ct29), sl29⟩)
    (c29 : PySem.W.codeIn K cd29 "_law_sum" = true) (k29 : PySem.W.keepIn K (.ref a29) = true)
    {a30 : Addr} {od30 an30 : Option Addr} {sl30 : Array (Option Value)} {oc30 kV30 dc30 pm30 cd30 ct30 : Value}
    (g30 : PySem.W.nsIn K mainGlobals "_law_rest" = some (some (.ref a30))) (l30 : K.lookup a30 = some ⟨oc30, od30, .func (PySem.W.fnOf "_law_rest" "_law_rest" (defArgs s__law_rest) (defBody s__law_rest) (defScope s__law_rest) .none kV30 dc30 pm30 an30 cd30 ct30), sl30⟩)
    (c30 : PySem.W.codeIn K cd30 "_law_rest" = true) (k30 : PySem.W.keepIn K (.ref a30) = true)
    {a31 : Addr} {od31 an31 : Option Addr} {sl31 : Array (Option Value)} {oc31 kV31 dc31 pm31 cd31 ct31 : Value}
    (g31 : PySem.W.nsIn K mainGlobals "_law_product" = some (some (.ref a31))) (l31 : K.lookup a31 = some ⟨oc31, od31, .func (PySem.W.fnOf "_law_product" "_law_product" (defArgs s__law_product) (defBody s__law_product) (defScope s__law_product) .none kV31 dc31 pm31 an31 cd31 ct31), sl31⟩)
    (c31 : PySem.W.codeIn K cd31 "_law_product" = true) (k31 : PySem.W.keepIn K (.ref a31) = true)
    {a33 : Addr} {od33 an33 : Option Addr} {sl33 : Array (Option Value)} {oc33 kV33 dc33 pm33 cd33 ct33 : Value}
    (g33 : PySem.W.nsIn K mainGlobals "_law_total" = some (some (.ref a33))) (l33 : K.lookup a33 = some ⟨oc33, od33, .func (PySem.W.fnOf "_law_total" "_law_total" (defArgs s__law_total) (defBody s__law_total) (defScope s__law_total) .none kV33 dc33 pm33 an33 cd33 ct33), sl33⟩)
    (c33 : PySem.W.codeIn K cd33 "_law_total" = true) (k33 : PySem.W.keepIn K (.ref a33) = true)
    {a34 : Addr} {od34 an34 : Option Addr} {sl34 : Array (Option Value)} {oc34 kV34 dc34 pm34 cd34 ct34 : Value}
    (g34 : PySem.W.nsIn K mainGlobals "_law_are_fractions" = some (some (.ref a34))) (l34 : K.lookup a34 = some ⟨oc34, od34, .func (PySem.W.fnOf "_law_are_fractions" "_law_are_fractions" (defArgs s__law_are_fractions) (defBody s__law_are_fractions) (defScope s__law_are_fractions) .none kV34 dc34 pm34 an34 cd34 ct34), sl34⟩)
    (c34 : PySem.W.codeIn K cd34 "_law_are_fractions" = true) (k34 : PySem.W.keepIn K (.ref a34) = true)
    {a35 : Addr} {od35 an35 : Option Addr} {sl35 : Array (Option Value)} {oc35 kV35 dc35 pm35 cd35 ct35 : Value}
    (g35 : PySem.W.nsIn K mainGlobals "_law_web" = some (some (.ref a35))) (l35 : K.lookup a35 = some ⟨oc35, od35, .func (PySem.W.fnOf "_law_web" "_law_web" (defArgs s__law_web) (defBody s__law_web) (defScope s__law_web) .none kV35 dc35 pm35 an35 cd35 ct35), sl35⟩)
    (c35 : PySem.W.codeIn K cd35 "_law_web" = true) (k35 : PySem.W.keepIn K (.ref a35) = true)
    {a36 : Addr} {od36 an36 : Option Addr} {sl36 : Array (Option Value)} {oc36 kV36 dc36 pm36 cd36 ct36 : Value}
    (g36 : PySem.W.nsIn K mainGlobals "_law_leap" = some (some (.ref a36))) (l36 : K.lookup a36 = some ⟨oc36, od36, .func (PySem.W.fnOf "_law_leap" "_law_leap" (defArgs s__law_leap) (defBody s__law_leap) (defScope s__law_leap) .none kV36 dc36 pm36 an36 cd36 ct36), sl36⟩)
    (c36 : PySem.W.codeIn K cd36 "_law_leap" = true) (k36 : PySem.W.keepIn K (.ref a36) = true)
    {a38 : Addr} {od38 an38 : Option Addr} {sl38 : Array (Option Value)} {oc38 kV38 dc38 pm38 cd38 ct38 : Value}
    (g38 : PySem.W.nsIn K mainGlobals "_law_ways" = some (some (.ref a38))) (l38 : K.lookup a38 = some ⟨oc38, od38, .func (PySem.W.fnOf "_law_ways" "_law_ways" (defArgs s__law_ways) (defBody s__law_ways) (defScope s__law_ways) .none kV38 dc38 pm38 an38 cd38 ct38), sl38⟩)
    (c38 : PySem.W.codeIn K cd38 "_law_ways" = true) (k38 : PySem.W.keepIn K (.ref a38) = true)
    {a41 : Addr} {od41 an41 : Option Addr} {sl41 : Array (Option Value)} {oc41 kV41 dc41 pm41 cd41 ct41 : Value}
    (g41 : PySem.W.nsIn K mainGlobals "_law_behind" = some (some (.ref a41))) (l41 : K.lookup a41 = some ⟨oc41, od41, .func (PySem.W.fnOf "_law_behind" "_law_behind" (defArgs s__law_behind) (defBody s__law_behind) (defScope s__law_behind) .none kV41 dc41 pm41 an41 cd41 ct41), sl41⟩)
    (c41 : PySem.W.codeIn K cd41 "_law_behind" = true) (k41 : PySem.W.keepIn K (.ref a41) = true)
    {a42 : Addr} {od42 an42 : Option Addr} {sl42 : Array (Option Value)} {oc42 kV42 dc42 pm42 cd42 ct42 : Value}
    (g42 : PySem.W.nsIn K mainGlobals "_law_stays" = some (some (.ref a42))) (l42 : K.lookup a42 = some ⟨oc42, od42, .func (PySem.W.fnOf "_law_stays" "_law_stays" (defArgs s__law_stays) (defBody s__law_stays) (defScope s__law_stays) .none kV42 dc42 pm42 an42 cd42 ct42), sl42⟩)
    (c42 : PySem.W.codeIn K cd42 "_law_stays" = true) (k42 : PySem.W.keepIn K (.ref a42) = true)
    {a43 : Addr} {od43 an43 : Option Addr} {sl43 : Array (Option Value)} {oc43 kV43 dc43 pm43 cd43 ct43 : Value}
    (g43 : PySem.W.nsIn K mainGlobals "_law_kinds" = some (some (.ref a43))) (l43 : K.lookup a43 = some ⟨oc43, od43, .func (PySem.W.fnOf "_law_kinds" "_law_kinds" (defArgs s__law_kinds) (defBody s__law_kinds) (defScope s__law_kinds) .none kV43 dc43 pm43 an43 cd43 ct43), sl43⟩)
    (c43 : PySem.W.codeIn K cd43 "_law_kinds" = true) (k43 : PySem.W.keepIn K (.ref a43) = true)
    {a44 : Addr} {od44 an44 : Option Addr} {sl44 : Array (Option Value)} {oc44 kV44 dc44 pm44 cd44 ct44 : Value}
    (g44 : PySem.W.nsIn K mainGlobals "_law_right" = some (some (.ref a44))) (l44 : K.lookup a44 = some ⟨oc44, od44, .func (PySem.W.fnOf "_law_right" "_law_right" (defArgs s__law_right) (defBody s__law_right) (defScope s__law_right) .none kV44 dc44 pm44 an44 cd44 ct44), sl44⟩)
    (c44 : PySem.W.codeIn K cd44 "_law_right" = true) (k44 : PySem.W.keepIn K (.ref a44) = true)
    {a45 : Addr} {od45 an45 : Option Addr} {sl45 : Array (Option Value)} {oc45 kV45 dc45 pm45 cd45 ct45 : Value}
    (g45 : PySem.W.nsIn K mainGlobals "law" = some (some (.ref a45))) (l45 : K.lookup a45 = some ⟨oc45, od45, .func (PySem.W.fnOf "law" "law" (defArgs s_law) (defBody s_law) (defScope s_law) .none kV45 dc45 pm45 an45 cd45 ct45), sl45⟩)
    (c45 : PySem.W.codeIn K cd45 "law" = true) (k45 : PySem.W.keepIn K (.ref a45) = true)
    {ac15 : Addr} {nc15 : Nat} {tc15_0 tc15_1 : Tok} (gc15 : PySem.W.nsIn K mainGlobals "NOUGHT_shares" = some (some (.ref ac15))) (lc15 : K.lookup ac15 = some ⟨.type "tuple", none, .seq #[.int 0 tc15_0, .int 1 tc15_1] nc15, #[]⟩)
    {ac16 : Addr} {nc16 : Nat} {tc16_0 tc16_1 : Tok} (gc16 : PySem.W.nsIn K mainGlobals "ONE" = some (some (.ref ac16))) (lc16 : K.lookup ac16 = some ⟨.type "tuple", none, .seq #[.int 1 tc16_0, .int 1 tc16_1] nc16, #[]⟩)
    {ac22 : Addr} {nc22 : Nat} {tc22_0 tc22_1 : Tok} (gc22 : PySem.W.nsIn K mainGlobals "NOUGHT_kinds" = some (some (.ref ac22))) (lc22 : K.lookup ac22 = some ⟨.type "tuple", none, .seq #[.int 0 tc22_0, .int 1 tc22_1] nc22, #[]⟩)
    (z0 : PySem.W.nsIn K mainGlobals "abs" = some none)
    (z1 : PySem.W.nsIn K mainGlobals "len" = some none)
    (z2 : PySem.W.nsIn K mainGlobals "int" = some none)
    (z3 : PySem.W.nsIn K mainGlobals "isinstance" = some none)
    (z4 : PySem.W.nsIn K mainGlobals "sum" = some none)
    (z5 : PySem.W.nsIn K mainGlobals "list" = some none)
    (z6 : PySem.W.nsIn K mainGlobals "tuple" = some none)
    (z7 : PySem.W.nsIn K mainGlobals "max" = some none)
    (z8 : PySem.W.nsIn K mainGlobals "min" = some none)
    (z9 : PySem.W.nsIn K mainGlobals "range" = some none)
    (z10 : PySem.W.nsIn K mainGlobals "enumerate" = some none)
    (z11 : PySem.W.nsIn K mainGlobals "zip" = some none)
    (z12 : PySem.W.nsIn K mainGlobals "sorted" = some none)
    (z13 : PySem.W.nsIn K mainGlobals "repr" = some none)
    (z14 : PySem.W.nsIn K mainGlobals "str" = some none)
    (z15 : PySem.W.nsIn K mainGlobals "all" = some none)
    (z16 : PySem.W.nsIn K mainGlobals "bool" = some none)
    (z17 : PySem.W.nsIn K mainGlobals "dict" = some none)
    (z18 : PySem.W.nsIn K mainGlobals "reversed" = some none)
    (z19 : PySem.W.nsIn K mainGlobals "set" = some none)
    : ∃ fd : FuncData, (∀ (s : Shared) (v : Value), BindsTo s fd ⟨[v], []⟩ [("script", v)]) ∧ ∀ base : Heap, K.In base → base.Ns mainGlobals mg → base.NoSeer → base.NoLimit →
      FnG PySem.Challenge.rw_pagewalks_k39_shares_by_kinds.prog w K mg base CX0 (lv 12) fa fd ["script"] fun vs H Q _ => spW K W0 (callF T 12) "law" vs H Q := by
  have e := hfa.symm.trans (PySem.W.mg_of X G g45)
  cases e
  have F4 := fun_mk (st := s_common) l4 c4 k4
  have D4 : TxIn K cf T "common" _ _ ["one", "other"] := ⟨⟨_, _, 60, _, _, _, F4, sc_common, .inl t_common, h_common⟩, F4.binds fun _ _ _ _ _ _ us hl => match us, hl with | [_, _], _ => rfl⟩
  have F5 := fun_mk (st := s_made) l5 c5 k5
  have D5 : TxIn K cf T "made" _ _ ["above", "below"] := ⟨⟨_, _, 60, _, _, _, F5, sc_made, .inl t_made, h_made⟩, F5.binds fun _ _ _ _ _ _ us hl => match us, hl with | [_, _], _ => rfl⟩
  have F6 := fun_mk (st := s_plus) l6 c6 k6
  have D6 : TxIn K cf T "plus" _ _ ["one", "other"] := ⟨⟨_, _, 60, _, _, _, F6, sc_plus, .inl t_plus, h_plus⟩, F6.binds fun _ _ _ _ _ _ us hl => match us, hl with | [_, _], _ => rfl⟩
  have F7 := fun_mk (st := s_less) l7 c7 k7
  have D7 : TxIn K cf T "less" _ _ ["one", "other"] := ⟨⟨_, _, 60, _, _, _, F7, sc_less, .inl t_less, h_less⟩, F7.binds fun _ _ _ _ _ _ us hl => match us, hl with | [_, _], _ => rfl⟩
  have F8 := fun_mk (st := s_times) l8 c8 k8
  have D8 : TxIn K cf T "times" _ _ ["one", "other"] := ⟨⟨_, _, 60, _, _, _, F8, sc_times, .inl t_times, h_times⟩, F8.binds fun _ _ _ _ _ _ us hl => match us, hl with | [_, _], _ => rfl⟩
  have F9 := fun_mk (st := s_by) l9 c9 k9
  have D9 : TxIn K cf T "by" _ _ ["one", "other"] := ⟨⟨_, _, 60, _, _, _, F9, sc_by, .inl t_by, h_by⟩, F9.binds fun _ _ _ _ _ _ us hl => match us, hl with | [_, _], _ => rfl⟩
  have F11 := fun_mk (st := s_leads) l11 c11 k11
  have D11 : TxIn K cf T "leads" _ _ ["web", "page"] := ⟨⟨_, _, 60, _, _, _, F11, sc_leads, .inl t_leads, h_leads⟩, F11.binds fun _ _ _ _ _ _ us hl => match us, hl with | [_, _], _ => rfl⟩
  have F13 := fun_mk (st := s_ways) l13 c13 k13
  have D13 : TxIn K cf T "ways" _ _ ["web", "leap", "leaps", "page"] := ⟨⟨_, _, 60, _, _, _, F13, sc_ways, .inl t_ways, h_ways⟩, F13.binds fun _ _ _ _ _ _ us hl => match us, hl with | [_, _, _, _], _ => rfl⟩
  have F17 := fun_mk (st := s_equations) l17 c17 k17
  have D17 : TxIn K cf T "equations" _ _ ["web", "leap", "leaps"] := ⟨⟨_, _, 60, _, _, _, F17, sc_equations, .inl t_equations, h_equations⟩, F17.binds fun _ _ _ _ _ _ us hl => match us, hl with | [_, _, _], _ => rfl⟩
  have F18 := fun_mk (st := s_taken_off) l18 c18 k18
  have D18 : TxIn K cf T "taken_off" _ _ ["row", "pivot", "column"] := ⟨⟨_, _, 60, _, _, _, F18, sc_taken_off, .inl t_taken_off, h_taken_off⟩, F18.binds fun _ _ _ _ _ _ us hl => match us, hl with | [_, _, _], _ => rfl⟩
  have F19 := fun_mk (st := s_solved) l19 c19 k19
  have D19 : TxIn K cf T "solved" _ _ ["rows"] := ⟨⟨_, _, 60, _, _, _, F19, sc_solved, .inl t_solved, h_solved⟩, F19.binds fun _ _ _ _ _ _ us hl => match us, hl with | [_], _ => rfl⟩
  have F20 := fun_mk (st := s_shares) l20 c20 k20
  have D20 : TxIn K cf T "shares" _ _ ["web", "leap", "leaps"] := ⟨⟨_, _, 60, _, _, _, F20, sc_shares, .inl t_shares, h_shares⟩, F20.binds fun _ _ _ _ _ _ us hl => match us, hl with | [_, _, _], _ => rfl⟩
  have F23 := fun_mk (st := s_leaps_of) l23 c23 k23
  have D23 : TxIn K cf T "leaps_of" _ _ ["kinds", "letter"] := ⟨⟨_, _, 60, _, _, _, F23, sc_leaps_of, .inl t_leaps_of, h_leaps_of⟩, F23.binds fun _ _ _ _ _ _ us hl => match us, hl with | [_, _], _ => rfl⟩
  have F24 := fun_mk (st := s_by_kinds) l24 c24 k24
  have D24 : TxIn K cf T "by_kinds" _ _ ["web", "leap", "kinds"] := ⟨⟨_, _, 60, _, _, _, F24, sc_by_kinds, .inl t_by_kinds, h_by_kinds⟩, F24.binds fun _ _ _ _ _ _ us hl => match us, hl with | [_, _, _], _ => rfl⟩
  have F26 := fun_mk (st := s__law_draws) l26 c26 k26
  have D26 : TxIn K cf T "_law_draws" _ _ ["script"] := ⟨⟨_, _, 60, _, _, _, F26, sc__law_draws, .inl t__law_draws, h__law_draws⟩, F26.binds fun _ _ _ _ _ _ us hl => match us, hl with | [_], _ => rfl⟩
  have F27 := fun_mk (st := s__law_take) l27 c27 k27
  have D27 : TxIn K cf T "_law_take" _ _ ["draws", "many"] := ⟨⟨_, _, 60, _, _, _, F27, sc__law_take, .inl t__law_take, h__law_take⟩, F27.binds fun _ _ _ _ _ _ us hl => match us, hl with | [_, _], _ => rfl⟩
  have F28 := fun_mk (st := s__law_fraction) l28 c28 k28
  have D28 : TxIn K cf T "_law_fraction" _ _ ["above", "below"] := ⟨⟨_, _, 60, _, _, _, F28, sc__law_fraction, .inl t__law_fraction, h__law_fraction⟩, F28.binds fun _ _ _ _ _ _ us hl => match us, hl with | [_, _], _ => rfl⟩
  have F29 := fun_mk (st := s__law_sum) l29 c29 k29
  have D29 : TxIn K cf T "_law_sum" _ _ ["one", "other"] := ⟨⟨_, _, 60, _, _, _, F29, sc__law_sum, .inl t__law_sum, h__law_sum⟩, F29.binds fun _ _ _ _ _ _ us hl => match us, hl with | [_, _], _ => rfl⟩
  have F30 := fun_mk (st := s__law_rest) l30 c30 k30
  have D30 : TxIn K cf T "_law_rest" _ _ ["one", "other"] := ⟨⟨_, _, 60, _, _, _, F30, sc__law_rest, .inl t__law_rest, h__law_rest⟩, F30.binds fun _ _ _ _ _ _ us hl => match us, hl with | [_, _], _ => rfl⟩
  have F31 := fun_mk (st := s__law_product) l31 c31 k31
  have D31 : TxIn K cf T "_law_product" _ _ ["one", "other"] := ⟨⟨_, _, 60, _, _, _, F31, sc__law_product, .inl t__law_product, h__law_product⟩, F31.binds fun _ _ _ _ _ _ us hl => match us, hl with | [_, _], _ => rfl⟩
  have F33 := fun_mk (st := s__law_total) l33 c33 k33
  have D33 : TxIn K cf T "_law_total" _ _ ["row"] := ⟨⟨_, _, 60, _, _, _, F33, sc__law_total, .inl t__law_total, h__law_total⟩, F33.binds fun _ _ _ _ _ _ us hl => match us, hl with | [_], _ => rfl⟩
  have F34 := fun_mk (st := s__law_are_fractions) l34 c34 k34
  have D34 : TxIn K cf T "_law_are_fractions" _ _ ["found", "many"] := ⟨⟨_, _, 60, _, _, _, F34, sc__law_are_fractions, .inl t__law_are_fractions, h__law_are_fractions⟩, F34.binds fun _ _ _ _ _ _ us hl => match us, hl with | [_, _], _ => rfl⟩
  have F35 := fun_mk (st := s__law_web) l35 c35 k35
  have D35 : TxIn K cf T "_law_web" _ _ ["draws"] := ⟨⟨_, _, 60, _, _, _, F35, sc__law_web, .inl t__law_web, h__law_web⟩, F35.binds fun _ _ _ _ _ _ us hl => match us, hl with | [_], _ => rfl⟩
  have F36 := fun_mk (st := s__law_leap) l36 c36 k36
  have D36 : TxIn K cf T "_law_leap" _ _ ["draws"] := ⟨⟨_, _, 60, _, _, _, F36, sc__law_leap, .inl t__law_leap, h__law_leap⟩, F36.binds fun _ _ _ _ _ _ us hl => match us, hl with | [_], _ => rfl⟩
  have F38 := fun_mk (st := s__law_ways) l38 c38 k38
  have D38 : TxIn K cf T "_law_ways" _ _ ["web", "leap", "leaps", "page"] := ⟨⟨_, _, 60, _, _, _, F38, sc__law_ways, .inl t__law_ways, h__law_ways⟩, F38.binds fun _ _ _ _ _ _ us hl => match us, hl with | [_, _, _, _], _ => rfl⟩
  have F41 := fun_mk (st := s__law_behind) l41 c41 k41
  have D41 : TxIn K cf T "_law_behind" _ _ ["web", "leap", "leaps", "row"] := ⟨⟨_, _, 60, _, _, _, F41, sc__law_behind, .inl t__law_behind, h__law_behind⟩, F41.binds fun _ _ _ _ _ _ us hl => match us, hl with | [_, _, _, _], _ => rfl⟩
  have F42 := fun_mk (st := s__law_stays) l42 c42 k42
  have D42 : TxIn K cf T "_law_stays" _ _ ["web", "leap", "leaps", "row"] := ⟨⟨_, _, 60, _, _, _, F42, sc__law_stays, .inl t__law_stays, h__law_stays⟩, F42.binds fun _ _ _ _ _ _ us hl => match us, hl with | [_, _, _, _], _ => rfl⟩
  have F43 := fun_mk (st := s__law_kinds) l43 c43 k43
  have D43 : TxIn K cf T "_law_kinds" _ _ ["draws", "many"] := ⟨⟨_, _, 60, _, _, _, F43, sc__law_kinds, .inl t__law_kinds, h__law_kinds⟩, F43.binds fun _ _ _ _ _ _ us hl => match us, hl with | [_, _], _ => rfl⟩
  have F44 := fun_mk (st := s__law_right) l44 c44 k44
  have D44 : TxIn K cf T "_law_right" _ _ ["web", "leap", "kinds", "found"] := ⟨⟨_, _, 60, _, _, _, F44, sc__law_right, .inl t__law_right, h__law_right⟩, F44.binds fun _ _ _ _ _ _ us hl => match us, hl with | [_, _, _, _], _ => rfl⟩
  have F45 := fun_mk (st := s_law) l45 c45 k45
  have D45 : TxIn K cf T "law" _ _ ["script"] := ⟨⟨_, _, 60, _, _, _, F45, sc_law, .inl t_law, h_law⟩, F45.binds fun _ _ _ _ _ _ us hl => match us, hl with | [_], _ => rfl⟩
  have Ds1 : ∀ x, cf.fns.contains x = true → ∃ f fd ps, DefIn K mg cf T x f fd ps := fun x hx => by
    have hx : x ∈ cf.fns := List.contains_iff_mem.mp hx
    simp only [cf, List.mem_cons, List.not_mem_nil, or_false] at hx
    rcases hx with rfl | rfl | rfl | rfl | rfl | rfl | rfl | rfl | rfl | rfl | rfl | rfl | rfl | rfl | rfl | rfl | rfl | rfl | rfl | rfl | rfl | rfl | rfl | rfl | rfl | rfl | rfl | rfl | rfl | rfl
    · exact ⟨_, _, _, D4, PySem.W.mg_of X G g4⟩
    · exact ⟨_, _, _, D5, PySem.W.mg_of X G g5⟩
    · exact ⟨_, _, _, D6, PySem.W.mg_of X G g6⟩
    · exact ⟨_, _, _, D7, PySem.W.mg_of X G g7⟩
    · exact ⟨_, _, _, D8, PySem.W.mg_of X G g8⟩
    · exact ⟨_, _, _, D9, PySem.W.mg_of X G g9⟩
    · exact ⟨_, _, _, D11, PySem.W.mg_of X G g11⟩
    · exact ⟨_, _, _, D13, PySem.W.mg_of X G g13⟩
    · exact ⟨_, _, _, D17, PySem.W.mg_of X G g17⟩
    · exact ⟨_, _, _, D18, PySem.W.mg_of X G g18⟩
    · exact ⟨_, _, _, D19, PySem.W.mg_of X G g19⟩
    · exact ⟨_, _, _, D20, PySem.W.mg_of X G g20⟩
    · exact ⟨_, _, _, D23, PySem.W.mg_of X G g23⟩
    · exact ⟨_, _, _, D24, PySem.W.mg_of X G g24⟩
    · exact ⟨_, _, _, D26, PySem.W.mg_of X G g26⟩
    · exact ⟨_, _, _, D27, PySem.W.mg_of X G g27⟩
    · exact ⟨_, _, _, D28, PySem.W.mg_of X G g28⟩
    · exact ⟨_, _, _, D29, PySem.W.mg_of X G g29⟩
    · exact ⟨_, _, _, D30, PySem.W.mg_of X G g30⟩
    · exact ⟨_, _, _, D31, PySem.W.mg_of X G g31⟩
    · exact ⟨_, _, _, D33, PySem.W.mg_of X G g33⟩
    · exact ⟨_, _, _, D34, PySem.W.mg_of X G g34⟩
    · exact ⟨_, _, _, D35, PySem.W.mg_of X G g35⟩
    · exact ⟨_, _, _, D36, PySem.W.mg_of X G g36⟩
    · exact ⟨_, _, _, D38, PySem.W.mg_of X G g38⟩
    · exact ⟨_, _, _, D41, PySem.W.mg_of X G g41⟩
    · exact ⟨_, _, _, D42, PySem.W.mg_of X G g42⟩
    · exact ⟨_, _, _, D43, PySem.W.mg_of X G g43⟩
    · exact ⟨_, _, _, D44, PySem.W.mg_of X G g44⟩
    · exact ⟨_, _, _, D45, PySem.W.mg_of X G g45⟩
  have Ds2 : ∀ m c x, cf.mets.lookup m = some (c, x) → MetIn K cf T m c x := fun m c x hx => by
    cases hx
  have Ds3 : ∀ c x, cf.cls.lookup c = some x → MakeIn K mg cf T c x := fun c x hx => by
    cases hx
  have Ds : AllIn K mg cf T := ⟨Ds1, Ds2, Ds3⟩
  have DL : DefIn K mg cf T "law" _ _ _ := ⟨D45, PySem.W.mg_of X G g45⟩
  have B : ∀ b : Bi, mg (biOf b).1 = none := fun b => by
    cases b
    · exact PySem.W.mg_none_of X G z0
    · exact PySem.W.mg_none_of X G z1
    · exact PySem.W.mg_none_of X G z2
    · exact PySem.W.mg_none_of X G z3
    · exact PySem.W.mg_none_of X G z4
    · exact PySem.W.mg_none_of X G z5
    · exact PySem.W.mg_none_of X G z6
    · exact PySem.W.mg_none_of X G z7
    · exact PySem.W.mg_none_of X G z8
    · exact PySem.W.mg_none_of X G z9
    · exact PySem.W.mg_none_of X G z10
    · exact PySem.W.mg_none_of X G z11
    · exact PySem.W.mg_none_of X G z12
    · exact PySem.W.mg_none_of X G z13
    · exact PySem.W.mg_none_of X G z14
    · exact PySem.W.mg_none_of X G z15
  have Ty : ∀ x t, tyTab.lookup x = some t → mg x = none := fun x t hx => by
    obtain ⟨l1, l2, e, _⟩ := List.lookup_eq_some_iff.mp hx
    have hm : (x, t) ∈ tyTab := by
      rw [e]
      simp
    simp only [tyTab, List.mem_cons, Prod.mk.injEq, List.not_mem_nil, or_false] at hm
    rcases hm with ⟨rfl, rfl⟩ | ⟨rfl, rfl⟩ | ⟨rfl, rfl⟩ | ⟨rfl, rfl⟩ | ⟨rfl, rfl⟩ | ⟨rfl, rfl⟩
    · exact PySem.W.mg_none_of X G z2
    · exact PySem.W.mg_none_of X G z16
    · exact PySem.W.mg_none_of X G z14
    · exact PySem.W.mg_none_of X G z6
    · exact PySem.W.mg_none_of X G z5
    · exact PySem.W.mg_none_of X G z17
  refine ⟨PySem.W.fnOf "law" "law" (defArgs s_law) (defBody s_law) (defScope s_law) .none kV45 dc45 pm45 an45 cd45 ct45, fun s v => .of_eq rfl, fun base kb gb sb lb => ?_⟩
  have Co : ∀ x d, cf.con.lookup x = some d → ∃ u v, mg x = some u ∧ RelV v u ∧ ∀ mu H, Rep K mu H d v := fun x d hx => by
    obtain ⟨l1, l2, e, _⟩ := List.lookup_eq_some_iff.mp hx
    have hm : (x, d) ∈ cf.con := by
      rw [e]
      simp
    simp only [cf, List.mem_cons, Prod.mk.injEq, List.not_mem_nil, or_false] at hm
    rcases hm with ⟨rfl, rfl⟩ | ⟨rfl, rfl⟩ | ⟨rfl, rfl⟩
    · exact ⟨_, .ref ac15, PySem.W.mg_of X G gc15, rfl, fun mu H => by simp only [c_NOUGHT_shares, Rep]; exact ⟨ac15, [.int 0, .int 1], rfl, .inr ⟨_, _, _, lc15, rfl, rfl, rfl, (by simp [sizeLine_eq]), (.cons ⟨_, rfl⟩ (.cons ⟨_, rfl⟩ .nil))⟩, by simp [Reps, Rep]⟩⟩
    · exact ⟨_, .ref ac16, PySem.W.mg_of X G gc16, rfl, fun mu H => by simp only [c_ONE, Rep]; exact ⟨ac16, [.int 1, .int 1], rfl, .inr ⟨_, _, _, lc16, rfl, rfl, rfl, (by simp [sizeLine_eq]), (.cons ⟨_, rfl⟩ (.cons ⟨_, rfl⟩ .nil))⟩, by simp [Reps, Rep]⟩⟩
    · exact ⟨_, .ref ac22, PySem.W.mg_of X G gc22, rfl, fun mu H => by simp only [c_NOUGHT_kinds, Rep]; exact ⟨ac22, [.int 0, .int 1], rfl, .inr ⟨_, _, _, lc22, rfl, rfl, rfl, (by simp [sizeLine_eq]), (.cons ⟨_, rfl⟩ (.cons ⟨_, rfl⟩ .nil))⟩, by simp [Reps, Rep]⟩⟩
  have Ex : ∀ c, cf.exs.contains c = true → ExcOk K mg c := fun c hx => by
    have hx : c ∈ cf.exs := List.contains_iff_mem.mp hx
    simp only [cf, List.mem_cons, List.not_mem_nil, or_false] at hx
    rcases hx with rfl
    · exact ⟨E2, xE2, PySem.W.mg_of X G gE2, kE2, bE2, tE2, exm_own bE2 iE2 tE2 sE2⟩
  have Is : ∀ c t b, (c, t, b) ∈ cf.isa → IsaOk K mg c t b := fun c t b hx => by
    cases hx
  have M : Mo PySem.Challenge.rw_pagewalks_k39_shares_by_kinds.prog w K mg base cf := ⟨Co, B, PySem.W.mg_none_of X G z18, PySem.W.mg_none_of X G z19, fun x t h _ => Ty x t h, sb, lb, rfl, Ex, Is⟩
  exact one_ok M Ds 11 DL
end K39
open PySem PySem.W PyProof.Rows
set_option maxHeartbeats 0 in
theorem PySem.Challenge.cw_pagewalks_k39_shares_by_kinds_holds : PySem.Challenge.rw_pagewalks_k39_shares_by_kinds.Holds := by
  w_on; o_law; k_head; (case hw => w_witness2)
  k_fill
  refine Ip.walk_my (l := PySem.Challenge.rw_pagewalks_k39_shares_by_kinds) (n := 63) (k := Ip.lv 12) (x := "script") (sp := fun w vs H Q _ => Ip.spW _ Ip.W0 (Ip.callF K39.T 12) "law" vs H Q) rfl (by decide) rfl ⟨rfl, by decide, by decide⟩ (by decide +kernel) (fun w h Y => PySem.W.kIn_of Y) ?F (fun w H a ns h1 h2 h3 => Ip.law_sp (n := 63) K39.law_true H a ns h1 h2 h3)
  case F =>
    intro w mg fa h KX G hmg
    refine' K39.law_ok KX G hmg ?gE2 ?xE2 ?kE2 ?bE2 ?tE2 ?iE2 ?sE2 ?g4 ?l4 ?c4 ?k4 ?g5 ?l5 ?c5 ?k5 ?g6 ?l6 ?c6 ?k6 ?g7 ?l7 ?c7 ?k7 ?g8 ?l8 ?c8 ?k8 ?g9 ?l9 ?c9 ?k9 ?g11 ?l11 ?c11 ?k11 ?g13 ?l13 ?c13 ?k13 ?g17 ?l17 ?c17 ?k17 ?g18 ?l18 ?c18 ?k18 ?g19 ?l19 ?c19 ?k19 ?g20 ?l20 ?c20 ?k20 ?g23 ?l23 ?c23 ?k23 ?g24 ?l24 ?c24 ?k24 ?g26 ?l26 ?c26 ?k26 ?g27 ?l27 ?c27 ?k27 ?g28 ?l28 ?c28 ?k28 ?g29 ?l29 ?c29 ?k29 ?g30 ?l30 ?c30 ?k30 ?g31 ?l31 ?c31 ?k31 ?g33 ?l33 ?c33 ?k33 ?g34 ?l34 ?c34 ?k34 ?g35 ?l35 ?c35 ?k35 ?g36 ?l36 ?c36 ?k36 ?g38 ?l38 ?c38 ?k38 ?g41 ?l41 ?c41 ?k41 ?g42 ?l42 ?c42 ?k42 ?g43 ?l43 ?c43 ?k43 ?g44 ?l44 ?c44 ?k44 ?g45 ?l45 ?c45 ?k45 ?gc15 ?lc15 ?gc16 ?lc16 ?gc22 ?lc22 ?z0 ?z1 ?z2 ?z3 ?z4 ?z5 ?z6 ?z7 ?z8 ?z9 ?z10 ?z11 ?z12 ?z13 ?z14 ?z15 ?z16 ?z17 ?z18 ?z19
    (case gE2 => k_is); (case xE2 => k_exc); (case kE2 => k_is); (case bE2 => k_is); (case tE2 => k_is); (case iE2 => k_is); (case sE2 => first | rfl | k_is); (case g4 => k_is); (case l4 => k_is); (case c4 => k_is); (case k4 => k_is); (case g5 => k_is); (case l5 => k_is); (case c5 => k_is); (case k5 => k_is); (case g6 => k_is); (case l6 => k_is); (case c6 => k_is); (case k6 => k_is); (case g7 => k_is); (case l7 => k_is); (case c7 => k_is); (case k7 => k_is); (case g8 => k_is); (case l8 => k_is); (case c8 => k_is); (case k8 => k_is); (case g9 => k_is); (case l9 => k_is); (case c9 => k_is); (case k9 => k_is); (case g11 => k_is); (case l11 => k_is); (case c11 => k_is); (case k11 => k_is); (case g13 => k_is); (case l13 => k_is); (case c13 => k_is); (case k13 => k_is); (case g17 => k_is); (case l17 => k_is); (case c17 => k_is); (case k17 => k_is); (case g18 => k_is); (case l18 => k_is); (case c18 => k_is); (case k18 => k_is); (case g19 => k_is); (case l19 => k_is); (case c19 => k_is); (case k19 => k_is); (case g20 => k_is); (case l20 => k_is); (case c20 => k_is); (case k20 => k_is); (case g23 => k_is); (case l23 => k_is); (case c23 => k_is); (case k23 => k_is); (case g24 => k_is); (case l24 => k_is); (case c24 => k_is); (case k24 => k_is); (case g26 => k_is); (case l26 => k_is); (case c26 => k_is); (case k26 => k_is); (case g27 => k_is); (case l27 => k_is); (case c27 => k_is); (case k27 => k_is); (case g28 => k_is); (case l28 => k_is); (case c28 => k_is); (case k28 => k_is); (case g29 => k_is); (case l29 => k_is); (case c29 => k_is); (case k29 => k_is); (case g30 => k_is); (case l30 => k_is); (case c30 => k_is); (case k30 => k_is); (case g31 => k_is); (case l31 => k_is); (case c31 => k_is); (case k31 => k_is); (case g33 => k_is); (case l33 => k_is); (case c33 => k_is); (case k33 => k_is); (case g34 => k_is); (case l34 => k_is); (case c34 => k_is); (case k34 => k_is); (case g35 => k_is); (case l35 => k_is); (case c35 => k_is); (case k35 => k_is); (case g36 => k_is); (case l36 => k_is); (case c36 => k_is); (case k36 => k_is); (case g38 => k_is); (case l38 => k_is); (case c38 => k_is); (case k38 => k_is); (case g41 => k_is); (case l41 => k_is); (case c41 => k_is); (case k41 => k_is); (case g42 => k_is); (case l42 => k_is); (case c42 => k_is); (case k42 => k_is); (case g43 => k_is); (case l43 => k_is); (case c43 => k_is); (case k43 => k_is); (case g44 => k_is); (case l44 => k_is); (case c44 => k_is); (case k44 => k_is); (case g45 => k_is); (case l45 => k_is); (case c45 => k_is); (case k45 => k_is); (case gc15 => k_is); (case lc15 => k_is); (case gc16 => k_is); (case lc16 => k_is); (case gc22 => k_is); (case lc22 => k_is); (case z0 => k_is); (case z1 => k_is); (case z2 => k_is); (case z3 => k_is); (case z4 => k_is); (case z5 => k_is); (case z6 => k_is); (case z7 => k_is); (case z8 => k_is); (case z9 => k_is); (case z10 => k_is); (case z11 => k_is); (case z12 => k_is); (case z13 => k_is); (case z14 => k_is); (case z15 => k_is); (case z16 => k_is); (case z17 => k_is); (case z18 => k_is); (case z19 => k_is)
