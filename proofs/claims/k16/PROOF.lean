import PyProof.Rows.All
import Wide.All
import OpenK.AllK
import Wide.FinOn
import HandS.ForMost
import KE.SortData
import KE.SortKeyHeap
import HandS.ForExc
import HandS.TupAny
import HandS.Deep
import HandS.Style
import HandS.Flow
import HandS.CallSlots
import HandS.Iter
import HandS.Zip
import HandS.Rev
import HandS.IsInst
import HandS.ExcValue
import HandS.Conv
import HandS.TupLen
import KE.LtData
import HandS.More
import HandS.Dict
import HandS.SortKw
import PySem.Challenge.RW_cornerpick_k16_whole_even_and_odd
set_option Elab.async false
set_option linter.all false
set_option maxRecDepth 100000
namespace Pk
open PySem

/-! ### values, store, outcomes -/
inductive D where
  | non | bl (b : Bool) | int (i : Int) | str (x : Str) | tup (l : List D) | lst (l : List D) | dct (t : Bool) (l : List (D × D)) | ref (n : Nat) | exn (c : Str) (l : List D) | oth (n : Nat)
  deriving Inhabited
inductive Cell where
  | lst (l : List D) | dct (t : Bool) (l : List (D × D)) | obj (c : Str) (fs : List (Str × D))
abbrev Store := List Cell
inductive Out (α : Type) where
  | ok (a : α) (S : Store) | exc (x : D) (S : Store) | no
abbrev M (α : Type) := Store → Out α
def Out.bind {α β : Type} (o : Out α) (f : α → Store → Out β) : Out β :=
  match o with
  | .ok a S => f a S
  | .exc x S => .exc x S
  | .no => .no
def Out.some? {α : Type} (o : Option α) (S : Store) : Out α :=
  match o with
  | some a => .ok a S
  | none => .no
/-- slots -/
inductive Slot where
  | emp | val (d : D) | own (l : List D) | ownd (t : Bool) (l : List (D × D))
abbrev Env := List Slot
abbrev Ex := Env → M D
abbrev Tx := Env → M Bool
abbrev Lx := Env → M (List D)
inductive SO where
  | nx (r : Env) (S : Store) | rt (d : D) (S : Store) | bk (r : Env) (S : Store) | ct (r : Env) (S : Store) | exc (x : D) (S : Store) | no
abbrev Sx := Env → Store → SO
def Out.so {α : Type} (o : Out α) (f : α → Store → SO) : SO :=
  match o with
  | .ok a S => f a S
  | .exc x S => .exc x S
  | .no => .no

/-! ### data -/
mutual
def py : D → PyData
  | .non => .none
  | .bl b => .bool b
  | .int i => .int i
  | .str x => .str x
  | .tup l => .tuple (pys l)
  | .lst l => .list (pys l)
  | .dct _ _ => .none
  | .ref _ => .none
  | .exn _ _ => .none
  | .oth _ => .none
def pys : List D → List PyData
  | [] => []
  | d :: l => py d :: pys l
end
mutual
/-- plain data: nothing but None, bools, ints, texts, tuples and lists -/
def dat : D → Bool
  | .non => true
  | .bl _ => true
  | .int _ => true
  | .str _ => true
  | .tup l => dats l
  | .lst l => dats l
  | .dct _ _ => false
  | .ref _ => false
  | .exn _ _ => false
  | .oth _ => false
def dats : List D → Bool
  | [] => true
  | d :: l => dat d && dats l
end
def small (d : D) : Bool := dat d && decide ((py d).depth ≤ 64)

/-! ### operations on values -/
/-- a guard that nothing computes -/
noncomputable def gd (p : Prop) : Bool := @decide p (Classical.propDecidable p)
theorem gd_iff {p : Prop} : gd p = true ↔ p := by
  unfold gd
  exact @decide_eq_true_iff p (Classical.propDecidable p)

def oAdd : D → D → Option D
  | .int i, .int j => some (.int (i + j))
  | .str x, .str y => if x.length + y.length ≤ sizeLine then some (.str (x ++ y)) else none
  | .tup l, .tup m => if l.length + m.length ≤ sizeLine then some (.tup (l ++ m)) else none
  | .lst l, .lst m => if l.length + m.length ≤ sizeLine then some (.lst (l ++ m)) else none
  | _, _ => none
def okMul (i j : Int) : Bool := (decide (-(2 ^ 64) < i) && decide (i < 2 ^ 64)) || (decide (-(2 ^ 64) < j) && decide (j < 2 ^ 64))
def oSub : D → D → Option D
  | .int i, .int j => some (.int (i - j))
  | _, _ => none
def oMul : D → D → Option D
  | .int i, .int j => if okMul i j then some (.int (i * j)) else none
  | _, _ => none
def oMod : D → D → Option D
  | .int i, .int j => if 0 < j then some (.int (i % j)) else none
  | _, _ => none
def oDiv : D → D → Option D
  | .int i, .int j => if 0 < j ∧ j < 1073741824 then some (.int (i / j)) else none
  | _, _ => none
def oPow : D → D → Option D
  | .int i, .int j => if 0 ≤ j ∧ j ≤ 1000000 ∧ i.natAbs < 2 ^ 64 then some (.int (i ^ j.toNat)) else none
  | _, _ => none
def oBin : Operator → D → D → Option D
  | .Add => oAdd
  | .Sub => oSub
  | .Mult => oMul
  | .Mod => oMod
  | .FloorDiv => oDiv
  | .Pow => oPow
  | _ => fun _ _ => none
def oEq (a b : D) : Option Bool := if small a && small b then some (PyData.eqv (py a) (py b)) else none
def oLt : D → D → Option Bool
  | .int i, .int j => some (decide (i < j))
  | .str x, .str y => some (decide (x.cps.toList < y.cps.toList))
  | _, _ => none
/-! dicts: t tells whether the keys are tuples -/
def keyD : D → Option L2.Key
  | .int i => some (.inl i)
  | .str x => some (.inr x)
  | _ => none
def keysL : List D → Option (List L2.Key)
  | [] => some []
  | d :: l => (keyD d).bind fun k => (keysL l).map (k :: ·)
def kOf (t : Bool) (d : D) : Option (List L2.Key) := if t then (match d with | .tup l => keysL l | _ => none) else (keyD d).map ([·])
def dGet (t : Bool) (l : List (D × D)) (k : List L2.Key) : Option D := (l.find? fun p => decide (kOf t p.1 = some k)).map (·.2)
def dPut (t : Bool) (l : List (D × D)) (d : D) (k : List L2.Key) (v : D) : List (D × D) :=
  if (l.any fun p => decide (kOf t p.1 = some k)) = true then l.map (fun p => if kOf t p.1 = some k then (p.1, v) else p) else l ++ [(d, v)]
def oIn : D → D → Option Bool
  | .str x, .str y => if x.length = 1 then some (decide (x.cps.getD 0 0 ∈ y.cps.toList)) else none
  | a, .lst l => if small a && small (.lst l) then some (l.any fun z => PyData.eqv (py z) (py a)) else none
  | a, .tup l => if small a && small (.tup l) then some (l.any fun z => PyData.eqv (py z) (py a)) else none
  | a, .dct t l => (kOf t a).map fun k => (dGet t l k).isSome
  | _, _ => none
def oCmp : CmpOp → D → D → Option Bool
  | .Eq, a, b => oEq a b
  | .NotEq, a, b => (oEq a b).map (!·)
  | .Lt, a, b => oLt a b
  | .Gt, a, b => oLt b a
  | .LtE, a, b => (oLt b a).map (!·)
  | .GtE, a, b => (oLt a b).map (!·)
  | .In, a, b => oIn a b
  | .NotIn, a, b => (oIn a b).map (!·)
  | .Is, a, .non => some (match a with | .non => true | _ => false)
  | .IsNot, a, .non => some (match a with | .non => false | _ => true)
  | .Is, .bl a, .bl b => some (decide (a = b))
  | .IsNot, .bl a, .bl b => some (!decide (a = b))
  | _, _, _ => none
def oTru : D → Option Bool
  | .non => some false
  | .bl b => some b
  | .int i => some (i != 0)
  | .str x => some ((x.length : Int) != 0)
  | .tup l => some (!l.isEmpty)
  | .lst l => some (!l.isEmpty)
  | _ => none
def oLen : D → Option D
  | .str x => some (.int x.length)
  | .tup l => some (.int l.length)
  | .lst l => some (.int l.length)
  | .dct true l => some (.int l.length)
  | _ => none
def oIx : D → D → Option D
  | .tup l, .int i => L2.atI l i
  | .lst l, .int i => L2.atI l i
  | .str x, .int i => (L2.atI x.cps.toList i).map fun c => .str ⟨#[c]⟩
  | .dct t l, k => (kOf t k).bind (dGet t l)
  | _, _ => none

/-! ### expressions -/
def der (d : D) (S : Store) : Option D :=
  match d with
  | .ref n => match S[n]? with
    | some (.lst l) => some (.lst l)
    | some (.dct t l) => some (.dct t l)
    | _ => none
  | d => some d
def eCon (d : D) : Ex := fun _ S => .ok d S
def eVar (i : Nat) : Ex := fun r S => match r[i]? with
  | some (.val d) => .ok d S
  | _ => .no
/-- a name in a place where it is only read -/
def eRd (i : Nat) : Ex := fun r S => match r[i]? with
  | some (.val d) => .ok d S
  | some (.own l) => .ok (.lst l) S
  | some (.ownd t l) => .ok (.dct t l) S
  | _ => .no
def e1 (p : D → Option D) (fa : Ex) : Ex := fun r S => (fa r S).bind fun a S1 => Out.some? ((der a S1).bind p) S1
def e2 (p : D → D → Option D) (fa fb : Ex) : Ex := fun r S => (fa r S).bind fun a S1 => (fb r S1).bind fun b S2 => Out.some? ((der a S2).bind fun a' => (der b S2).bind fun b' => p a' b') S2
def eBin (op : Operator) (fa fb : Ex) : Ex := e2 (oBin op) fa fb
def eCmp (op : CmpOp) (fa fb : Ex) : Ex := e2 (fun a b => (oCmp op a b).map D.bl) fa fb
def oNeg : D → Option D
  | .int i => some (.int (-i))
  | _ => none
def eNeg (fa : Ex) : Ex := e1 oNeg fa
def oBl : D → Option Bool
  | .bl b => some b
  | _ => none
def eNot (fa : Ex) : Ex := fun r S => (fa r S).bind fun a S1 => Out.some? ((oBl a).map fun b => .bl (!b)) S1
def eAnd (fa fb : Ex) : Ex := fun r S => (fa r S).bind fun a S1 => match a with
  | .bl true => fb r S1
  | .bl false => .ok (.bl false) S1
  | _ => .no
def eOr (fa fb : Ex) : Ex := fun r S => (fa r S).bind fun a S1 => match a with
  | .bl true => .ok (.bl true) S1
  | .bl false => fb r S1
  | _ => .no
def eIf (ft : Tx) (fa fb : Ex) : Ex := fun r S => (ft r S).bind fun b S1 => if b then fa r S1 else fb r S1
def eArgs : List Ex → Lx
  | [], _, S => .ok [] S
  | f :: fs, r, S => (f r S).bind fun d S1 => (eArgs fs r S1).bind fun ds S2 => .ok (d :: ds) S2
def guardLen (l : List D) (S : Store) : Out (List D) := if l.length ≤ sizeLine then .ok l S else .no
def eTup (fs : List Ex) : Ex := fun r S => (eArgs fs r S).bind fun ds S1 => (guardLen ds S1).bind fun ds S1 => .ok (.tup ds) S1
def lLst (fs : List Ex) : Lx := fun r S => (eArgs fs r S).bind fun ds S1 => guardLen ds S1
def eL (f : Lx) : Ex := fun r S => (f r S).bind fun l S1 => .ok (.lst l) S1
def eCall (g : List D → M D) (fs : List Ex) : Ex := fun r S => (eArgs fs r S).bind fun ds S1 => g ds S1
def eIx (fa fb : Ex) : Ex := e2 oIx fa fb
/-! ### tests -/
def tVal (fa : Ex) : Tx := fun r S => (fa r S).bind fun a S1 => Out.some? ((der a S1).bind oTru) S1
def tCmp (op : CmpOp) (fa fb : Ex) : Tx := fun r S => (fa r S).bind fun a S1 => (fb r S1).bind fun b S2 => Out.some? ((der a S2).bind fun a' => (der b S2).bind fun b' => oCmp op a' b') S2
def tNot (t : Tx) : Tx := fun r S => (t r S).bind fun b S1 => .ok (!b) S1
def tAnd (t u : Tx) : Tx := fun r S => (t r S).bind fun b S1 => if b then u r S1 else .ok false S1
def tOr (t u : Tx) : Tx := fun r S => (t r S).bind fun b S1 => if b then .ok true S1 else u r S1
def tYes : Tx := fun _ S => .ok true S
/-! ### targets, walks -/
abbrev Tg := D → Env → Option Env
def tgN (i : Nat) : Tg := fun d r => some (r.set i (.val d))
def setAll : List Nat → List D → Env → Env
  | i :: is, d :: ds, r => setAll is ds (r.set i (.val d))
  | _, _, r => r
def tgT (is : List Nat) : Tg := fun d r => match d with
  | .tup l => if l.length = is.length then some (setAll is l r) else none
  | _ => none
def itSeq (fa : Ex) : Lx := fun r S => (fa r S).bind fun a S1 => match a with
  | .lst l => .ok l S1
  | .tup l => .ok l S1
  | .str x => .ok (x.cps.toList.map fun c => .str ⟨#[c]⟩) S1
  | _ => .no
noncomputable def okRng (i j : Int) : Bool := gd (-(2 ^ 62) ≤ i ∧ i < 2 ^ 62 ∧ -(2 ^ 62) ≤ j ∧ j < 2 ^ 62 ∧ (j - i).toNat ≤ sizeLine)
def rngD (i j : Int) : List D := (List.range (j - i).toNat).map fun (k : Nat) => .int (i + k)
noncomputable def oRng1 : List D → Option (List D)
  | [.int j] => if okRng 0 j then some (rngD 0 j) else none
  | _ => none
noncomputable def oRng2 : List D → Option (List D)
  | [.int i, .int j] => if okRng i j then some (rngD i j) else none
  | _ => none
def oZip : List D → Option (List D)
  | [.lst l, .lst k] => some ((l.zip k).map fun p => .tup [p.1, p.2])
  | [.tup l, .tup k] => some ((l.zip k).map fun p => .tup [p.1, p.2])
  | _ => none
def oEnum : List D → Option (List D)
  | [.lst l] => some (l.zipIdx.map fun p => .tup [.int p.2, p.1])
  | _ => none
/-- a walk over what a built-in makes of its arguments -/
def itB (p : List D → Option (List D)) (fs : List Ex) : Lx := fun r S => (eArgs fs r S).bind fun ds S1 => Out.some? (p ds) S1
/-! ### comprehensions -/
def wipeS (r : Env) : List Nat → Env
  | [] => r
  | v :: vs => (wipeS r vs).set v .emp
def compD (tg : Tg) (tt : Tx) (te : Ex) (r : Env) : List D → M (List D)
  | [], S => .ok [] S
  | d :: ds, S => match tg d r with
    | none => .no
    | some r1 => match tt r1 S with
      | .ok true S1 => match te r1 S1 with
        | .ok x S2 => match compD tg tt te r ds S2 with
          | .ok l S3 => .ok (x :: l) S3
          | _ => .no
        | _ => .no
      | .ok false S1 => compD tg tt te r ds S1
      | _ => .no
def lComp (vs : List Nat) (it : Lx) (tg : Tg) (tt : Tx) (te : Ex) : Lx := fun r S => (it r S).bind fun ds S1 => compD tg tt te (wipeS r vs) ds S1
/-! ### statements -/
def sSeq (a b : Sx) : Sx := fun r S => match a r S with
  | .nx r' S' => b r' S'
  | o => o
def sNil : Sx := fun r S => .nx r S
def sSet (i : Nat) (f : Ex) : Sx := fun r S => (f r S).so fun d S1 => .nx (r.set i (.val d)) S1
def sOwn (i : Nat) (f : Lx) : Sx := fun r S => (f r S).so fun l S1 => .nx (r.set i (.own l)) S1
def sAsg (tg : Tg) (f : Ex) : Sx := fun r S => (f r S).so fun d S1 => match tg d r with
  | some r1 => .nx r1 S1
  | none => .no
def sDrop (f : Ex) : Sx := fun r S => (f r S).so fun _ S1 => .nx r S1
def sRet (f : Ex) : Sx := fun r S => (f r S).so fun d S1 => .rt d S1
def sRetN : Sx := fun _ S => .rt .non S
def sIf (t : Tx) (a b : Sx) : Sx := fun r S => (t r S).so fun k S1 => if k then a r S1 else b r S1
def sBk : Sx := fun r S => .bk r S
def sCt : Sx := fun r S => .ct r S
def SO.loop (o : SO) (k : Sx) : SO := match o with
  | .nx r S => k r S
  | .ct r S => k r S
  | .bk r S => .nx r S
  | o => o
def forD (tg : Tg) (b : Sx) : List D → Sx
  | [], r, S => .nx r S
  | d :: ds, r, S => match tg d r with
    | none => .no
    | some r1 => (b r1 S).loop (forD tg b ds)
def sFor (it : Lx) (tg : Tg) (b : Sx) : Sx := fun r S => (it r S).so fun ds S1 => forD tg b ds r S1
def whileN (c : Tx) (b : Sx) : Nat → Sx
  | 0, _, _ => .no
  | n + 1, r, S => (c r S).so fun t S1 => if t then (b r S1).loop (whileN c b n) else .nx r S1
open Classical in
noncomputable def sWhile (c : Tx) (b : Sx) : Sx := fun r S => if h : ∃ n, whileN c b n r S ≠ .no then whileN c b (Classical.choose h) r S else .no
/-- the list that a slot stands for, where it may be changed -/
def listAt (r : Env) (i : Nat) (S : Store) : Option (List D) := match r[i]? with
  | some (.own l) => some l
  | some (.val (.ref n)) => match S[n]? with
    | some (.lst l) => some l
    | _ => none
  | _ => none
def putAt (r : Env) (i : Nat) (S : Store) (l : List D) : SO := match r[i]? with
  | some (.own _) => .nx (r.set i (.own l)) S
  | some (.val (.ref n)) => .nx r (S.set n (.lst l))
  | _ => .no
/-- what a list's method tells and makes of the list -/
abbrev Mt := List D → List D → Option (D × List D)
def mAppend : Mt
  | l, [d] => if l.length < sizeLine then some (.non, l ++ [d]) else none
  | _, _ => none
noncomputable def mInsert : Mt
  | l, [.int i, d] => if gd (l.length < sizeLine ∧ 0 ≤ i ∧ i < 2 ^ 63) then some (.non, l.take i.toNat ++ [d] ++ l.drop i.toNat) else none
  | _, _ => none
noncomputable def mPop : Mt
  | l, [.int i] => if gd (-(2 ^ 63) ≤ i ∧ i < 2 ^ 63) then (L2.ixN l.length i).bind fun k => (l[k]?).map fun d => (d, l.eraseIdx k) else none
  | _, _ => none
def mPop0 : Mt
  | l, [] => (l[l.length - 1]?).map fun d => (d, l.dropLast)
  | _, _ => none
/-- of an empty tuple that stands first -/
def mRemove : Mt
  | .tup [] :: l, [.tup []] => some (.non, l)
  | _, _ => none
def mReverse : Mt
  | l, [] => some (.non, l.reverse)
  | _, _ => none
def mClear : Mt
  | _, [] => some (.non, [])
  | _, _ => none
/-- x.m(..) as a statement -/
def sMt (i : Nat) (p : Mt) (fs : List Ex) : Sx := fun r S => match listAt r i S with
  | none => .no
  | some _ => (eArgs fs r S).so fun ds S1 => match (listAt r i S1).bind fun l => p l ds with
    | some (_, l') => putAt r i S1 l'
    | none => .no
/-- x.m(..) as a value, x a shared list -/
def eMt (fo : Ex) (p : Mt) (fs : List Ex) : Ex := fun r S => (fo r S).bind fun o S1 => match o with
  | .ref n => match S1[n]? with
    | some (.lst _) => (eArgs fs r S1).bind fun ds S2 => match S2[n]? with
      | some (.lst l) => match p l ds with
        | some (d, l') => .ok d (S2.set n (.lst l'))
        | none => .no
      | _ => .no
    | _ => .no
  | _ => .no
/-- x[i] = e -/
def setAtI (l : List D) (k : D) (d : D) : Option (List D) := match k with
  | .int k => (L2.ixN l.length k).map fun j => l.set j d
  | _ => none
def sPut (i : Nat) (fi fe : Ex) : Sx := fun r S => (fe r S).so fun d S1 => match listAt r i S1 with
  | none => .no
  | some _ => (fi r S1).so fun k S2 => match (listAt r i S2).bind fun l => setAtI l k d with
    | some l' => putAt r i S2 l'
    | none => .no
/-- {} -/
def sDnew (i : Nat) (t : Bool) : Sx := fun r S => .nx (r.set i (.ownd t [])) S
/-- x[k] = e, x a dict of the frame's own -/
def sPutD (i : Nat) (fi fe : Ex) : Sx := fun r S => (fe r S).so fun v S1 => match r[i]? with
  | some (.ownd t l) => (fi r S1).so fun d S2 => match kOf t d with
    | some k => if l.length < sizeLine then .nx (r.set i (.ownd t (dPut t l d k v))) S2 else .no
    | none => .no
  | _ => .no
/-- op= on whole numbers -/
def oIp : Operator → D → D → Option D
  | .Add, .int i, .int j => some (.int (i + j))
  | .Sub, .int i, .int j => some (.int (i - j))
  | .FloorDiv, .int i, .int j => if 0 < j ∧ j < 1073741824 then some (.int (i / j)) else none
  | _, _, _ => none
/-- x[i] op= e -/
def getAtI (l : List D) (k : D) : Option D := match k with
  | .int k => L2.atI l k
  | _ => none
def sAugIx (i : Nat) (fi : Ex) (op : Operator) (fe : Ex) : Sx := fun r S => match listAt r i S with
  | none => .no
  | some _ => (fi r S).so fun k S1 => match (listAt r i S1).bind fun l => getAtI l k with
    | none => .no
    | some x => (fe r S1).so fun y S2 => match (listAt r i S2).bind fun l => (oIp op x y).bind fun z => setAtI l k z with
      | some l' => putAt r i S2 l'
      | none => .no
/-- x op= e, whole numbers -/
def sAug (i : Nat) (op : Operator) (fe : Ex) : Sx := fun r S => match r[i]? with
  | some (.val x) => (fe r S).so fun y S1 => match oIp op x y with
    | some z => .nx (r.set i (.val z)) S1
    | none => .no
  | _ => .no
/-- x += e, a list of the frame's own -/
def sExt (i : Nat) (f : Lx) : Sx := fun r S => match r[i]? with
  | some (.own l) => (f r S).so fun k S1 => if l.length + k.length ≤ sizeLine then .nx (r.set i (.own (l ++ k))) S1 else .no
  | _ => .no
/-- a new list that is shared from now on -/
def eCell (f : Lx) : Ex := fun r S => (f r S).bind fun l S1 => .ok (.ref S1.length) (S1 ++ [.lst l])
/-- from here on the slot's list is never changed any more -/
def frz1 (r : Env) (i : Nat) : Env := match r[i]? with
  | some (.own l) => r.set i (.val (.lst l))
  | some (.ownd t l) => r.set i (.val (.dct t l))
  | _ => r
def sFrz (is : List Nat) : Sx := fun r S => .nx (is.foldl frz1 r) S
/-- a def: its body over its slots -/
def fnOf (n np : Nat) (b : Sx) : List D → M D := fun ds S => if ds.length = np then
  (match b (ds.map Slot.val ++ List.replicate (n - np) Slot.emp) S with
  | .rt d S' => .ok d S'
  | .nx _ S' => .ok .non S'
  | .exc x S' => .exc x S'
  | _ => .no) else .no
/-! ### built-ins -/
noncomputable def dLe (a b : D) : Bool := PySem.W.dataLe false py a b
/-- may be sorted: alike places; all tuples, or no tuples and no None -/
def okSort (l : List D) : Bool := (l.all fun a => l.all fun b => PySem.W.alike (py a) (py b)) && (l.all fun a => small a && decide ((py a).depth ≤ 60)) && ((l.all fun a => match a with | .tup _ => true | _ => false) || (l.all fun a => match a with | .tup _ => false | .non => false | _ => true))
noncomputable def oSort : D → Option (List D)
  | .lst l => if okSort l then some (l.mergeSort dLe) else none
  | .tup l => if okSort l then some (l.mergeSort dLe) else none
  | _ => none
def oList : D → Option (List D)
  | .dct true l => some (l.map (·.1))
  | .lst l => some l
  | .tup l => some l
  | _ => none
def oTuple : D → Option D
  | .lst l => some (.tup l)
  | .tup l => some (.tup l)
  | _ => none
/-- a new list made of one value -/
def l1 (p : D → Option (List D)) (fa : Ex) : Lx := fun r S => (fa r S).bind fun a S1 => Out.some? ((der a S1).bind p) S1
def blsOf : List D → Option (List Bool)
  | [] => some []
  | .bl b :: l => (blsOf l).map (b :: ·)
  | _ => none
def oAll : D → Option D
  | .lst l => (blsOf l).map fun bs => .bl (bs.all id)
  | _ => none
def oAny : D → Option D
  | .lst l => (blsOf l).map fun bs => .bl (bs.any id)
  | _ => none
def tyOf : D → Option String
  | .non => some "NoneType"
  | .bl _ => some "bool"
  | .int _ => some "int"
  | .str _ => some "str"
  | .tup _ => some "tuple"
  | .lst _ => some "list"
  | _ => none
/-- isinstance(x, T), T a built-in class -/
def isT (t T : String) : Bool := t == T || (t == "bool" && T == "int")
def oIsT (T : String) (d : D) : Option D := (tyOf d).map fun t => .bl (isT t T)
def oMax : D → D → Option D
  | .int i, .int j => some (.int (if j > i then j else i))
  | _, _ => none
def oMin : D → D → Option D
  | .int i, .int j => some (.int (if j < i then j else i))
  | _, _ => none
def oInt : D → Option D
  | .int i => some (.int i)
  | .bl b => some (.int (if b then 1 else 0))
  | _ => none
/-- a new list made of two values -/
def l2 (p : D → D → Option (List D)) (fa fb : Ex) : Lx := fun r S => (fa r S).bind fun a S1 => (fb r S1).bind fun b S2 => Out.some? ((der a S2).bind fun a' => (der b S2).bind fun b' => p a' b') S2
def oCat : D → D → Option (List D)
  | .lst l, .lst k => if l.length + k.length ≤ sizeLine then some (l ++ k) else none
  | _, _ => none
def strsOf : List Str → List D := fun l => l.map D.str
def oSplit : D → D → Option (List D)
  | .str a, .str b => if (b.length == 0) = false ∧ a.length + 2 ≤ sizeLine ∧ (Txt.split a b).all (fun x => decide (x.length ≤ sizeLine) && PySem.PyData.strOk x) = true ∧ (Txt.split a b).length ≤ sizeLine then some (strsOf (Txt.split a b)) else none
  | _, _ => none
def txtsOf : List D → Option (List Str)
  | [] => some []
  | .str x :: l => (txtsOf l).map (x :: ·)
  | _ => none
def oJoin : D → D → Option D
  | .str a, .lst l => (txtsOf l).bind fun ys => if (ys.map (·.length)).sum + ys.length * a.length ≤ 16777216 ∧ PySem.PyData.strOk (Txt.join a ys) = true ∧ (Txt.join a ys).length ≤ sizeLine then some (.str (Txt.join a ys)) else none
  | .str a, .tup l => (txtsOf l).bind fun ys => if (ys.map (·.length)).sum + ys.length * a.length ≤ 16777216 ∧ PySem.PyData.strOk (Txt.join a ys) = true ∧ (Txt.join a ys).length ≤ sizeLine then some (.str (Txt.join a ys)) else none
  | _, _ => none
/-! ### slices -/
def cutD {α : Type} (l : List α) (lo hi : Option Int) : List α := (l.drop (HT.sIx l.length 0 lo)).take (HT.sIx l.length l.length hi - HT.sIx l.length 0 lo)
def oCut : D → Option Int → Option Int → Option D
  | .tup l, lo, hi => some (.tup (cutD l lo hi))
  | .lst l, lo, hi => some (.lst (cutD l lo hi))
  | .str x, lo, hi => some (.str (L2.cutS x lo hi))
  | _, _, _ => none
def ePart : Option Ex → Env → M (Option Int)
  | none, _, S => .ok none S
  | some f, r, S => (f r S).bind fun d S1 => match d with
    | .int i => .ok (some i) S1
    | _ => .no
def eCut (fa : Ex) (lo hi : Option Ex) : Ex := fun r S => (fa r S).bind fun a S1 => (ePart lo r S1).bind fun l S2 => (ePart hi r S2).bind fun h S3 => Out.some? ((der a S3).bind fun a' => oCut a' l h) S3
def oRv : D → Option (List D)
  | .lst l => some l.reverse
  | _ => none
end Pk
namespace Pk
open PySem PySem.Spec PyProof.Rows L2
abbrev St := L2.St

/-- a dict's object, by its keys and values -/
def IsDct (t : Bool) (o : HO) (ks : List (List Key × V)) : Prop := if t = true then o = .dT ks else ∃ kvs : List (Key × V), o = .dK kvs ∧ ks = kvs.map fun p => ([p.1], p.2)
/-- a key that may lie in a dict -/
def gd1 : D → Prop
  | .str x => x.length ≤ sizeLine ∧ PySem.PyData.strOk x = true
  | _ => True
def gdK : D → Prop
  | .tup l => l.length ≤ sizeLine ∧ ∀ d ∈ l, gd1 d
  | d => gd1 d
/-! ### what a value tells -/
mutual
def RV (K : PySem.W.Frag) (F : Hp) (m : List Addr) : D → V → Prop
  | .non, v => v = .non
  | .bl b, v => v = .bl b
  | .int i, v => v = .int i
  | .str x, v => v = .str x ∧ x.length ≤ sizeLine ∧ PySem.PyData.strOk x = true
  | .tup l, v => l.length ≤ sizeLine ∧ ∃ a xs, v = .ref a ∧ F a = some (.tup xs) ∧ RVs K F m l xs
  | .lst l, v => l.length ≤ sizeLine ∧ ∃ a xs, v = .ref a ∧ SqL K F a xs ∧ RVs K F m l xs
  | .dct t l, v => l.length ≤ sizeLine ∧ ∃ a o ks, v = .ref a ∧ F a = some o ∧ IsDct t o ks ∧ RP K F m t l ks
  | .ref n, v => ∃ a, v = .ref a ∧ m[n]? = some a
  | .exn _ _, _ => False
  | .oth _, _ => False
def RVs (K : PySem.W.Frag) (F : Hp) (m : List Addr) : List D → List V → Prop
  | [], xs => xs = []
  | d :: l, xs => ∃ y ys, xs = y :: ys ∧ RV K F m d y ∧ RVs K F m l ys
def RP (K : PySem.W.Frag) (F : Hp) (m : List Addr) (t : Bool) : List (D × D) → List (List Key × V) → Prop
  | [], ks => ks = []
  | (a, b) :: l, ks => ∃ k v r, ks = (k, v) :: r ∧ (kOf t a = some k ∧ gdK a) ∧ RV K F m b v ∧ RP K F m t l r
end
section
variable {K : PySem.W.Frag} {F F' : Hp} {m m' : List Addr}
theorem SqT.same {a : Addr} {xs : List V} (e : Same F F') (h : SqT K F a xs) : SqT K F' a xs := by
  rcases h with (h | ⟨o, h⟩) | h
  · exact .inl (.inl (e _ _ h))
  · exact .inl (.inr ⟨o, e _ _ h⟩)
  · exact .inr h
theorem Rd.same {a : Addr} {u : HO} (e : Same F F') (h : Rd F a u) : Rd F' a u := by
  rcases h with h | ⟨o, h⟩
  · exact .inl (e _ _ h)
  · exact .inr ⟨o, e _ _ h⟩
mutual
theorem RV.mono (e : Same F F') (p : ∀ (n : Nat) a, m[n]? = some a → m'[n]? = some a) : ∀ (d : D) (v : V), RV K F m d v → RV K F' m' d v
  | .non, _, h => by simpa [RV] using h
  | .bl _, _, h => by simpa [RV] using h
  | .int _, _, h => by simpa [RV] using h
  | .str _, _, h => by simpa [RV] using h
  | .tup l, _, h => by
    unfold RV at h ⊢
    obtain ⟨z, a, xs, e1, h1, h2⟩ := h
    exact ⟨z, a, xs, e1, e _ _ h1, RVs.mono e p l xs h2⟩
  | .lst l, _, h => by
    unfold RV at h ⊢
    obtain ⟨z, a, xs, e1, h1, h2⟩ := h
    exact ⟨z, a, xs, e1, e.seq h1, RVs.mono e p l xs h2⟩
  | .dct t l, _, h => by
    unfold RV at h ⊢
    obtain ⟨z, a, o, ks, e1, h1, h2, h3⟩ := h
    exact ⟨z, a, o, ks, e1, e _ _ h1, h2, RP.mono e p t l ks h3⟩
  | .ref n, _, h => by
    unfold RV at h ⊢
    obtain ⟨a, e1, h1⟩ := h
    exact ⟨a, e1, p n a h1⟩
  | .exn _ _, _, h => by simp [RV] at h
  | .oth _, _, h => by simp [RV] at h
theorem RVs.mono (e : Same F F') (p : ∀ (n : Nat) a, m[n]? = some a → m'[n]? = some a) : ∀ (l : List D) (xs : List V), RVs K F m l xs → RVs K F' m' l xs
  | [], _, h => by simpa [RVs] using h
  | d :: l, _, h => by
    unfold RVs at h ⊢
    obtain ⟨y, ys, e1, h1, h2⟩ := h
    exact ⟨y, ys, e1, RV.mono e p d y h1, RVs.mono e p l ys h2⟩
theorem RP.mono (e : Same F F') (p : ∀ (n : Nat) a, m[n]? = some a → m'[n]? = some a) (t : Bool) : ∀ (l : List (D × D)) (ks : List (List Key × V)), RP K F m t l ks → RP K F' m' t l ks
  | [], _, h => by simpa [RP] using h
  | (a, b) :: l, _, h => by
    unfold RP at h ⊢
    obtain ⟨k, v, r, e1, h0, h1, h2⟩ := h
    exact ⟨k, v, r, e1, h0, RV.mono e p b v h1, RP.mono e p t l r h2⟩
end
theorem RP.length {t : Bool} : ∀ {l : List (D × D)} {ks : List (List Key × V)}, RP K F m t l ks → ks.length = l.length
  | [], ks, h => by simp [RP] at h; simp [h]
  | (a, b) :: l, ks, h => by
    unfold RP at h
    obtain ⟨k, v, r, e1, _, _, h2⟩ := h
    subst e1
    simp [RP.length h2]
theorem RP.get {t : Bool} {k : List Key} : ∀ {l : List (D × D)} {ks : List (List Key × V)}, RP K F m t l ks → (dGet t l k = none ∧ valV ks k = none) ∨ ∃ d v, dGet t l k = some d ∧ valV ks k = some v ∧ RV K F m d v
  | [], ks, h => by
    simp [RP] at h
    subst h
    exact .inl ⟨rfl, rfl⟩
  | (a, b) :: l, ks, h => by
    unfold RP at h
    obtain ⟨k', v, r, rfl, h0, h1, h2⟩ := h
    by_cases e : k' = k
    · subst e
      exact .inr ⟨b, v, by simp [dGet, List.find?_cons, h0.1], valV_pos rfl, h1⟩
    · have e1 : valV ((k', v) :: r) k = valV r k := valV_neg e
      have e2 : dGet t ((a, b) :: l) k = dGet t l k := by simp [dGet, List.find?_cons, h0.1, e]
      rw [e1, e2]
      exact RP.get h2
theorem RP.any {t : Bool} {k : List Key} : ∀ {l : List (D × D)} {ks : List (List Key × V)}, RP K F m t l ks → (l.any fun p => decide (kOf t p.1 = some k)) = ks.any fun p => decide (p.1 = k)
  | [], ks, h => by simp [RP] at h; subst h; rfl
  | (a, b) :: l, ks, h => by
    unfold RP at h
    obtain ⟨k', v, r, rfl, h0, h1, h2⟩ := h
    rw [List.any_cons, List.any_cons, RP.any h2]
    simp only [h0.1, Option.some.injEq]
theorem RP.app {t : Bool} {d b : D} {k : List Key} {v : V} : ∀ {l : List (D × D)} {ks : List (List Key × V)}, RP K F m t l ks → (kOf t d = some k ∧ gdK d) → RV K F m b v → RP K F m t (l ++ [(d, b)]) (ks ++ [(k, v)])
  | [], ks, h, hk, hv => by
    simp [RP] at h
    subst h
    simp only [List.nil_append, RP]
    exact ⟨k, v, [], rfl, hk, hv, rfl⟩
  | (a, c) :: l, ks, h, hk, hv => by
    unfold RP at h
    obtain ⟨k', v', r, rfl, h0, h1, h2⟩ := h
    simp only [List.cons_append, RP]
    exact ⟨k', v', _, rfl, h0, h1, RP.app h2 hk hv⟩
theorem RP.map {t : Bool} {b : D} {k : List Key} {v : V} : ∀ {l : List (D × D)} {ks : List (List Key × V)}, RP K F m t l ks → RV K F m b v → RP K F m t (l.map fun p => if kOf t p.1 = some k then (p.1, b) else p) (ks.map fun p => if p.1 = k then (p.1, v) else p)
  | [], ks, h, hv => by simp [RP] at h; subst h; simp [RP]
  | (a, c) :: l, ks, h, hv => by
    unfold RP at h
    obtain ⟨k', v', r, rfl, h0, h1, h2⟩ := h
    simp only [List.map_cons, h0.1, Option.some.injEq]
    by_cases e : k' = k
    · simp only [e, if_true]
      unfold RP
      exact ⟨k, v, _, rfl, ⟨by rw [h0.1, e], h0.2⟩, hv, RP.map h2 hv⟩
    · simp only [e, if_false]
      unfold RP
      exact ⟨k', v', _, rfl, h0, h1, RP.map h2 hv⟩
theorem RP.put {t : Bool} {d b : D} {k : List Key} {v : V} {l : List (D × D)} {ks : List (List Key × V)} (h : RP K F m t l ks) (hk : kOf t d = some k ∧ gdK d) (hv : RV K F m b v) : RP K F m t (dPut t l d k b) (putK ks k v) := by
  unfold dPut putK
  rw [h.any]
  split
  · exact h.map hv
  · exact h.app hk hv
theorem RVs.length : ∀ {l : List D} {xs : List V}, RVs K F m l xs → xs.length = l.length
  | [], xs, h => by simp [RVs] at h; simp [h]
  | d :: l, xs, h => by
    unfold RVs at h
    obtain ⟨y, ys, e1, _, h2⟩ := h
    subst e1
    simp [RVs.length h2]
theorem RVs.get : ∀ {l : List D} {xs : List V} {i : Nat} {d : D}, RVs K F m l xs → l[i]? = some d → ∃ v, xs[i]? = some v ∧ RV K F m d v
  | [], _, _, _, _, e => by simp at e
  | d :: l, xs, 0, d', h, e => by
    unfold RVs at h
    obtain ⟨y, ys, rfl, h1, h2⟩ := h
    simp at e
    subst e
    exact ⟨y, rfl, h1⟩
  | d :: l, xs, i + 1, d', h, e => by
    unfold RVs at h
    obtain ⟨y, ys, rfl, h1, h2⟩ := h
    obtain ⟨v, e2, h3⟩ := RVs.get (i := i) (d := d') h2 (by simpa using e)
    exact ⟨v, by simpa using e2, h3⟩
theorem RVs.append : ∀ {l l' : List D} {xs ys : List V}, RVs K F m l xs → RVs K F m l' ys → RVs K F m (l ++ l') (xs ++ ys)
  | [], l', xs, ys, h, h' => by simp [RVs] at h; subst h; simpa using h'
  | d :: l, l', xs, ys, h, h' => by
    unfold RVs at h
    obtain ⟨y, zs, rfl, h1, h2⟩ := h
    show RVs K F m (d :: (l ++ l')) (y :: (zs ++ ys))
    unfold RVs
    exact ⟨y, _, rfl, h1, RVs.append h2 h'⟩
theorem RVs.drop : ∀ {l : List D} {xs : List V} (n : Nat), RVs K F m l xs → RVs K F m (l.drop n) (xs.drop n)
  | _, _, 0, h => h
  | [], xs, n + 1, h => by simp [RVs] at h; subst h; simp [RVs]
  | d :: l, xs, n + 1, h => by
    unfold RVs at h
    obtain ⟨y, ys, rfl, h1, h2⟩ := h
    simpa using RVs.drop n h2
theorem RVs.take : ∀ {l : List D} {xs : List V} (n : Nat), RVs K F m l xs → RVs K F m (l.take n) (xs.take n)
  | _, _, 0, h => by simp [RVs]
  | [], xs, n + 1, h => by simp [RVs] at h; subst h; simp [RVs]
  | d :: l, xs, n + 1, h => by
    unfold RVs at h
    obtain ⟨y, ys, rfl, h1, h2⟩ := h
    simp only [List.take_succ_cons]
    unfold RVs
    exact ⟨y, _, rfl, h1, RVs.take n h2⟩
theorem RVs.set : ∀ {l : List D} {xs : List V} {d : D} {v : V} (n : Nat), RVs K F m l xs → RV K F m d v → RVs K F m (l.set n d) (xs.set n v)
  | [], xs, _, _, n, h, _ => by simp [RVs] at h; subst h; simp [RVs]
  | d :: l, xs, d', v, 0, h, r => by
    unfold RVs at h
    obtain ⟨y, ys, rfl, h1, h2⟩ := h
    simp only [List.set_cons_zero]
    unfold RVs
    exact ⟨v, _, rfl, r, h2⟩
  | d :: l, xs, d', v, n + 1, h, r => by
    unfold RVs at h
    obtain ⟨y, ys, rfl, h1, h2⟩ := h
    simp only [List.set_cons_succ]
    unfold RVs
    exact ⟨y, _, rfl, h1, RVs.set n h2 r⟩
theorem RVs.one {d : D} {v : V} (h : RV K F m d v) : RVs K F m [d] [v] := by
  unfold RVs
  exact ⟨v, [], rfl, h, by simp [RVs]⟩
theorem RVs.reverse : ∀ {l : List D} {xs : List V}, RVs K F m l xs → RVs K F m l.reverse xs.reverse
  | [], xs, h => by simp [RVs] at h; subst h; simp [RVs]
  | d :: l, xs, h => by
    unfold RVs at h
    obtain ⟨y, ys, rfl, h1, h2⟩ := h
    simp only [List.reverse_cons]
    exact RVs.append (RVs.reverse h2) (RVs.one h1)
end

/-! ### the heap: what never changes (F), the shared cells (m, S) -/
def CellR (K : PySem.W.Frag) (H F : Hp) (m : List Addr) (a : Addr) : Cell → Prop
  | .lst l => l.length ≤ sizeLine ∧ ∃ xs, H a = some (.lst xs) ∧ RVs K F m l xs
  | _ => False
structure HI (K : PySem.W.Frag) (S : Store) (H F : Hp) (m : List Addr) : Prop where
  sub : Same F H
  len : m.length = S.length
  nd : m.Nodup
  cel : ∀ (n : Nat) c a, S[n]? = some c → m[n]? = some a → CellR K H F m a c
  mF : ∀ a ∈ m, F a = none
/-- from one heap to a later one, nothing of the frame's own being changed -/
structure Step (H F : Hp) (m : List Addr) (H' F' : Hp) (m' : List Addr) : Prop where
  sub : Same F F'
  keep : ∀ a o, H a = some o → a ∉ m → H' a = some o
  newF : ∀ a o, F' a = some o → F a = some o ∨ H a = none ∨ ∃ xs, o = .tup xs
  out : ∀ a, a ∈ m' → a ∈ m ∨ H a = none
  pre : ∀ (n : Nat) a, m[n]? = some a → m'[n]? = some a
  dom : ∀ a, H' a = none → H a = none
theorem Step.refl (H F : Hp) (m : List Addr) : Step H F m H F m := ⟨Same.refl F, fun _ _ h _ => h, fun _ _ h => .inl h, fun _ h => .inl h, fun _ _ h => h, fun _ h => h⟩
theorem Step.trans {H F H1 F1 H2 F2 : Hp} {m m1 m2 : List Addr} (a : Step H F m H1 F1 m1) (b : Step H1 F1 m1 H2 F2 m2) : Step H F m H2 F2 m2 where
  sub := a.sub.trans b.sub
  keep := fun c o h n => b.keep c o (a.keep c o h n) fun z => by
    rcases a.out c z with z | z
    · exact n z
    · rw [h] at z; cases z
  newF := fun c o h => by
    rcases b.newF c o h with z | z | z
    · exact a.newF c o z
    · exact .inr (.inl (a.dom c z))
    · exact .inr (.inr z)
  out := fun c h => by
    rcases b.out c h with z | z
    · exact a.out c z
    · exact .inr (a.dom c z)
  pre := fun n c h => b.pre n c (a.pre n c h)
  dom := fun c h => a.dom c (b.dom c h)
theorem RV.step {K : PySem.W.Frag} {H F H' F' : Hp} {m m' : List Addr} {d : D} {v : V} (h : RV K F m d v) (s : Step H F m H' F' m') : RV K F' m' d v := RV.mono s.sub s.pre d v h
theorem RVs.step {K : PySem.W.Frag} {H F H' F' : Hp} {m m' : List Addr} {d : List D} {v : List V} (h : RVs K F m d v) (s : Step H F m H' F' m') : RVs K F' m' d v := RVs.mono s.sub s.pre d v h

/-! ### new objects -/
theorem same_upd {H : Hp} {p : Addr} {o : HO} (h : H p = none) : Same H (upd H p o) := fun b x e => by
  rw [upd_ne (ne_of_none e h)]
  exact e
theorem sameU2 {F H : Hp} {p : Addr} {o : HO} (s : Same F H) : Same (upd F p o) (upd H p o) := fun b x e => by
  by_cases hb : b = p
  · subst hb; rw [upd_same] at e ⊢; exact e
  · rw [upd_ne hb] at e ⊢; exact s _ _ e
theorem sameU1 {F H : Hp} {p : Addr} {o : HO} (s : Same F H) (h : F p = none) : Same F (upd H p o) := fun b x e => by
  rw [upd_ne (ne_of_none e h)]
  exact s _ _ e
section
variable {K : PySem.W.Frag} {S : Store} {H F : Hp} {m : List Addr} {p : Addr} {o : HO}
theorem HI.fF (I : HI K S H F m) (h : H p = none) : F p = none := by
  cases q : F p with
  | none => rfl
  | some u => rw [I.sub p u q] at h; cases h
theorem HI.get (I : HI K S H F m) {n : Nat} {c : Cell} (h : S[n]? = some c) : ∃ a, m[n]? = some a ∧ CellR K H F m a c := by
  obtain ⟨hn, _⟩ := List.getElem?_eq_some_iff.mp h
  have hn' : n < m.length := by rw [I.len]; exact hn
  exact ⟨m[n], List.getElem?_eq_getElem hn', I.cel n c _ h (List.getElem?_eq_getElem hn')⟩
theorem HI.got (I : HI K S H F m) {n : Nat} {a : Addr} (h : m[n]? = some a) : ∃ c, S[n]? = some c ∧ CellR K H F m a c := by
  obtain ⟨hn, _⟩ := List.getElem?_eq_some_iff.mp h
  have hn' : n < S.length := by rw [← I.len]; exact hn
  exact ⟨S[n], List.getElem?_eq_getElem hn', I.cel n _ a (List.getElem?_eq_getElem hn') h⟩
theorem CellR.tracked {a : Addr} {c : Cell} (h : CellR K H F m a c) : ∃ o, H a = some o := by
  cases c with
  | lst l => obtain ⟨_, xs, e, _⟩ := h; exact ⟨_, e⟩
  | dct t l => exact h.elim
  | obj c fs => exact h.elim
theorem HI.notin (I : HI K S H F m) (h : H p = none) : p ∉ m := fun z => by
  obtain ⟨n, e⟩ := List.mem_iff_getElem?.mp z
  obtain ⟨c, _, hc⟩ := I.got e
  obtain ⟨o, ho⟩ := hc.tracked
  rw [h] at ho; cases ho
/-- a cell's reading when heaps and cells grow, its own object being kept -/
theorem CellR.mono {H' F' : Hp} {m' : List Addr} {a : Addr} {c : Cell} (h : CellR K H F m a c) (e : Same F F') (pr : ∀ (n : Nat) a, m[n]? = some a → m'[n]? = some a) (k : H' a = H a) : CellR K H' F' m' a c := by
  cases c with
  | lst l => obtain ⟨z, xs, e1, e2⟩ := h; exact ⟨z, xs, by rw [k]; exact e1, RVs.mono e pr _ _ e2⟩
  | dct t l => exact h.elim
  | obj c fs => exact h.elim
/-- a new object that never changes -/
theorem HI.frozen (I : HI K S H F m) (h : H p = none) : HI K S (upd H p o) (upd F p o) m ∧ Step H F m (upd H p o) (upd F p o) m := by
  have hF := I.fF h
  have hm := I.notin h
  refine ⟨⟨sameU2 I.sub, I.len, I.nd, fun n c a e1 e2 => (I.cel n c a e1 e2).mono (same_upd hF) (fun _ _ z => z) (upd_ne fun (z : a = p) => hm (by rw [← z]; exact List.mem_iff_getElem?.mpr ⟨n, e2⟩)), fun a ha => ?_⟩, ⟨same_upd hF, fun a u e _ => same_upd h a u e, fun a u e => ?_, fun a ha => .inl ha, fun _ _ z => z, fun a e => ?_⟩⟩
  · rw [upd_ne fun (z : a = p) => hm (by rw [← z]; exact ha)]; exact I.mF a ha
  · by_cases hb : a = p
    · subst hb; exact .inr (.inl h)
    · rw [upd_ne hb] at e; exact .inl e
  · by_cases hb : a = p
    · subst hb; exact h
    · rw [upd_ne hb] at e; exact e
/-- a new object that is nobody's so far -/
theorem HI.loose (I : HI K S H F m) (h : H p = none) : HI K S (upd H p o) F m ∧ Step H F m (upd H p o) F m := by
  have hF := I.fF h
  have hm := I.notin h
  refine ⟨⟨sameU1 I.sub hF, I.len, I.nd, fun n c a e1 e2 => (I.cel n c a e1 e2).mono (Same.refl F) (fun _ _ z => z) (upd_ne fun (z : a = p) => hm (by rw [← z]; exact List.mem_iff_getElem?.mpr ⟨n, e2⟩)), I.mF⟩, ⟨Same.refl F, fun a u e _ => same_upd h a u e, fun a u e => .inl e, fun a ha => .inl ha, fun _ _ z => z, fun a e => ?_⟩⟩
  by_cases hb : a = p
  · subst hb; exact h
  · rw [upd_ne hb] at e; exact e
end
end Pk
namespace Pk
open PySem PySem.Spec PyProof.Rows L2

def Slot.mine : Slot → Bool
  | .own _ => true
  | .ownd _ _ => true
  | _ => false
/-- the slots -/
structure SI (K : PySem.W.Frag) (H F : Hp) (m : List Addr) (σ : St) (r : Env) : Prop where
  len : σ.length = r.length
  val : ∀ (i : Nat) d, r[i]? = some (.val d) → ∃ v, σ[i]? = some (some v) ∧ RV K F m d v
  own : ∀ (i : Nat) l, r[i]? = some (.own l) → l.length ≤ sizeLine ∧ ∃ a xs, σ[i]? = some (some (.ref a)) ∧ H a = some (.lst xs) ∧ RVs K F m l xs
  ownd : ∀ (i : Nat) t l, r[i]? = some (.ownd t l) → l.length ≤ sizeLine ∧ ∃ a o ks, σ[i]? = some (some (.ref a)) ∧ H a = some o ∧ IsDct t o ks ∧ RP K F m t l ks
  free : ∀ (i : Nat) s a, r[i]? = some s → s.mine = true → σ[i]? = some (some (.ref a)) → F a = none ∧ a ∉ m
  inj : ∀ (i j : Nat) s t a, r[i]? = some s → r[j]? = some t → s.mine = true → t.mine = true → σ[i]? = some (some (.ref a)) → σ[j]? = some (some (.ref a)) → i = j
/-- what a frame's own object holds -/
def Cont (K : PySem.W.Frag) (H F : Hp) (m : List Addr) (s : Slot) (a : Addr) : Prop := match s with
  | .own l => l.length ≤ sizeLine ∧ ∃ xs, H a = some (.lst xs) ∧ RVs K F m l xs
  | .ownd t l => l.length ≤ sizeLine ∧ ∃ o ks, H a = some o ∧ IsDct t o ks ∧ RP K F m t l ks
  | _ => False
structure Zn where
  H : Hp
  F : Hp
  m : List Addr
structure FI (K : PySem.W.Frag) (Z : Zn) (σ : St) (r : Env) (S : Store) (H F : Hp) (m : List Addr) : Prop where
  hi : HI K S H F m
  si : SI K H F m σ r
  es : Step Z.H Z.F Z.m H F m
  fr : ∀ (i : Nat) s a, r[i]? = some s → s.mine = true → σ[i]? = some (some (.ref a)) → Z.H a = none
section
variable {K : PySem.W.Frag} {Z : Zn} {σ : St} {r : Env} {S S' : Store} {H F H' F' : Hp} {m m' : List Addr}
theorem SI.track (s : SI K H F m σ r) {i : Nat} {t : Slot} {a : Addr} (h : r[i]? = some t) (ht : t.mine = true) (e : σ[i]? = some (some (.ref a))) : ∃ o, H a = some o := by
  cases t with
  | own l =>
    obtain ⟨_, b, xs, e1, e2, _⟩ := s.own i l h
    rw [e] at e1; cases e1
    exact ⟨_, e2⟩
  | ownd t l =>
    obtain ⟨_, b, o, ks, e1, e2, _⟩ := s.ownd i t l h
    rw [e] at e1; cases e1
    exact ⟨_, e2⟩
  | emp => simp [Slot.mine] at ht
  | val d => simp [Slot.mine] at ht
theorem SI.notTup (s : SI K H F m σ r) {i : Nat} {t : Slot} {a : Addr} {xs : List V} (h : r[i]? = some t) (ht : t.mine = true) (e : σ[i]? = some (some (.ref a))) (ho : H a = some (.tup xs)) : False := by
  cases t with
  | own l =>
    obtain ⟨_, b, xs, e1, e2, _⟩ := s.own i l h
    rw [e] at e1; cases e1
    rw [ho] at e2; cases e2
  | ownd t l =>
    obtain ⟨_, b, o, ks, e1, e2, e3, _⟩ := s.ownd i t l h
    rw [e] at e1; cases e1
    rw [ho] at e2; cases e2
    unfold IsDct at e3
    split at e3
    · cases e3
    · obtain ⟨_, z, _⟩ := e3; cases z
  | emp => simp [Slot.mine] at ht
  | val d => simp [Slot.mine] at ht
theorem SI.step (s : SI K H F m σ r) (p : Step H F m H' F' m') (sb : Same F' H') : SI K H' F' m' σ r where
  len := s.len
  val := fun i d h => let ⟨v, e, q⟩ := s.val i d h; ⟨v, e, q.step p⟩
  own := fun i l h => by
    obtain ⟨z, a, xs, e1, e2, e3⟩ := s.own i l h
    exact ⟨z, a, xs, e1, p.keep _ _ e2 (s.free i _ a h rfl e1).2, e3.step p⟩
  ownd := fun i t l h => by
    obtain ⟨z, a, o, ks, e1, e2, e3, e4⟩ := s.ownd i t l h
    exact ⟨z, a, o, ks, e1, p.keep _ _ e2 (s.free i _ a h rfl e1).2, e3, RP.mono p.sub p.pre t l ks e4⟩
  free := fun i t a h ht e => by
    obtain ⟨f1, f2⟩ := s.free i t a h ht e
    obtain ⟨o, ho⟩ := s.track h ht e
    refine ⟨?_, fun z => ?_⟩
    · cases q : F' a with
      | none => rfl
      | some u =>
        rcases p.newF a u q with z | z | ⟨xs, z⟩
        · rw [f1] at z; cases z
        · rw [ho] at z; cases z
        · subst z
          have := sb _ _ q
          rw [p.keep _ _ ho f2] at this
          cases this
          exact (s.notTup h ht e ho).elim
    · rcases p.out a z with z | z
      · exact f2 z
      · rw [ho] at z; cases z
  inj := s.inj
theorem FI.step (I : FI K Z σ r S H F m) (h : HI K S' H' F' m') (p : Step H F m H' F' m') : FI K Z σ r S' H' F' m' := ⟨h, I.si.step p h.sub, I.es.trans p, I.fr⟩

/-! ### readings made of the interpreter's functions -/
/-- how an exception lies -/
def XR (mg : Str → Option Value) (H F : Hp) (m : List Addr) (x : D) (cls : Value) (dd : Option Addr) : Prop :=
  match x with
  | .exn c [] => mg c = some cls ∧ dd = none
  | _ => False
/-- a value read where it is only read: also a list of the frame's own -/
def RR (K : PySem.W.Frag) (H F : Hp) (m : List Addr) (d : D) (v : V) : Prop :=
  RV K F m d v ∨ (∃ l a xs, d = .lst l ∧ v = .ref a ∧ l.length ≤ sizeLine ∧ H a = some (.lst xs) ∧ a ∉ m ∧ RVs K F m l xs) ∨ ∃ t l a o ks, d = .dct t l ∧ v = .ref a ∧ l.length ≤ sizeLine ∧ H a = some o ∧ a ∉ m ∧ IsDct t o ks ∧ RP K F m t l ks
theorem RR.step {d : D} {v : V} (h : RR K H F m d v) (p : Step H F m H' F' m') : RR K H' F' m' d v := by
  rcases h with h | ⟨l, a, xs, e1, e2, e3, e4, e5, e6⟩ | ⟨t, l, a, o, ks, e1, e2, e3, e4, e5, e6, e7⟩
  · exact .inl (h.step p)
  · refine .inr (.inl ⟨l, a, xs, e1, e2, e3, p.keep _ _ e4 e5, fun z => ?_, e6.step p⟩)
    rcases p.out a z with z | z
    · exact e5 z
    · rw [e4] at z; cases z
  · refine .inr (.inr ⟨t, l, a, o, ks, e1, e2, e3, p.keep _ _ e4 e5, fun z => ?_, e6, RP.mono p.sub p.pre t l ks e7⟩)
    rcases p.out a z with z | z
    · exact e5 z
    · rw [e4] at z; cases z
end
structure Gb where
  K : PySem.W.Frag
  mg : Str → Option Value
  W : WX
def Xok (G : Gb) (σ : St) (H F : Hp) (m : List Addr) (x : D) (S' : Store) : Prop := ∀ cls dd H' F' m', HI G.K S' H' F' m' → Step H F m H' F' m' → XR G.mg H' F' m' x cls dd → G.W cls dd σ H'
def post {α : Type} (G : Gb) (σ : St) (H F : Hp) (m : List Addr) (o : Out α) (Q : α → Store → Prop) : Prop := match o with
  | .ok a S' => Q a S'
  | .exc x S' => Xok G σ H F m x S'
  | .no => False
def Ev (G : Gb) {α β : Type} (f : Env → M α) (V : α → β → Hp → Hp → List Addr → Hp → Prop) : St → Hp → (β → Hp → Prop) → Prop := fun σ H Q => ∃ (Z : Zn) (r : Env) (S : Store) (F : Hp) (m : List Addr), FI G.K Z σ r S H F m ∧
  post G σ H F m (f r S) fun a S' => ∀ b H' F' m', HI G.K S' H' F' m' → Step H F m H' F' m' → V a b H' F' m' H → Q b H'
abbrev tOf (G : Gb) (f : Ex) : TE := Ev G f fun d v _ F' m' _ => RV G.K F' m' d v
abbrev rOf (G : Gb) (f : Ex) : TE := Ev G f fun d v H' F' m' _ => RR G.K H' F' m' d v
abbrev ttOf (G : Gb) (f : Tx) : TT := Ev G f fun (d : Bool) b _ _ _ _ => b = d
abbrev taOf (G : Gb) (f : Lx) : TA := Ev G f fun ds vs _ F' m' _ => RVs G.K F' m' ds vs
/-- a new list, nobody's so far -/
def New (K : PySem.W.Frag) (l : List D) (v : V) (H' F' : Hp) (m' : List Addr) (H : Hp) : Prop := ∃ p xs, v = .ref p ∧ H p = none ∧ H' p = some (.lst xs) ∧ F' p = none ∧ p ∉ m' ∧ l.length ≤ sizeLine ∧ RVs K F' m' l xs
abbrev tlOf (G : Gb) (f : Lx) : TE := Ev G f (New G.K)
def Later (F : Hp) (m : List Addr) (F' : Hp) (m' : List Addr) : Prop := Same F F' ∧ ∀ (n : Nat) a, m[n]? = some a → m'[n]? = some a
theorem Later.refl (F : Hp) (m : List Addr) : Later F m F m := ⟨Same.refl F, fun _ _ h => h⟩
theorem Later.trans {F F1 F2 : Hp} {m m1 m2 : List Addr} (a : Later F m F1 m1) (b : Later F1 m1 F2 m2) : Later F m F2 m2 := ⟨a.1.trans b.1, fun n c h => b.2 n c (a.2 n c h)⟩
theorem Step.later {H F H' F' : Hp} {m m' : List Addr} (p : Step H F m H' F' m') : Later F m F' m' := ⟨p.sub, p.pre⟩
theorem RV.later {K : PySem.W.Frag} {F F' : Hp} {m m' : List Addr} {d : D} {v : V} (h : RV K F m d v) (s : Later F m F' m') : RV K F' m' d v := RV.mono s.1 s.2 d v h
theorem RVs.later {K : PySem.W.Frag} {F F' : Hp} {m m' : List Addr} {d : List D} {v : List V} (h : RVs K F m d v) (s : Later F m F' m') : RVs K F' m' d v := RVs.mono s.1 s.2 d v h
def spost (G : Gb) (Z : Zn) (F : Hp) (m : List Addr) (D : Ends) (o : SO) : Prop := match o with
  | .nx r' S' => ∀ σ' H' F' m', FI G.K Z σ' r' S' H' F' m' → Later F m F' m' → D.nx σ' H'
  | .bk r' S' => ∀ σ' H' F' m', FI G.K Z σ' r' S' H' F' m' → Later F m F' m' → D.bk σ' H'
  | .ct r' S' => ∀ σ' H' F' m', FI G.K Z σ' r' S' H' F' m' → Later F m F' m' → D.ct σ' H'
  | .rt d S' => ∀ v H' F' m', HI G.K S' H' F' m' → Step Z.H Z.F Z.m H' F' m' → RV G.K F' m' d v → D.rt v H'
  | .exc x S' => ∀ cls dd σ' H' F' m', HI G.K S' H' F' m' → Step Z.H Z.F Z.m H' F' m' → XR G.mg H' F' m' x cls dd → G.W cls dd σ' H'
  | .no => False
theorem spost_later {G : Gb} {Z : Zn} {F F' : Hp} {m m' : List Addr} {D : Ends} {o : SO} (h : spost G Z F m D o) (l : Later F m F' m') : spost G Z F' m' D o := by
  cases o with
  | nx r' S' => exact fun σ' H' F2 m2 I l2 => h σ' H' F2 m2 I (l.trans l2)
  | bk r' S' => exact fun σ' H' F2 m2 I l2 => h σ' H' F2 m2 I (l.trans l2)
  | ct r' S' => exact fun σ' H' F2 m2 I l2 => h σ' H' F2 m2 I (l.trans l2)
  | rt d S' => exact h
  | exc x S' => exact h
  | no => exact h
def tsOf (G : Gb) (f : Sx) : TS := fun D σ H => ∃ (Z : Zn) (r : Env) (S : Store) (F : Hp) (m : List Addr), FI G.K Z σ r S H F m ∧ spost G Z F m D (f r S)
section
variable {G : Gb} {Z : Zn} {σ : St} {r : Env} {S S' : Store} {H F H' F' : Hp} {m m' : List Addr} {α β : Type}
theorem Xok.step {x : D} (h : Xok G σ H F m x S) (p : Step H F m H' F' m') : Xok G σ H' F' m' x S := fun cls dd H2 F2 m2 hi st => h cls dd H2 F2 m2 hi (p.trans st)
theorem post_bind {o : Out α} {g : α → Store → Out β} {Q : β → Store → Prop} (h : post G σ H F m (o.bind g) Q) : post G σ H F m o fun a S' => post G σ H F m (g a S') Q := by
  cases o with
  | ok a S' => exact h
  | exc x S' => exact h
  | no => exact h
theorem post_imp {o : Out α} {Q Q' : α → Store → Prop} (h : post G σ H F m o Q) (p : Step H F m H' F' m') (q : ∀ a S', Q a S' → Q' a S') : post G σ H' F' m' o Q' := by
  cases o with
  | ok a S' => exact q _ _ h
  | exc x S' => exact Xok.step h p
  | no => exact h
theorem post_mono {o : Out α} {Q Q' : α → Store → Prop} (h : post G σ H F m o Q) (q : ∀ a S', Q a S' → Q' a S') : post G σ H F m o Q' := post_imp h (Step.refl _ _ _) q
theorem post_some {o : Option α} {Q : α → Store → Prop} (h : post G σ H F m (Out.some? o S) Q) : ∃ a, o = some a ∧ Q a S := by
  cases o with
  | none => exact h.elim
  | some a => exact ⟨a, rfl, h⟩
end
section
variable {X : Cx} {e : Expr} {es : List Expr} {st : Stmt} {sts : List Stmt}
theorem PE.imp {t u : TE} (h : PE X e t) (q : ∀ σ H Q, u σ H Q → t σ H Q) : PE X e u := ⟨fun pins s σ H Q I z => h.run pins s σ H Q I (q _ _ _ z)⟩
theorem PT.imp {t u : TT} (h : PT X e t) (q : ∀ σ H Q, u σ H Q → t σ H Q) : PT X e u := ⟨fun pins s σ H Q I z => h.run pins s σ H Q I (q _ _ _ z)⟩
theorem PA.imp {t u : TA} (h : PA X es t) (q : ∀ σ H Q, u σ H Q → t σ H Q) : PA X es u := ⟨fun pos pins s σ H Q I z => h.run pos pins s σ H Q I (q _ _ _ z)⟩
theorem PS.imp {t u : TS} (h : PS X st t) (q : ∀ D σ H, u D σ H → t D σ H) : PS X st u := ⟨fun pins s σ H D I z => h.run pins s σ H D I (q _ _ _ z)⟩
theorem PSs.imp {t u : TS} (h : PSs X sts t) (q : ∀ D σ H, u D σ H → t D σ H) : PSs X sts u := ⟨fun pins s σ H D I z => h.run pins s σ H D I (q _ _ _ z)⟩
end

/-! ### names, constants -/
section
variable {X : Cx} {G : Gb}
/-- the same, where nothing is wanted but a value -/
theorem tOf_rOf {f : Ex} {σ : St} {H : Hp} {Q : VK} (h : rOf G f σ H Q) : tOf G f σ H Q := by
  obtain ⟨Z, r, S, F, m, I, h⟩ := h
  exact ⟨Z, r, S, F, m, I, post_mono h fun a S' q b H' F' m' hi st rv => q b H' F' m' hi st (.inl rv)⟩
theorem pe_r {e : Expr} {f : Ex} (h : PE X e (tOf G f)) : PE X e (rOf G f) := PE.imp h fun _ _ _ => tOf_rOf
theorem se_var {i : Nat} {x : Str} {pos : Pos} (hN : X.N[i]? = some x) (hv : Vis X.env.scope x) (hd : (x == ("__debug__" : Str)) = false) (hcd : (x == ("__classdict__" : Str)) = false) : PE X (.Name x pos) (tOf G (eVar i)) :=
  PE.imp (pe_var hN hv hd hcd) fun σ H Q h => by
    obtain ⟨Z, r, S, F, m, I, h⟩ := h
    unfold eVar at h
    split at h
    · rename_i d e
      obtain ⟨v, e1, rv⟩ := I.si.val i d e
      exact ⟨v, e1, h v H F m I.hi (Step.refl _ _ _) rv⟩
    · exact h.elim
theorem se_rd {i : Nat} {x : Str} {pos : Pos} (hN : X.N[i]? = some x) (hv : Vis X.env.scope x) (hd : (x == ("__debug__" : Str)) = false) (hcd : (x == ("__classdict__" : Str)) = false) : PE X (.Name x pos) (rOf G (eRd i)) :=
  PE.imp (pe_var hN hv hd hcd) fun σ H Q h => by
    obtain ⟨Z, r, S, F, m, I, h⟩ := h
    unfold eRd at h
    split at h
    · rename_i d e
      obtain ⟨v, e1, rv⟩ := I.si.val i d e
      exact ⟨v, e1, h v H F m I.hi (Step.refl _ _ _) (.inl rv)⟩
    · rename_i l e
      obtain ⟨z, a, xs, e1, e2, e3⟩ := I.si.own i l e
      exact ⟨_, e1, h _ H F m I.hi (Step.refl _ _ _) (.inr (.inl ⟨l, a, xs, rfl, rfl, z, e2, (I.si.free i _ a e rfl e1).2, e3⟩))⟩
    · rename_i t l e
      obtain ⟨z, a, o, ks, e1, e2, e3, e4⟩ := I.si.ownd i t l e
      exact ⟨_, e1, h _ H F m I.hi (Step.refl _ _ _) (.inr (.inr ⟨t, l, a, o, ks, rfl, rfl, z, e2, (I.si.free i _ a e rfl e1).2, e3, e4⟩))⟩
    · exact h.elim
def conD : Const → Option D
  | .none => some .non
  | .bool b => some (.bl b)
  | .int i => some (.int i)
  | .str x => if decide (x.length ≤ sizeLine) && PySem.PyData.strOk x then some (.str x) else none
  | _ => none
theorem se_con {c : Const} {k : Nat} {pos : Pos} {d : D} (h : conD c = some d) : PE X (.Constant c k pos) (tOf G (eCon d)) := by
  have q : ∀ (v : V), (∀ K F m, RV K F m d v) → ∀ σ H Q, tOf G (eCon d) σ H Q → tC v σ H Q := fun v hv σ H Q h => by
    obtain ⟨Z, r, S, F, m, I, h⟩ := h
    exact h v H F m I.hi (Step.refl _ _ _) (hv _ _ _)
  cases c with
  | none => cases h; exact PE.imp pe_non (q _ fun _ _ _ => by simp [RV])
  | bool b => cases h; exact PE.imp pe_bl (q _ fun _ _ _ => by simp [RV])
  | int i => cases h; exact PE.imp pe_int (q _ fun _ _ _ => by simp [RV])
  | str x =>
    simp only [conD] at h
    split at h
    · rename_i hx
      cases h
      simp only [Bool.and_eq_true, decide_eq_true_eq] at hx
      exact PE.imp pe_str (q _ fun _ _ _ => by simp [RV, hx.1, hx.2])
    · cases h
  | float b => cases h
  | complex a b => cases h
  | bytes b => cases h
  | ellipsis => cases h
end
end Pk
namespace Pk
open PySem PySem.Spec PyProof.Rows L2

/-! ### a value and what is read off it -/
def Vw (K : PySem.W.Frag) (H F : Hp) (m : List Addr) (d : D) (v : V) : Prop :=
  RV K F m d v ∨ (∃ l a xs, d = .lst l ∧ v = .ref a ∧ l.length ≤ sizeLine ∧ H a = some (.lst xs) ∧ RVs K F m l xs) ∨ ∃ t l a o ks, d = .dct t l ∧ v = .ref a ∧ l.length ≤ sizeLine ∧ H a = some o ∧ IsDct t o ks ∧ RP K F m t l ks
section
variable {K : PySem.W.Frag} {S : Store} {H F : Hp} {m : List Addr} {a a' : D} {x : V}
theorem view (I : HI K S H F m) (h : RR K H F m a x) (e : der a S = some a') : Vw K H F m a' x := by
  rcases h with h | ⟨l, p, xs, rfl, rfl, e3, e4, _, e6⟩ | ⟨t, l, p, o, ks, rfl, rfl, e3, e4, _, e6, e7⟩
  · cases a with
    | ref n =>
      unfold RV at h
      obtain ⟨p, rfl, hp⟩ := h
      obtain ⟨c, hc, hr⟩ := I.got hp
      simp only [der, hc] at e
      cases c with
      | lst l =>
        cases e
        obtain ⟨z, xs, e1, e2⟩ := hr
        exact .inr (.inl ⟨l, p, xs, rfl, rfl, z, e1, e2⟩)
      | dct t l => exact hr.elim
      | obj c fs => cases e
    | _ => cases e; exact .inl h
  · cases e
    exact .inr (.inl ⟨l, p, xs, rfl, rfl, e3, e4, e6⟩)
  · cases e
    exact .inr (.inr ⟨t, l, p, o, ks, rfl, rfl, e3, e4, e6, e7⟩)
theorem Vw.sq {l : List D} (I : HI K S H F m) (h : Vw K H F m (.lst l) x) : l.length ≤ sizeLine ∧ ∃ p xs, x = .ref p ∧ SqL K H p xs ∧ RVs K F m l xs := by
  rcases h with h | ⟨l', p, xs, e1, e2, z, e4, e6⟩ | ⟨t, l', p, o, ks, e1, _⟩
  · unfold RV at h
    obtain ⟨z, p, xs, e1, e2, e3⟩ := h
    exact ⟨z, p, xs, e1, I.sub.seq e2, e3⟩
  · cases e1
    exact ⟨z, p, xs, e2, .inl (.inl e4), e6⟩
  · cases e1
theorem Vw.dct {t : Bool} {l : List (D × D)} (I : HI K S H F m) (h : Vw K H F m (.dct t l) x) : l.length ≤ sizeLine ∧ ∃ p o ks, x = .ref p ∧ H p = some o ∧ IsDct t o ks ∧ RP K F m t l ks := by
  rcases h with h | ⟨l', p, xs, e1, _⟩ | ⟨t', l', p, o, ks, e1, e2, z, e3, e4, e5⟩
  · unfold RV at h
    obtain ⟨z, p, o, ks, e1, e2, e3, e4⟩ := h
    exact ⟨z, p, o, ks, e1, I.sub _ _ e2, e3, e4⟩
  · cases e1
  · cases e1
    exact ⟨z, p, o, ks, e2, e3, e4, e5⟩
theorem Vw.rv (h : Vw K H F m a x) (n : ∀ l, a ≠ .lst l) (n' : ∀ t l, a ≠ .dct t l := by exact fun _ _ z => nomatch z) : RV K F m a x := by
  rcases h with h | ⟨l, _, _, e, _⟩ | ⟨t, l, _, _, _, e, _⟩
  · exact h
  · exact absurd e (n l)
  · exact absurd e (n' t l)
theorem Vw.tup {l : List D} (I : HI K S H F m) (h : Vw K H F m (.tup l) x) : l.length ≤ sizeLine ∧ ∃ p xs, x = .ref p ∧ SqT K H p xs ∧ RVs K F m l xs := by
  have h := h.rv fun _ z => nomatch z
  unfold RV at h
  obtain ⟨z, p, xs, e1, e2, e3⟩ := h
  exact ⟨z, p, xs, e1, .inl (.inl (I.sub _ _ e2)), e3⟩
theorem Vw.int {i : Int} (h : Vw K H F m (.int i) x) : x = .int i := by
  have h := h.rv fun _ z => nomatch z
  unfold RV at h; exact h
theorem Vw.bl {i : Bool} (h : Vw K H F m (.bl i) x) : x = .bl i := by
  have h := h.rv fun _ z => nomatch z
  unfold RV at h; exact h
theorem Vw.non (h : Vw K H F m .non x) : x = .non := by
  have h := h.rv fun _ z => nomatch z
  unfold RV at h; exact h
theorem Vw.str {i : Str} (h : Vw K H F m (.str i) x) : x = .str i ∧ i.length ≤ sizeLine ∧ PySem.PyData.strOk i = true := by
  have h := h.rv fun _ z => nomatch z
  unfold RV at h; exact h
end
/-- the operation p on what is read -/
def r2V (K : PySem.W.Frag) (p : D → D → Option D) : R2 := fun x y H Q => ∃ S F m a b d, HI K S H F m ∧ Vw K H F m a x ∧ Vw K H F m b y ∧ p a b = some d ∧ ∀ v H' F', HI K S H' F' m → Step H F m H' F' m → RV K F' m d v → Q v H'
def r1V (K : PySem.W.Frag) (p : D → Option D) : V → Hp → VK → Prop := fun x H Q => ∃ S F m a d, HI K S H F m ∧ Vw K H F m a x ∧ p a = some d ∧ ∀ v H' F', HI K S H' F' m → Step H F m H' F' m → RV K F' m d v → Q v H'
section
variable {X : Cx} {G : Gb} {a b : Expr} {fa fb : Ex} {pos : Pos}
theorem e2_reads {p : D → D → Option D} {σ : St} {H : Hp} {Q : VK} (h : tOf G (e2 p fa fb) σ H Q) : tOp (r2V G.K p) (rOf G fa) (rOf G fb) σ H Q := by
  obtain ⟨Z, r, S, F, m, I, h⟩ := h
  refine ⟨Z, r, S, F, m, I, post_mono (post_bind h) fun d S1 h1 v H1 F1 m1 hi1 st1 rv1 => ?_⟩
  refine ⟨Z, r, S1, F1, m1, I.step hi1 st1, post_imp (post_bind h1) st1 fun d2 S2 h2 v2 H2 F2 m2 hi2 st2 rv2 => ?_⟩
  obtain ⟨d3, e3, h3⟩ := post_some h2
  cases ea : der d S2 with
  | none => rw [ea] at e3; cases e3
  | some a' =>
    cases eb : der d2 S2 with
    | none => rw [ea, eb] at e3; cases e3
    | some b' =>
      rw [ea, eb] at e3
      exact ⟨S2, F2, m2, a', b', d3, hi2, view hi2 (rv1.step st2) ea, view hi2 rv2 eb, e3, fun v3 H3 F3 hi3 st3 rv3 => h3 v3 H3 F3 m2 hi3 ((st1.trans st2).trans st3) rv3⟩
theorem e1_reads {p : D → Option D} {σ : St} {H : Hp} {Q : VK} (h : tOf G (e1 p fa) σ H Q) : tUn (r1V G.K p) (rOf G fa) σ H Q := by
  obtain ⟨Z, r, S, F, m, I, h⟩ := h
  refine ⟨Z, r, S, F, m, I, post_mono (post_bind h) fun d S1 h1 v H1 F1 m1 hi1 st1 rv1 => ?_⟩
  obtain ⟨d3, e3, h3⟩ := post_some h1
  cases ea : der d S1 with
  | none => rw [ea] at e3; cases e3
  | some a' =>
    rw [ea] at e3
    exact ⟨S1, F1, m1, a', d3, hi1, view hi1 rv1 ea, e3, fun v3 H3 F3 hi3 st3 rv3 => h3 v3 H3 F3 m1 hi3 (st1.trans st3) rv3⟩
theorem OpR.imp {f : Value → Value → Sem Value} {r r' : R2} (h : OpR X f r) (q : ∀ x y H Q, r' x y H Q → r x y H Q) : OpR X f r' := fun pins s σ H x y v u Q I rx ry z => h pins s σ H x y v u Q I rx ry (q _ _ _ _ z)
/-- by cases upon what is read -/
theorem opV {f : Value → Value → Sem Value} {p : D → D → Option D} (h : ∀ a b d, p a b = some d → OpR X f (fun x y H Q => ∃ S F m, HI X.K S H F m ∧ Vw X.K H F m a x ∧ Vw X.K H F m b y ∧ ∀ v H' F', HI X.K S H' F' m → Step H F m H' F' m → RV X.K F' m d v → Q v H')) : OpR X f (r2V X.K p) :=
  fun pins s σ H x y v u Q I rx ry ⟨S, F, m, a, b, d, hi, va, vb, e, q⟩ => h a b d e pins s σ H x y v u Q I rx ry ⟨S, F, m, hi, va, vb, q⟩
theorem se_bin {op : Operator} (hK : X.K = G.K) (ho : OpR X (binaryOp op) (r2V X.K (oBin op))) (ha : PE X a (rOf G fa)) (hb : PE X b (rOf G fb)) : PE X (.BinOp a op b pos) (tOf G (eBin op fa fb)) :=
  PE.imp (pe_op ho ha hb) fun σ H Q h => by rw [hK]; exact e2_reads h
theorem op_catR : OpR X (binaryOp .Add) (fun x y H Q => ∃ l b xs zs, x = .ref l ∧ y = .ref b ∧ SqL X.K H l xs ∧ SqL X.K H b zs ∧ xs.length + zs.length ≤ sizeLine ∧ ∀ p, H p = none → Q (.ref p) (upd H p (.lst (xs ++ zs)))) := by
  intro pins s σ H x y v u Q I rx ry h
  obtain ⟨l, b, xs, zs, rfl, rfl, hH, hB, hz, q⟩ := h
  cases rx
  cases ry
  obtain ⟨its, r, pl, z⟩ := I.list hH
  obtain ⟨its2, r2, pl2, z2⟩ := I.list hB
  have hl := r.length
  have hl2 := r2.length
  obtain ⟨⟨cls, dd, data, sl⟩, ho, hc, n, hd⟩ := pl.isList
  obtain ⟨⟨cls2, dd2, data2, sl2⟩, ho2, hc2, n2, hd2⟩ := pl2.isList
  simp only at hc hd hc2 hd2
  subst hc hd hc2 hd2
  refine concat_meets ⟨_, ho, rfl⟩ ⟨_, ho2, rfl⟩ noFill_list_add seq_list_add PySem.F.slot_list_add PySem.F.entry_list_add (PySem.F.args_list_add_2 _ _) (list_addW l b its.toArray its2.toArray n n2 dd dd2 sl sl2 (by rw [List.size_toArray, List.size_toArray]; omega)) ⟨ho, ho2, ?_⟩
  have ea : its.toArray ++ its2.toArray = (its ++ its2).toArray := by simp
  rw [ea]
  exact ⟨.ref _, _, I.lnew (t' := s.toks) (r.append r2) (by rw [List.length_append]; omega), rfl, q _ I.fresh⟩
theorem strOk_app {x y : Str} (hx : PySem.PyData.strOk x = true) (hy : PySem.PyData.strOk y = true) : PySem.PyData.strOk (x ++ y) = true := by
  unfold PySem.PyData.strOk at *
  show ((x.cps ++ y.cps).all _) = true
  rw [Array.all_append, hx, hy]; rfl
theorem str_len_app (x y : Str) : (x ++ y).length = x.length + y.length := by
  show (x.cps ++ y.cps).size = _
  rw [Array.size_append]; rfl
theorem op_add_V : OpR X (binaryOp .Add) (r2V X.K (oBin .Add)) := opV fun a b d e => by
  change oAdd a b = some d at e
  unfold oAdd at e
  split at e
  · cases e
    refine OpR.imp op_add fun x y H Q ⟨S, F, m, hi, va, vb, q⟩ => ?_
    exact ⟨_, _, va.int, vb.int, q _ H F hi (Step.refl _ _ _) (by simp [RV])⟩
  · split at e
    · cases e
      rename_i hz
      refine OpR.imp op_add_str fun x y H Q ⟨S, F, m, hi, va, vb, q⟩ => ?_
      exact ⟨_, _, va.str.1, vb.str.1, hz, q _ H F hi (Step.refl _ _ _) (by
        unfold RV
        exact ⟨rfl, by rw [str_len_app]; exact hz, strOk_app va.str.2.2 vb.str.2.2⟩)⟩
    · cases e
  · split at e
    · cases e
      rename_i l1 l2 hz
      refine OpR.imp op_catA fun x y H Q ⟨S, F, m, hi, va, vb, q⟩ => ?_
      obtain ⟨z1, p1, xs, rfl, s1, r1⟩ := va.tup hi
      obtain ⟨z2, p2, ys, rfl, s2, r2⟩ := vb.tup hi
      have n1 := r1.length
      have n2 := r2.length
      refine ⟨p1, p2, xs, ys, rfl, rfl, s1, s2, by omega, fun e1 => ?_, fun _ e2 => ?_, fun _ _ p hp => ?_⟩
      · subst e1
        have : l1 = [] := List.eq_nil_of_length_eq_zero (by simpa using n1.symm)
        subst this
        exact q _ H F hi (Step.refl _ _ _) (vb.rv fun _ z => nomatch z)
      · subst e2
        have : l2 = [] := List.eq_nil_of_length_eq_zero (by simpa using n2.symm)
        subst this
        rw [List.append_nil] at q
        exact q _ H F hi (Step.refl _ _ _) (va.rv fun _ z => nomatch z)
      · obtain ⟨hi', st'⟩ := hi.frozen (o := .tup (xs ++ ys)) hp
        refine q _ _ _ hi' st' ?_
        unfold RV
        exact ⟨by rw [List.length_append]; exact hz, p, xs ++ ys, rfl, upd_same, (r1.append r2).step st'⟩
    · cases e
  · split at e
    · cases e
      rename_i hz
      refine OpR.imp op_catR fun x y H Q ⟨S, F, m, hi, va, vb, q⟩ => ?_
      obtain ⟨z1, p1, xs, rfl, s1, r1⟩ := va.sq hi
      obtain ⟨z2, p2, ys, rfl, s2, r2⟩ := vb.sq hi
      have n1 := r1.length
      have n2 := r2.length
      refine ⟨p1, p2, xs, ys, rfl, rfl, s1, s2, by omega, fun p hp => ?_⟩
      obtain ⟨hi', st'⟩ := hi.frozen (o := .lst (xs ++ ys)) hp
      refine q _ _ _ hi' st' ?_
      unfold RV
      exact ⟨by rw [List.length_append]; exact hz, p, xs ++ ys, rfl, .inl (.inl upd_same), (r1.append r2).step st'⟩
    · cases e
  · cases e
theorem op_sub_V : OpR X (binaryOp .Sub) (r2V X.K (oBin .Sub)) := opV fun a b d e => by
  change oSub a b = some d at e
  unfold oSub at e
  split at e
  · cases e
    exact OpR.imp op_sub fun x y H Q ⟨S, F, m, hi, va, vb, q⟩ => ⟨_, _, va.int, vb.int, q _ H F hi (Step.refl _ _ _) (by simp [RV])⟩
  · cases e
theorem op_mul_V : OpR X (binaryOp .Mult) (r2V X.K (oBin .Mult)) := opV fun a b d e => by
  change oMul a b = some d at e
  unfold oMul at e
  split at e
  · split at e
    · rename_i hz
      cases e
      refine OpR.imp op_mul fun x y H Q ⟨S, F, m, hi, va, vb, q⟩ => ⟨_, _, va.int, vb.int, ?_, q _ H F hi (Step.refl _ _ _) (by simp [RV])⟩
      unfold okMul at hz
      simp only [Bool.or_eq_true, Bool.and_eq_true, decide_eq_true_eq] at hz
      exact hz
    · cases e
  · cases e
theorem op_mod_V : OpR X (binaryOp .Mod) (r2V X.K (oBin .Mod)) := opV fun a b d e => by
  change oMod a b = some d at e
  unfold oMod at e
  split at e
  · split at e
    · rename_i hz
      cases e
      exact OpR.imp op_mod fun x y H Q ⟨S, F, m, hi, va, vb, q⟩ => ⟨_, _, va.int, vb.int, hz, q _ H F hi (Step.refl _ _ _) (by simp [RV])⟩
    · cases e
  · cases e
theorem op_div_V : OpR X (binaryOp .FloorDiv) (r2V X.K (oBin .FloorDiv)) := opV fun a b d e => by
  change oDiv a b = some d at e
  unfold oDiv at e
  split at e
  · split at e
    · rename_i hz
      cases e
      exact OpR.imp op_fdiv fun x y H Q ⟨S, F, m, hi, va, vb, q⟩ => ⟨_, _, va.int, vb.int, hz, q _ H F hi (Step.refl _ _ _) (by simp [RV])⟩
    · cases e
  · cases e
theorem op_pow_V : OpR X (binaryOp .Pow) (r2V X.K (oBin .Pow)) := opV fun a b d e => by
  change oPow a b = some d at e
  unfold oPow at e
  split at e
  · split at e
    · rename_i hz
      cases e
      exact OpR.imp op_pow fun x y H Q ⟨S, F, m, hi, va, vb, q⟩ => ⟨_, _, va.int, vb.int, hz, q _ H F hi (Step.refl _ _ _) (by simp [RV])⟩
    · cases e
  · cases e
def binOk : Operator → Bool
  | .Add | .Sub | .Mult | .Mod | .FloorDiv | .Pow => true
  | _ => false
theorem op_bin_V {op : Operator} (h : binOk op = true) : OpR X (binaryOp op) (r2V X.K (oBin op)) := by
  cases op with
  | Add => exact op_add_V
  | Sub => exact op_sub_V
  | Mult => exact op_mul_V
  | Mod => exact op_mod_V
  | FloorDiv => exact op_div_V
  | Pow => exact op_pow_V
  | _ => cases h
end
end Pk
namespace Pk
open PySem PySem.Spec PyProof.Rows L2
section
variable {K : PySem.W.Frag} {S : Store} {H F : Hp} {m : List Addr}
mutual
theorem RV.dp (e : Same F H) : ∀ (d : D) (v : V), dat d = true → RV K F m d v → Dp K H v (py d) ∧ (py d).canLay0 = true
  | .non, v, _, h => by simp only [RV] at h; subst h; exact ⟨by simp only [py]; exact .non, by simp [py, PyData.canLay0]⟩
  | .bl b, v, _, h => by simp only [RV] at h; subst h; exact ⟨by simp only [py]; exact .bl b, by simp [py, PyData.canLay0]⟩
  | .int b, v, _, h => by simp only [RV] at h; subst h; exact ⟨by simp only [py]; exact .int b, by simp [py, PyData.canLay0]⟩
  | .str b, v, _, h => by
    simp only [RV] at h
    obtain ⟨rfl, _, h⟩ := h
    exact ⟨by simp only [py]; exact .str b, by simp only [py, PyData.canLay0]; exact h⟩
  | .tup l, v, hd, h => by
    simp only [dat] at hd
    simp only [RV] at h
    obtain ⟨_, a, xs, rfl, h1, h2⟩ := h
    obtain ⟨q1, q2⟩ := RVs.dp e l xs hd h2
    exact ⟨by simp only [py]; exact .tup (.inl (.inl (e _ _ h1))) q1, by simp only [py, PyData.canLay0]; exact q2⟩
  | .lst l, v, hd, h => by
    simp only [dat] at hd
    simp only [RV] at h
    obtain ⟨_, a, xs, rfl, h1, h2⟩ := h
    obtain ⟨q1, q2⟩ := RVs.dp e l xs hd h2
    exact ⟨by simp only [py]; exact .lst (e.seq h1) q1, by simp only [py, PyData.canLay0]; exact q2⟩
  | .dct _ _, _, hd, _ => by simp [dat] at hd
  | .ref _, _, hd, _ => by simp [dat] at hd
  | .exn _ _, _, hd, _ => by simp [dat] at hd
  | .oth _, _, hd, _ => by simp [dat] at hd
theorem RVs.dp (e : Same F H) : ∀ (l : List D) (xs : List V), dats l = true → RVs K F m l xs → DpAll K H xs (pys l) ∧ PyData.canLayAll0 (pys l) = true
  | [], xs, _, h => by simp only [RVs] at h; subst h; exact ⟨by simp only [pys]; exact .nil, by simp [pys, PyData.canLayAll0]⟩
  | d :: l, xs, hd, h => by
    simp only [dats, Bool.and_eq_true] at hd
    simp only [RVs] at h
    obtain ⟨y, ys, rfl, h1, h2⟩ := h
    obtain ⟨q1, q2⟩ := RV.dp e d y hd.1 h1
    obtain ⟨q3, q4⟩ := RVs.dp e l ys hd.2 h2
    exact ⟨by simp only [pys]; exact .cons q1 q3, by simp only [pys, PyData.canLayAll0, q2, q4]; rfl⟩
end
theorem Vw.dp {d : D} {v : V} (I : HI K S H F m) (h : Vw K H F m d v) (hd : small d = true) : Dp K H v (py d) ∧ SeqAt.shaped (py d) = true := by
  unfold small at hd
  rw [Bool.and_eq_true] at hd
  have key : Dp K H v (py d) ∧ (py d).canLay0 = true := by
    rcases h with h | ⟨l, a, xs, rfl, rfl, _, h1, h2⟩ | ⟨t, l, a, o, ks, rfl, _⟩
    · exact RV.dp I.sub d v hd.1 h
    · have hl := hd.1
      simp only [dat] at hl
      obtain ⟨q1, q2⟩ := RVs.dp I.sub l xs hl h2
      exact ⟨by simp only [py]; exact .lst (.inl (.inl h1)) q1, by simp only [py, PyData.canLay0]; exact q2⟩
    · have hl := hd.1; simp [dat] at hl
  refine ⟨key.1, ?_⟩
  unfold SeqAt.shaped
  rw [key.2]
  exact hd.2
theorem pys_map : ∀ l : List D, pys l = l.map py
  | [] => rfl
  | d :: l => by simp only [pys, List.map_cons, pys_map l]
theorem any_pys (l : List D) (e : PyData) : ((pys l).any fun z => PyData.eqv z e) = l.any fun z => PyData.eqv (py z) e := by
  rw [pys_map, List.any_map]; rfl
end
section
variable {X : Cx}
def rInT (K : PySem.W.Frag) (neg : Bool) : R2 := fun x y H Q => ∃ d ds, Dp K H x d ∧ Dp K H y (.tuple ds) ∧ SeqAt.shaped d = true ∧ SeqAt.shaped (.tuple ds) = true ∧ Q (.bl (if neg then !(ds.any fun z => PyData.eqv z d) else ds.any fun z => PyData.eqv z d)) H
theorem op_inT (hu : X.A.units + 65 < cLine) : OpR X (compareOp .In) (rInT X.K false) := by
  intro pins s σ H x y v u Q I rx ry h
  obtain ⟨d, ds, hd, he, sd, se, q⟩ := h
  obtain ⟨as, r1⟩ := Dp.reads I d x v hd rx
  obtain ⟨bs, r2⟩ := Dp.reads I (.tuple ds) y u he ry
  exact SeqAt.in_tuple_reads r2 r1 (SeqAt.canLay_of_shaped se) (SeqAt.canLay_of_shaped sd) (room_in_shaped sd hu) ⟨.bl _, H, I, rfl, q⟩
theorem op_notInT (hu : X.A.units + 65 < cLine) : OpR X (compareOp .NotIn) (rInT X.K true) := by
  intro pins s σ H x y v u Q I rx ry h
  obtain ⟨d, ds, hd, he, sd, se, q⟩ := h
  obtain ⟨as, r1⟩ := Dp.reads I d x v hd rx
  obtain ⟨bs, r2⟩ := Dp.reads I (.tuple ds) y u he ry
  exact SeqAt.notIn_tuple_reads r2 r1 (SeqAt.canLay_of_shaped se) (SeqAt.canLay_of_shaped sd) (room_in_shaped sd hu) ⟨.bl _, H, I, rfl, q⟩
/-- a comparison that gives a truth: by cases upon what is read -/
theorem cmpV {f : Value → Value → Sem Value} {p : D → D → Option Bool} (h : ∀ a b k, p a b = some k → OpR X f (fun x y H Q => ∃ S F m, HI X.K S H F m ∧ Vw X.K H F m a x ∧ Vw X.K H F m b y ∧ Q (.bl k) H)) : OpR X f (r2V X.K fun a b => (p a b).map D.bl) :=
  opV fun a b d e => by
    cases hp : p a b with
    | none => simp [hp] at e
    | some k =>
      simp only [hp, Option.map_some, Option.some.injEq] at e
      subst e
      exact OpR.imp (h a b k hp) fun x y H Q ⟨S, F, m, hi, va, vb, q⟩ => ⟨S, F, m, hi, va, vb, q _ H F hi (Step.refl _ _ _) (by simp [RV])⟩
theorem op_eq_V (hu : X.A.units + 64 < cLine) : OpR X (compareOp .Eq) (r2V X.K fun a b => (oCmp .Eq a b).map D.bl) := cmpV fun a b k e => by
  simp only [oCmp, oEq] at e
  split at e
  · rename_i hs
    rw [Bool.and_eq_true] at hs
    cases e
    refine OpR.imp (op_eqD hu) fun x y H Q ⟨S, F, m, hi, va, vb, q⟩ => ?_
    obtain ⟨d1, s1⟩ := va.dp hi hs.1
    obtain ⟨d2, s2⟩ := vb.dp hi hs.2
    exact ⟨_, _, d1, d2, s1, s2, q⟩
  · cases e
theorem op_ne_V (hu : X.A.units + 64 < cLine) : OpR X (compareOp .NotEq) (r2V X.K fun a b => (oCmp .NotEq a b).map D.bl) := cmpV fun a b k e => by
  simp only [oCmp, oEq] at e
  split at e
  · rename_i hs
    rw [Bool.and_eq_true] at hs
    cases e
    refine OpR.imp (op_neD hu) fun x y H Q ⟨S, F, m, hi, va, vb, q⟩ => ?_
    obtain ⟨d1, s1⟩ := va.dp hi hs.1
    obtain ⟨d2, s2⟩ := vb.dp hi hs.2
    exact ⟨_, _, d1, d2, s1, s2, q⟩
  · cases e
theorem op_lt_V : OpR X (compareOp .Lt) (r2V X.K fun a b => (oCmp .Lt a b).map D.bl) := cmpV fun a b k e => by
  simp only [oCmp] at e
  unfold oLt at e
  split at e
  · cases e
    exact OpR.imp op_lt fun x y H Q ⟨S, F, m, hi, va, vb, q⟩ => ⟨_, _, va.int, vb.int, q⟩
  · cases e
    exact OpR.imp op_lt_str fun x y H Q ⟨S, F, m, hi, va, vb, q⟩ => ⟨_, _, va.str.1, vb.str.1, q⟩
  · cases e
theorem op_gt_V : OpR X (compareOp .Gt) (r2V X.K fun a b => (oCmp .Gt a b).map D.bl) := cmpV fun a b k e => by
  simp only [oCmp] at e
  unfold oLt at e
  split at e
  · cases e
    exact OpR.imp op_gt fun x y H Q ⟨S, F, m, hi, va, vb, q⟩ => ⟨_, _, va.int, vb.int, q⟩
  · cases e
    exact OpR.imp op_gt_str fun x y H Q ⟨S, F, m, hi, va, vb, q⟩ => ⟨_, _, va.str.1, vb.str.1, q⟩
  · cases e
theorem not_lt_le (i j : Int) : (!decide (i < j)) = decide (j ≤ i) := by
  by_cases h : i < j
  · simp [h, Int.not_le.mpr h]
  · simp [h, Int.not_lt.mp h]
theorem op_le_V : OpR X (compareOp .LtE) (r2V X.K fun a b => (oCmp .LtE a b).map D.bl) := cmpV fun a b k e => by
  simp only [oCmp] at e
  unfold oLt at e
  split at e
  · cases e
    exact OpR.imp op_le fun x y H Q ⟨S, F, m, hi, va, vb, q⟩ => ⟨_, _, va.int, vb.int, by dsimp only; rw [← not_lt_le]; exact q⟩
  · cases e
    exact OpR.imp op_le_str fun x y H Q ⟨S, F, m, hi, va, vb, q⟩ => ⟨_, _, va.str.1, vb.str.1, q⟩
  · cases e
theorem op_ge_V : OpR X (compareOp .GtE) (r2V X.K fun a b => (oCmp .GtE a b).map D.bl) := cmpV fun a b k e => by
  simp only [oCmp] at e
  unfold oLt at e
  split at e
  · cases e
    exact OpR.imp op_ge fun x y H Q ⟨S, F, m, hi, va, vb, q⟩ => ⟨_, _, va.int, vb.int, by dsimp only; rw [← not_lt_le]; exact q⟩
  · cases e
    exact OpR.imp op_ge_str fun x y H Q ⟨S, F, m, hi, va, vb, q⟩ => ⟨_, _, va.str.1, vb.str.1, q⟩
  · cases e
theorem sign_of {x : Str} (h : x.length = 1) : x = ⟨#[x.cps.getD 0 0]⟩ := by
  obtain ⟨⟨l⟩⟩ := x
  match l, h with
  | [c], _ => rfl
/-! dicts -/
theorem keysL_rv {K : PySem.W.Frag} {F : Hp} {m : List Addr} : ∀ {l : List D} {xs : List V} {ks : List Key}, RVs K F m l xs → keysL l = some ks → xs = ks.map kV
  | [], xs, ks, h, e => by simp only [RVs] at h; subst h; cases e; rfl
  | d :: l, xs, ks, h, e => by
    unfold RVs at h
    obtain ⟨y, ys, rfl, h1, h2⟩ := h
    unfold keysL at e
    obtain ⟨k, e1, e⟩ := Option.bind_eq_some_iff.mp e
    obtain ⟨ks', e2, rfl⟩ := Option.map_eq_some_iff.mp e
    rw [List.map_cons, ← keysL_rv h2 e2]
    cases d with
    | int i => cases e1; simp only [RV] at h1; rw [h1]; rfl
    | str x => cases e1; simp only [RV] at h1; rw [h1.1]; rfl
    | _ => cases e1
theorem valV_one (kvs : List (Key × V)) (k : Key) : valV (kvs.map fun p => ([p.1], p.2)) [k] = valV kvs k := by
  induction kvs with
  | nil => rfl
  | cons p r ih =>
    by_cases e : p.1 = k
    · rw [List.map_cons, valV_pos (by simp [e]), valV_pos e]
    · rw [List.map_cons, valV_neg (by simp [e]), valV_neg e, ih]
/-- a dict's entry at what is a key -/
theorem Vw.dget {K : PySem.W.Frag} {S : Store} {H F : Hp} {m : List Addr} {t : Bool} {a : D} {x : V} {k : List Key} {p : Addr} {o : HO} {ks : List (List Key × V)} (hi : HI K S H F m) (va : Vw K H F m a x) (hk : kOf t a = some k) (hp : H p = some o) (ho : IsDct t o ks) : DGet H p x (valV ks k) := by
  cases t with
  | true =>
    simp only [kOf, if_true] at hk
    split at hk
    · rename_i l
      obtain ⟨z, q, xs, rfl, _, r1⟩ := va.tup hi
      have hv := va.rv fun _ z => nomatch z
      unfold RV at hv
      obtain ⟨_, q', xs', e1, e2, e3⟩ := hv
      cases e1
      simp only [IsDct, if_true] at ho
      subst ho
      rw [keysL_rv e3 hk] at e2
      exact DGet.t hp (hi.sub _ _ e2)
    · cases hk
  | false =>
    simp only [kOf, Bool.false_eq_true, if_false] at hk
    obtain ⟨k0, e0, rfl⟩ := Option.map_eq_some_iff.mp hk
    simp only [IsDct, Bool.false_eq_true, if_false] at ho
    obtain ⟨kvs, rfl, rfl⟩ := ho
    rw [valV_one]
    have hx : x = kV k0 := by
      cases a with
      | int i => cases e0; exact va.int
      | str y => cases e0; exact va.str.1
      | _ => cases e0
    subst hx
    exact DGet.k hp
theorem op_inDct (hu : X.A.units + 65 < cLine) : OpR X (compareOp .In) (fun y x H Q => ∃ a o, x = .ref a ∧ DGet H a y o ∧ Q (.bl o.isSome) H) := by
  intro pins s σ H x y v u Q I rx ry h
  obtain ⟨a, o, rfl, g, q⟩ := h
  cases ry
  exact d_in (by omega) I g rx fun s' I' => ⟨.bl o.isSome, H, I', rfl, q⟩
theorem op_notInDct (hu : X.A.units + 65 < cLine) : OpR X (compareOp .NotIn) (fun y x H Q => ∃ a o, x = .ref a ∧ DGet H a y o ∧ Q (.bl (!o.isSome)) H) := by
  intro pins s σ H x y v u Q I rx ry h
  obtain ⟨a, o, rfl, g, q⟩ := h
  cases ry
  exact d_notIn (by omega) I g rx fun s' I' => ⟨.bl (!o.isSome), H, I', rfl, q⟩
theorem get_some {K : PySem.W.Frag} {F : Hp} {m : List Addr} {t : Bool} {k : List Key} {l : List (D × D)} {ks : List (List Key × V)} (h : RP K F m t l ks) : (valV ks k).isSome = (dGet t l k).isSome := by
  rcases h.get (k := k) with ⟨e1, e2⟩ | ⟨d, v, e1, e2, _⟩
  · rw [e1, e2]; rfl
  · rw [e1, e2]; rfl
theorem op_in_V (hu : X.A.units + 65 < cLine) : OpR X (compareOp .In) (r2V X.K fun a b => (oCmp .In a b).map D.bl) := cmpV fun a b k e => by
  simp only [oCmp] at e
  unfold oIn at e
  split at e
  · split at e
    · rename_i h1
      cases e
      exact OpR.imp op_in_sign fun x y H Q ⟨S, F, m, hi, va, vb, q⟩ => ⟨_, _, by rw [← sign_of h1]; exact va.str.1, vb.str.1, q⟩
    · cases e
  · split at e
    · rename_i hs
      rw [Bool.and_eq_true] at hs
      cases e
      refine OpR.imp (op_inD hu) fun x y H Q ⟨S, F, m, hi, va, vb, q⟩ => ?_
      obtain ⟨d1, s1⟩ := va.dp hi hs.1
      obtain ⟨d2, s2⟩ := vb.dp hi hs.2
      simp only [py] at d2 s2
      exact ⟨_, _, d1, d2, s1, s2, by rw [any_pys]; exact q⟩
    · cases e
  · split at e
    · rename_i hs
      rw [Bool.and_eq_true] at hs
      cases e
      refine OpR.imp (op_inT hu) fun x y H Q ⟨S, F, m, hi, va, vb, q⟩ => ?_
      obtain ⟨d1, s1⟩ := va.dp hi hs.1
      obtain ⟨d2, s2⟩ := vb.dp hi hs.2
      simp only [py] at d2 s2
      exact ⟨_, _, d1, d2, s1, s2, by rw [any_pys]; exact q⟩
    · cases e
  · obtain ⟨k', e1, rfl⟩ := Option.map_eq_some_iff.mp e
    refine OpR.imp (op_inDct hu) fun x y H Q ⟨S, F, m, hi, va, vb, q⟩ => ?_
    obtain ⟨_, p, o, ks, rfl, hp, ho, rp⟩ := vb.dct hi
    exact ⟨p, _, rfl, va.dget hi e1 hp ho, by rw [get_some rp]; exact q⟩
  · cases e
theorem op_notIn_V (hu : X.A.units + 65 < cLine) : OpR X (compareOp .NotIn) (r2V X.K fun a b => (oCmp .NotIn a b).map D.bl) := cmpV fun a b k e => by
  simp only [oCmp] at e
  unfold oIn at e
  split at e
  · split at e
    · rename_i h1
      cases e
      exact OpR.imp op_notIn_sign fun x y H Q ⟨S, F, m, hi, va, vb, q⟩ => ⟨_, _, by rw [← sign_of h1]; exact va.str.1, vb.str.1, q⟩
    · cases e
  · split at e
    · rename_i hs
      rw [Bool.and_eq_true] at hs
      cases e
      refine OpR.imp (op_notInD hu) fun x y H Q ⟨S, F, m, hi, va, vb, q⟩ => ?_
      obtain ⟨d1, s1⟩ := va.dp hi hs.1
      obtain ⟨d2, s2⟩ := vb.dp hi hs.2
      simp only [py] at d2 s2
      exact ⟨_, _, d1, d2, s1, s2, by rw [any_pys]; exact q⟩
    · cases e
  · split at e
    · rename_i hs
      rw [Bool.and_eq_true] at hs
      cases e
      refine OpR.imp (op_notInT hu) fun x y H Q ⟨S, F, m, hi, va, vb, q⟩ => ?_
      obtain ⟨d1, s1⟩ := va.dp hi hs.1
      obtain ⟨d2, s2⟩ := vb.dp hi hs.2
      simp only [py] at d2 s2
      exact ⟨_, _, d1, d2, s1, s2, by rw [any_pys]; exact q⟩
    · cases e
  · rw [Option.map_map] at e
    obtain ⟨k', e1, rfl⟩ := Option.map_eq_some_iff.mp e
    refine OpR.imp (op_notInDct hu) fun x y H Q ⟨S, F, m, hi, va, vb, q⟩ => ?_
    obtain ⟨_, p, o, ks, rfl, hp, ho, rp⟩ := vb.dct hi
    exact ⟨p, _, rfl, va.dget hi e1 hp ho, by rw [get_some rp]; exact q⟩
  · cases e
theorem Vw.isN {K : PySem.W.Frag} {H F : Hp} {m : List Addr} {d : D} {x : V} (h : Vw K H F m d x) : (x = .non) ↔ d = .non := by
  rcases h with h | ⟨l, a, xs, rfl, rfl, _⟩ | ⟨t, l, a, o, ks, rfl, rfl, _⟩
  · cases d with
    | non => simp only [RV] at h; simp [h]
    | bl b => simp only [RV] at h; simp [h]
    | int b => simp only [RV] at h; simp [h]
    | str b => simp only [RV] at h; simp [h.1]
    | tup b => simp only [RV] at h; obtain ⟨_, a, _, rfl, _⟩ := h; simp
    | lst b => simp only [RV] at h; obtain ⟨_, a, _, rfl, _⟩ := h; simp
    | dct b l => simp only [RV] at h; obtain ⟨_, a, _, _, rfl, _⟩ := h; simp
    | ref b => simp only [RV] at h; obtain ⟨a, rfl, _⟩ := h; simp
    | exn b c => simp only [RV] at h
    | oth b => simp only [RV] at h
  · simp
  · simp
theorem op_is_V : OpR X (compareOp .Is) (r2V X.K fun a b => (oCmp .Is a b).map D.bl) := cmpV fun a b k e => by
  cases b with
  | non =>
    refine OpR.imp op_isN fun x y H Q ⟨S, F, m, hi, va, vb, q⟩ => ⟨vb.non, ?_⟩
    have hn := va.isN
    cases a <;> simp_all [oCmp]
  | bl b =>
    cases a with
    | bl a =>
      simp only [oCmp, Option.some.injEq] at e
      subst e
      exact OpR.imp op_isBl fun x y H Q ⟨S, F, m, hi, va, vb, q⟩ => ⟨a, b, va.bl, vb.bl, q⟩
    | _ => simp [oCmp] at e
  | _ => cases a <;> simp [oCmp] at e
theorem op_isnot_V : OpR X (compareOp .IsNot) (r2V X.K fun a b => (oCmp .IsNot a b).map D.bl) := cmpV fun a b k e => by
  cases b with
  | non =>
    refine OpR.imp op_notN fun x y H Q ⟨S, F, m, hi, va, vb, q⟩ => ⟨vb.non, ?_⟩
    have hn := va.isN
    cases a <;> simp_all [oCmp]
  | bl b =>
    cases a with
    | bl a =>
      simp only [oCmp, Option.some.injEq] at e
      subst e
      exact OpR.imp op_notBl fun x y H Q ⟨S, F, m, hi, va, vb, q⟩ => ⟨a, b, va.bl, vb.bl, q⟩
    | _ => simp [oCmp] at e
  | _ => cases a <;> simp [oCmp] at e
theorem op_cmp_V (hu : X.A.units + 65 < cLine) (op : CmpOp) : OpR X (compareOp op) (r2V X.K fun a b => (oCmp op a b).map D.bl) := by
  cases op with
  | Eq => exact op_eq_V (by omega)
  | NotEq => exact op_ne_V (by omega)
  | Lt => exact op_lt_V
  | LtE => exact op_le_V
  | Gt => exact op_gt_V
  | GtE => exact op_ge_V
  | Is => exact op_is_V
  | IsNot => exact op_isnot_V
  | In => exact op_in_V hu
  | NotIn => exact op_notIn_V hu
end
end Pk
namespace Pk
open PySem PySem.Spec PyProof.Rows L2
section
variable {X : Cx} {G : Gb} {a b c : Expr} {es : List Expr} {fa fb fc : Ex} {ft fu : Tx} {fs : Lx} {pos : Pos}
theorem nobeh {op : CmpOp} {b : Expr} (h : ∀ es k p, b ≠ .Set es k p) : behindInMarks op b = false := by
  cases b <;> first | rfl | exact absurd rfl (h _ _ _)
theorem se_cmp {op : CmpOp} (hK : X.K = G.K) (hu : X.A.units + 65 < cLine) (hb' : ∀ es k p, b ≠ .Set es k p) (ha : PE X a (rOf G fa)) (hb : PE X b (rOf G fb)) : PE X (.Compare a [op] [b] pos) (tOf G (eCmp op fa fb)) :=
  PE.imp (pe_cmpR (op_cmp_V hu op) ha hb (nobeh hb')) fun σ H Q h => by rw [hK]; exact e2_reads h
theorem st_cmp {op : CmpOp} (hK : X.K = G.K) (hu : X.A.units + 65 < cLine) (hb' : ∀ es k p, b ≠ .Set es k p) (ha : PE X a (rOf G fa)) (hb : PE X b (rOf G fb)) : PT X (.Compare a [op] [b] pos) (ttOf G (tCmp op fa fb)) :=
  PT.imp (pt_cmpR (op_cmp_V hu op) ha hb (nobeh hb')) fun σ H Q h => by
    rw [hK]
    show tOp (r2V G.K fun a b => (oCmp op a b).map D.bl) (rOf G fa) (rOf G fb) σ H _
    obtain ⟨Z, r, S, F, m, I, h⟩ := h
    refine ⟨Z, r, S, F, m, I, post_mono (post_bind h) fun d S1 h1 v H1 F1 m1 hi1 st1 rv1 => ?_⟩
    refine ⟨Z, r, S1, F1, m1, I.step hi1 st1, post_imp (post_bind h1) st1 fun d2 S2 h2 v2 H2 F2 m2 hi2 st2 rv2 => ?_⟩
    obtain ⟨k, e3, h3⟩ := post_some h2
    cases ea : der d S2 with
    | none => rw [ea] at e3; cases e3
    | some a' =>
      cases eb : der d2 S2 with
      | none => rw [ea, eb] at e3; cases e3
      | some b' =>
        rw [ea, eb] at e3
        refine ⟨S2, F2, m2, a', b', .bl k, hi2, view hi2 (rv1.step st2) ea, view hi2 rv2 eb, ?_, fun v3 H3 F3 hi3 st3 rv3 => ?_⟩
        · show (oCmp op a' b').map D.bl = _
          rw [show oCmp op a' b' = some k from e3]; rfl
        · simp only [RV] at rv3
          exact ⟨k, rv3, h3 k H3 F3 m2 hi3 ((st1.trans st2).trans st3) rfl⟩
theorem se_neg (hK : X.K = G.K) (ha : PE X a (rOf G fa)) : PE X (.UnaryOp .USub a pos) (tOf G (eNeg fa)) := by
  have ho : UnR X (unaryOp .USub) (r1V X.K oNeg) := fun pins s σ H x v Q I rx ⟨S, F, m, d, d', hi, va, e, q⟩ => by
    unfold oNeg at e
    split at e
    · cases e
      exact un_neg pins s σ H x v Q I rx ⟨_, va.int, q _ H F hi (Step.refl _ _ _) (by simp [RV])⟩
    · cases e
  exact PE.imp (pe_un ho ha) fun σ H Q h => by rw [hK]; exact e1_reads h
theorem se_not (ha : PE X a (tOf G fa)) : PE X (.UnaryOp .Not a pos) (tOf G (eNot fa)) :=
  PE.imp (pe_not ha) fun σ H Q h => by
    obtain ⟨Z, r, S, F, m, I, h⟩ := h
    refine ⟨Z, r, S, F, m, I, post_mono (post_bind h) fun d S1 h1 v H1 F1 m1 hi1 st1 rv1 => ?_⟩
    obtain ⟨d2, e2, h2⟩ := post_some h1
    cases d with
    | bl k =>
      cases e2
      simp only [RV] at rv1
      exact ⟨k, rv1, h2 _ H1 F1 m1 hi1 st1 (by simp [RV])⟩
    | _ => cases e2
theorem se_and {rest : List Expr} (ha : PE X a (tOf G fa)) (hb : PE X (.BoolOp .And (b :: rest) pos) (tOf G fb)) : PE X (.BoolOp .And (a :: b :: rest) pos) (tOf G (eAnd fa fb)) :=
  PE.imp (pe_and ha hb) fun σ H Q h => by
    obtain ⟨Z, r, S, F, m, I, h⟩ := h
    refine ⟨Z, r, S, F, m, I, post_mono (post_bind h) fun d S1 h1 v H1 F1 m1 hi1 st1 rv1 => ?_⟩
    cases d with
    | bl k =>
      simp only [RV] at rv1
      refine ⟨k, rv1, ?_⟩
      cases k with
      | true => exact iteT ⟨Z, r, S1, F1, m1, I.step hi1 st1, post_imp h1 st1 fun a S' q b H' F' m' hi st rv => q b H' F' m' hi (st1.trans st) rv⟩
      | false => exact iteF (h1 _ H1 F1 m1 hi1 st1 (by simp [RV]))
    | _ => exact h1.elim
theorem se_or {rest : List Expr} (ha : PE X a (tOf G fa)) (hb : PE X (.BoolOp .Or (b :: rest) pos) (tOf G fb)) : PE X (.BoolOp .Or (a :: b :: rest) pos) (tOf G (eOr fa fb)) :=
  PE.imp (pe_or ha hb) fun σ H Q h => by
    obtain ⟨Z, r, S, F, m, I, h⟩ := h
    refine ⟨Z, r, S, F, m, I, post_mono (post_bind h) fun d S1 h1 v H1 F1 m1 hi1 st1 rv1 => ?_⟩
    cases d with
    | bl k =>
      simp only [RV] at rv1
      refine ⟨k, rv1, ?_⟩
      cases k with
      | false => exact iteF ⟨Z, r, S1, F1, m1, I.step hi1 st1, post_imp h1 st1 fun a S' q b H' F' m' hi st rv => q b H' F' m' hi (st1.trans st) rv⟩
      | true => exact iteT (h1 _ H1 F1 m1 hi1 st1 (by simp [RV]))
    | _ => exact h1.elim
theorem Ev.later {α β : Type} {f : Env → M α} {V : α → β → Hp → Hp → List Addr → Hp → Prop} {Z : Zn} {r : Env} {S1 : Store} {σ : St} {H F H1 F1 : Hp} {m m1 : List Addr} {Q : β → Hp → Prop} (I : FI G.K Z σ r S1 H1 F1 m1) (st1 : Step H F m H1 F1 m1)
    (hV : ∀ a b H' F' m', V a b H' F' m' H1 → V a b H' F' m' H) (h : post G σ H F m (f r S1) fun a S' => ∀ b H' F' m', HI G.K S' H' F' m' → Step H F m H' F' m' → V a b H' F' m' H → Q b H') : Ev G f V σ H1 Q :=
  ⟨Z, r, S1, F1, m1, I, post_imp h st1 fun a S' q b H' F' m' hi st rv => q b H' F' m' hi (st1.trans st) (hV _ _ _ _ _ rv)⟩
theorem se_if (hc : PT X c (ttOf G ft)) (ha : PE X a (tOf G fa)) (hb : PE X b (tOf G fb)) : PE X (.IfExp c a b pos) (tOf G (eIf ft fa fb)) :=
  PE.imp (pe_ifExp hc ha hb) fun σ H Q h => by
    obtain ⟨Z, r, S, F, m, I, h⟩ := h
    refine ⟨Z, r, S, F, m, I, post_mono (post_bind h) fun k S1 h1 v H1 F1 m1 hi1 st1 rv1 => ?_⟩
    subst rv1
    cases v with
    | true => exact iteT (Ev.later (I.step hi1 st1) st1 (fun _ _ _ _ _ z => z) h1)
    | false => exact iteF (Ev.later (I.step hi1 st1) st1 (fun _ _ _ _ _ z => z) h1)
/-! ### arguments, tuples, lists -/
def plainArg : Expr → Bool
  | .Starred .. => false
  | _ => true
theorem star_cons (h : plainArg a = true) (es : List Expr) (env : PySem.Env) : starEach (a :: es) env = (false, eval a env) :: starEach es env := by
  cases a <;> first | rfl | cases h
theorem sa_nil : PA X [] (taOf G (eArgs [])) := PA.imp pa_nil fun σ H Q h => by
  obtain ⟨Z, r, S, F, m, I, h⟩ := h
  exact h [] H F m I.hi (Step.refl _ _ _) (by simp [RVs])
theorem sa_cons {ffs : List Ex} (hp : plainArg a = true) (ha : PE X a (tOf G fa)) (hr : PA X es (taOf G (eArgs ffs))) : PA X (a :: es) (taOf G (eArgs (fa :: ffs))) :=
  PA.imp (pa_cons ha hr (star_cons hp _ _)) fun σ H Q h => by
    obtain ⟨Z, r, S, F, m, I, h⟩ := h
    refine ⟨Z, r, S, F, m, I, post_mono (post_bind h) fun d S1 h1 v H1 F1 m1 hi1 st1 rv1 => ?_⟩
    refine ⟨Z, r, S1, F1, m1, I.step hi1 st1, post_imp (post_bind h1) st1 fun ds S2 h2 vs H2 F2 m2 hi2 st2 rv2 => ?_⟩
    refine h2 _ H2 F2 m2 hi2 (st1.trans st2) ?_
    unfold RVs
    exact ⟨v, vs, rfl, rv1.step st2, rv2⟩
theorem post_guard {σ : St} {H F : Hp} {m : List Addr} {l : List D} {S : Store} {Q : List D → Store → Prop} (h : post G σ H F m (guardLen l S) Q) : l.length ≤ sizeLine ∧ Q l S := by
  unfold guardLen at h
  split at h
  · rename_i z
    exact ⟨z, h⟩
  · exact h.elim
theorem se_tup {k : Nat} {ffs : List Ex} (h : PA X es (taOf G (eArgs ffs))) : PE X (.Tuple es k pos) (tOf G (eTup ffs)) :=
  PE.imp (pe_tup h) fun σ H Q h => by
    obtain ⟨Z, r, S, F, m, I, h⟩ := h
    refine ⟨Z, r, S, F, m, I, post_mono (post_bind h) fun ds S1 h1 vs H1 F1 m1 hi1 st1 rv1 => ?_⟩
    obtain ⟨z, h2⟩ := post_guard (post_bind h1)
    have hl := rv1.length
    refine ⟨by omega, fun p hp => ?_⟩
    obtain ⟨hi', st'⟩ := hi1.frozen (o := .tup vs) hp
    refine h2 _ _ _ m1 hi' (st1.trans st') ?_
    unfold RV
    exact ⟨z, p, vs, rfl, upd_same, rv1.step st'⟩
/-- a display's list -/
theorem sl_lst {ffs : List Ex} (h : PA X es (taOf G (eArgs ffs))) : PE X (.List es pos) (tlOf G (lLst ffs)) :=
  PE.imp (pe_lst h) fun σ H Q h => by
    obtain ⟨Z, r, S, F, m, I, h⟩ := h
    refine ⟨Z, r, S, F, m, I, post_mono (post_bind h) fun ds S1 h1 vs H1 F1 m1 hi1 st1 rv1 => ?_⟩
    obtain ⟨z, h2⟩ := post_guard h1
    have hl := rv1.length
    refine ⟨by omega, fun p hp => ?_⟩
    obtain ⟨hi', st'⟩ := hi1.loose (o := .lst vs) hp
    exact h2 _ _ _ m1 hi' (st1.trans st') ⟨p, vs, rfl, st1.dom p hp, upd_same, hi1.fF hp, hi1.notin hp, z, rv1⟩
/-- a new list that nobody will change -/
theorem HI.freeze {S : Store} {H F : Hp} {m : List Addr} {p : Addr} {o : HO} {K : PySem.W.Frag} (I : HI K S H F m) (h : H p = some o) (hF : F p = none) (hm : p ∉ m) : HI K S H (upd F p o) m :=
  ⟨fun b o' e => by
      by_cases hb : b = p
      · subst hb; rw [upd_same] at e; rw [h]; exact e
      · rw [upd_ne hb] at e; exact I.sub _ _ e,
    I.len, I.nd, fun n c a e1 e2 => (I.cel n c a e1 e2).mono (same_upd hF) (fun _ _ z => z) rfl, fun a ha => by
      rw [upd_ne fun (z : a = p) => hm (by rw [← z]; exact ha)]; exact I.mF a ha⟩
theorem se_l {f : Lx} (h : PE X a (tlOf G f)) : PE X a (tOf G (eL f)) :=
  PE.imp h fun σ H Q h => by
    obtain ⟨Z, r, S, F, m, I, h⟩ := h
    refine ⟨Z, r, S, F, m, I, post_mono (post_bind h) fun l S1 h1 v H1 F1 m1 hi1 st1 hn => ?_⟩
    obtain ⟨p, xs, rfl, hp, hp1, hF, hm, z, rv⟩ := hn
    refine h1 _ H1 (upd F1 p (.lst xs)) m1 (hi1.freeze hp1 hF hm) ⟨fun b o e => same_upd hF b o (st1.sub b o e), st1.keep, fun b o e => ?_, st1.out, st1.pre, st1.dom⟩ ?_
    · by_cases hb : b = p
      · subst hb; exact .inr (.inl hp)
      · rw [upd_ne hb] at e; exact st1.newF b o e
    · unfold RV
      exact ⟨z, p, xs, rfl, .inl (.inl upd_same), RVs.mono (same_upd hF) (fun _ _ z => z) _ _ rv⟩
/-! ### tests -/
theorem st_not (ha : PT X a (ttOf G ft)) : PT X (.UnaryOp .Not a pos) (ttOf G (tNot ft)) :=
  PT.imp (pt_not ha) fun σ H Q h => by
    obtain ⟨Z, r, S, F, m, I, h⟩ := h
    refine ⟨Z, r, S, F, m, I, post_mono (post_bind h) fun k S1 h1 v H1 F1 m1 hi1 st1 rv1 => ?_⟩
    subst rv1
    exact h1 _ H1 F1 m1 hi1 st1 rfl
theorem PW.imp {t u : TT} {e : Expr} (h : PW X e t) (q : ∀ σ H Q, u σ H Q → t σ H Q) : PW X e u := ⟨fun wh pins s σ H Q I z => h.run wh pins s σ H Q I (q _ _ _ z)⟩
theorem sw_and1 (ha : PT X a (ttOf G ft)) : PW X (.BoolOp .And [a] pos) (ttOf G ft) := pw_and1 ha
theorem sw_or1 (ha : PT X a (ttOf G ft)) : PW X (.BoolOp .Or [a] pos) (ttOf G ft) := pw_or1 ha
theorem sw_and {rest : List Expr} (ha : PT X a (ttOf G ft)) (hb : PW X (.BoolOp .And (b :: rest) pos) (ttOf G fu)) : PW X (.BoolOp .And (a :: b :: rest) pos) (ttOf G (tAnd ft fu)) :=
  PW.imp (pw_and ha hb) fun σ H Q h => by
    obtain ⟨Z, r, S, F, m, I, h⟩ := h
    refine ⟨Z, r, S, F, m, I, post_mono (post_bind h) fun k S1 h1 v H1 F1 m1 hi1 st1 rv1 => ?_⟩
    subst rv1
    cases v with
    | true => exact iteT (Ev.later (I.step hi1 st1) st1 (fun _ _ _ _ _ z => z) h1)
    | false => exact iteF (h1 _ H1 F1 m1 hi1 st1 rfl)
theorem sw_or {rest : List Expr} (ha : PT X a (ttOf G ft)) (hb : PW X (.BoolOp .Or (b :: rest) pos) (ttOf G fu)) : PW X (.BoolOp .Or (a :: b :: rest) pos) (ttOf G (tOr ft fu)) :=
  PW.imp (pw_or ha hb) fun σ H Q h => by
    obtain ⟨Z, r, S, F, m, I, h⟩ := h
    refine ⟨Z, r, S, F, m, I, post_mono (post_bind h) fun k S1 h1 v H1 F1 m1 hi1 st1 rv1 => ?_⟩
    subst rv1
    cases v with
    | false => exact iteF (Ev.later (I.step hi1 st1) st1 (fun _ _ _ _ _ z => z) h1)
    | true => exact iteT (h1 _ H1 F1 m1 hi1 st1 rfl)
/-- truth of a value -/
def tvOk : Expr → Bool
  | .UnaryOp .Not _ _ => false
  | .BoolOp .. => false
  | .IfExp .. => false
  | .Compare .. => false
  | _ => true
theorem isTrue_plain (h : tvOk a = true) (env : PySem.Env) (whole : Sem Value) : isTrue a env whole = (do let v ← whole; standAt a.pos; holding [v] (truthy v)) := by
  cases a with
  | UnaryOp op x p => cases op <;> first | rfl | cases h
  | BoolOp => cases h
  | IfExp => cases h
  | Compare => cases h
  | _ => rfl
theorem st_val (hK : X.K = G.K) (hp : tvOk a = true) (ha : PE X a (rOf G fa)) : PT X a (ttOf G (tVal fa)) :=
  PT.imp (pt_truth ha (isTrue_plain hp _)) fun σ H Q h => by
    obtain ⟨Z, r, S, F, m, I, h⟩ := h
    refine ⟨Z, r, S, F, m, I, post_mono (post_bind h) fun d S1 h1 v H1 F1 m1 hi1 st1 rv1 => ?_⟩
    obtain ⟨k, e3, h3⟩ := post_some h1
    cases ea : der d S1 with
    | none => rw [ea] at e3; cases e3
    | some a' =>
      rw [ea] at e3
      have vw := view hi1 rv1 ea
      refine ⟨k, ?_, h3 k H1 F1 m1 hi1 st1 rfl⟩
      rw [hK]
      cases a' with
      | non => cases e3; rw [vw.non]; rfl
      | bl b => cases e3; rw [vw.bl]; rfl
      | int b => cases e3; rw [vw.int]; rfl
      | str b => cases e3; rw [vw.str.1]; exact ⟨vw.str.2.1, rfl⟩
      | tup l =>
        cases e3
        obtain ⟨z, p, xs, rfl, s1, r1⟩ := vw.tup hi1
        refine .inr (.inl ⟨xs, s1, ?_⟩)
        cases l with
        | nil => simp only [RVs] at r1; subst r1; rfl
        | cons d l => simp only [RVs] at r1; obtain ⟨y, ys, rfl, _⟩ := r1; rfl
      | lst l =>
        cases e3
        obtain ⟨z, p, xs, rfl, s1, r1⟩ := vw.sq hi1
        refine .inl ⟨xs, s1, ?_⟩
        cases l with
        | nil => simp only [RVs] at r1; subst r1; rfl
        | cons d l => simp only [RVs] at r1; obtain ⟨y, ys, rfl, _⟩ := r1; rfl
      | _ => cases e3
end
end Pk
namespace Pk
open PySem PySem.Spec PyProof.Rows L2

/-! ### slots set -/
section
variable {K : PySem.W.Frag} {Z : Zn} {σ : St} {r : Env} {S S' : Store} {H F H' F' : Hp} {m m' : List Addr}
theorem FI.put (I : FI K Z σ r S H F m) {d : D} {v : V} (rv : RV K F m d v) (i : Nat) : FI K Z (σ.set i (some v)) (r.set i (.val d)) S H F m := by
  have hl := I.si.len
  have key : ∀ (j : Nat) s, (r.set i (.val d))[j]? = some s → (j = i ∧ s = .val d ∧ (σ.set i (some v))[j]? = some (some v)) ∨ (j ≠ i ∧ r[j]? = some s ∧ (σ.set i (some v))[j]? = σ[j]?) := fun j s h => by
    by_cases hj : i = j
    · subst hj
      have hlt : i < r.length := by
        by_cases z : i < r.length
        · exact z
        · rw [List.getElem?_eq_none (by rw [List.length_set]; omega)] at h; cases h
      rw [List.getElem?_set_self hlt] at h
      exact .inl ⟨rfl, (Option.some.inj h).symm, List.getElem?_set_self (by omega)⟩
    · rw [List.getElem?_set_ne hj] at h
      exact .inr ⟨fun z => hj z.symm, h, List.getElem?_set_ne hj⟩
  have old : ∀ (j : Nat) s, (r.set i (.val d))[j]? = some s → s.mine = true → r[j]? = some s ∧ (σ.set i (some v))[j]? = σ[j]? := fun j s h hs => by
    rcases key j s h with ⟨_, rfl, _⟩ | ⟨_, e1, e2⟩
    · simp [Slot.mine] at hs
    · exact ⟨e1, e2⟩
  refine ⟨I.hi, ⟨by simp [hl], fun j d' h => ?_, fun j l h => ?_, fun j t l h => ?_, fun j s a h hs e => ?_, fun j k s t a h1 h2 hs ht e1 e2 => ?_⟩, I.es, fun j s a h hs e => ?_⟩
  · rcases key j _ h with ⟨_, z, e2⟩ | ⟨_, e1, e2⟩
    · cases z; exact ⟨v, e2, rv⟩
    · rw [e2]; exact I.si.val j d' e1
  · obtain ⟨e1, e2⟩ := old j _ h rfl
    rw [e2]; exact I.si.own j l e1
  · obtain ⟨e1, e2⟩ := old j _ h rfl
    rw [e2]; exact I.si.ownd j t l e1
  · obtain ⟨e1, e2⟩ := old j _ h hs
    rw [e2] at e; exact I.si.free j s a e1 hs e
  · obtain ⟨q1, q2⟩ := old j _ h1 hs
    obtain ⟨q3, q4⟩ := old k _ h2 ht
    rw [q2] at e1; rw [q4] at e2
    exact I.si.inj j k s t a q1 q3 hs ht e1 e2
  · obtain ⟨e1, e2⟩ := old j _ h hs
    rw [e2] at e; exact I.fr j s a e1 hs e
/-- a new list becomes the frame's own -/
theorem FI.putS (I : FI K Z σ r S H F m) {s0 : Slot} {p : Addr} (hs0 : s0.mine = true) (hc : Cont K H F m s0 p) (hz : Z.H p = none) (hF : F p = none) (hm : p ∉ m) (hn : ∀ (j : Nat) s a, r[j]? = some s → s.mine = true → σ[j]? = some (some (.ref a)) → a ≠ p) (i : Nat) :
    FI K Z (σ.set i (some (.ref p))) (r.set i s0) S H F m := by
  have hl := I.si.len
  have key : ∀ (j : Nat) s, (r.set i s0)[j]? = some s → (j = i ∧ s = s0 ∧ (σ.set i (some (.ref p)))[j]? = some (some (.ref p))) ∨ (j ≠ i ∧ r[j]? = some s ∧ (σ.set i (some (.ref p)))[j]? = σ[j]?) := fun j s h => by
    by_cases hj : i = j
    · subst hj
      have hlt : i < r.length := by
        by_cases z : i < r.length
        · exact z
        · rw [List.getElem?_eq_none (by rw [List.length_set]; omega)] at h; cases h
      rw [List.getElem?_set_self hlt] at h
      exact .inl ⟨rfl, (Option.some.inj h).symm, List.getElem?_set_self (by omega)⟩
    · rw [List.getElem?_set_ne hj] at h
      exact .inr ⟨fun z => hj z.symm, h, List.getElem?_set_ne hj⟩
  refine ⟨I.hi, ⟨by simp [hl], fun j d' h => ?_, fun j l' h => ?_, fun j t' l' h => ?_, fun j s a h hs e => ?_, fun j k s t a h1 h2 hs ht e1 e2 => ?_⟩, I.es, fun j s a h hs e => ?_⟩
  · rcases key j _ h with ⟨_, z, e2⟩ | ⟨_, e1, e2⟩
    · rw [← z] at hs0; cases hs0
    · rw [e2]; exact I.si.val j d' e1
  · rcases key j _ h with ⟨_, q, e2⟩ | ⟨_, e1, e2⟩
    · rw [← q] at hc
      obtain ⟨z, xs, hp, rv⟩ := hc
      exact ⟨z, p, xs, e2, hp, rv⟩
    · rw [e2]; exact I.si.own j l' e1
  · rcases key j _ h with ⟨_, q, e2⟩ | ⟨_, e1, e2⟩
    · rw [← q] at hc
      obtain ⟨z, o, ks, hp, ho, rp⟩ := hc
      exact ⟨z, p, o, ks, e2, hp, ho, rp⟩
    · rw [e2]; exact I.si.ownd j t' l' e1
  · rcases key j _ h with ⟨_, q, e2⟩ | ⟨_, e1, e2⟩
    · rw [e2] at e; cases e; exact ⟨hF, hm⟩
    · rw [e2] at e; exact I.si.free j s a e1 hs e
  · rcases key j _ h1 with ⟨q1, _, e3⟩ | ⟨q1, e3, e4⟩
    · rcases key k _ h2 with ⟨q2, _, e5⟩ | ⟨q2, e5, e6⟩
      · rw [q1, q2]
      · rw [e3] at e1; cases e1
        rw [e6] at e2
        exact absurd rfl (hn k t _ e5 ht e2)
    · rcases key k _ h2 with ⟨q2, _, e5⟩ | ⟨q2, e5, e6⟩
      · rw [e5] at e2; cases e2
        rw [e4] at e1
        exact absurd rfl (hn j s _ e3 hs e1)
      · rw [e4] at e1; rw [e6] at e2
        exact I.si.inj j k s t a e3 e5 hs ht e1 e2
  · rcases key j _ h with ⟨_, q, e2⟩ | ⟨_, e1, e2⟩
    · rw [e2] at e; cases e; exact hz
    · rw [e2] at e; exact I.fr j s a e1 hs e
theorem FI.putO (I : FI K Z σ r S H F m) {l : List D} {p : Addr} {xs : List V} (hp : H p = some (.lst xs)) (hz : Z.H p = none) (hF : F p = none) (hm : p ∉ m) (hn : ∀ (j : Nat) s a, r[j]? = some s → s.mine = true → σ[j]? = some (some (.ref a)) → a ≠ p) (z : l.length ≤ sizeLine) (rv : RVs K F m l xs) (i : Nat) :
    FI K Z (σ.set i (some (.ref p))) (r.set i (.own l)) S H F m := I.putS (s0 := .own l) rfl (show Cont K H F m (.own l) p from ⟨z, xs, hp, rv⟩) hz hF hm hn i
end
/-! ### statements -/
section
variable {X : Cx} {G : Gb} {a b c : Expr} {st : Stmt} {rest sts : List Stmt} {f g : Sx} {fe : Ex} {ft : Tx} {pos : Pos}
theorem ss_nil : PSs X [] (tsOf G sNil) := PSs.imp pss_nil fun D σ H h => by
  obtain ⟨Z, r, S, F, m, I, h⟩ := h
  exact h σ H F m I (Later.refl _ _)
theorem ss_cons (h1 : PS X st (tsOf G f)) (h2 : PSs X rest (tsOf G g)) : PSs X (st :: rest) (tsOf G (sSeq f g)) :=
  PSs.imp (pss_cons h1 h2) fun D σ H h => by
    obtain ⟨Z, r, S, F, m, I, h⟩ := h
    refine ⟨Z, r, S, F, m, I, ?_⟩
    unfold sSeq at h
    cases e : f r S with
    | nx r' S' => rw [e] at h; exact fun σ' H' F' m' I' l => ⟨Z, r', S', F', m', I', spost_later h l⟩
    | rt d S' => rw [e] at h; exact h
    | bk r' S' => rw [e] at h; exact h
    | ct r' S' => rw [e] at h; exact h
    | exc x S' => rw [e] at h; exact h
    | no => rw [e] at h; exact h
theorem ss_one (h1 : PS X st (tsOf G f)) : PSs X [st] (tsOf G f) := pss_one h1
/-- from a statement's end back to an expression's -/
theorem so_post {α : Type} {Z : Zn} {σ : St} {r : Env} {S : Store} {H F : Hp} {m : List Addr} {D : Ends} {o : Out α} {k : α → Store → SO} (I : FI G.K Z σ r S H F m) (h : spost G Z F m D (o.so k)) : post G σ H F m o fun a S' => spost G Z F m D (k a S') := by
  cases o with
  | ok a S' => exact h
  | exc x S' => exact fun cls dd H' F' m' hi st xr => h cls dd σ H' F' m' hi (I.es.trans st) xr
  | no => exact h
theorem ss_drop (he : PE X a (rOf G fe)) (hs : swapsWith a none pos.line X.env = pure false) : PS X (.Expr a pos) (tsOf G (sDrop fe)) :=
  PS.imp (ps_expr he hs) fun D σ H h => by
    obtain ⟨Z, r, S, F, m, I, h⟩ := h
    exact ⟨Z, r, S, F, m, I, post_mono (so_post I h) fun d S1 h1 v H1 F1 m1 hi1 st1 rv1 => h1 σ H1 F1 m1 (I.step hi1 st1) st1.later⟩
theorem ss_ret (he : PE X a (tOf G fe)) : PS X (.Return (some a) pos) (tsOf G (sRet fe)) :=
  PS.imp (ps_ret he) fun D σ H h => by
    obtain ⟨Z, r, S, F, m, I, h⟩ := h
    exact ⟨Z, r, S, F, m, I, post_mono (so_post I h) fun d S1 h1 v H1 F1 m1 hi1 st1 rv1 => h1 v H1 F1 m1 hi1 (I.es.trans st1) rv1⟩
/-- return x: also a list of the frame's own -/
theorem ss_retV {i : Nat} {x : Str} {pos' : Pos} (hN : X.N[i]? = some x) (hv : Vis X.env.scope x) (hd : (x == ("__debug__" : Str)) = false) (hcd : (x == ("__classdict__" : Str)) = false) : PS X (.Return (some (.Name x pos')) pos) (tsOf G (sRet (eRd i))) :=
  PS.imp (ps_ret (pe_var hN hv hd hcd)) fun D σ H h => by
    obtain ⟨Z, r, S, F, m, I, h⟩ := h
    have h := so_post I h
    unfold eRd at h
    split at h
    · rename_i d e
      obtain ⟨v, e1, rv⟩ := I.si.val i d e
      exact ⟨v, e1, h v H F m I.hi I.es rv⟩
    · rename_i l e
      obtain ⟨z, a, xs, e1, e2, e3⟩ := I.si.own i l e
      obtain ⟨hF, hm⟩ := I.si.free i _ a e rfl e1
      refine ⟨_, e1, h _ H (upd F a (.lst xs)) m (I.hi.freeze e2 hF hm) ⟨fun b o q => same_upd hF b o (I.es.sub b o q), I.es.keep, fun b o q => ?_, I.es.out, I.es.pre, I.es.dom⟩ ?_⟩
      · by_cases hb : b = a
        · subst hb; exact .inr (.inl (I.fr i _ b e rfl e1))
        · rw [upd_ne hb] at q; exact I.es.newF b o q
      · unfold RV
        exact ⟨z, a, xs, rfl, .inl (.inl upd_same), RVs.mono (same_upd hF) (fun _ _ z => z) _ _ e3⟩
    · rename_i t l e
      obtain ⟨z, a, o, ks, e1, e2, e3, e4⟩ := I.si.ownd i t l e
      obtain ⟨hF, hm⟩ := I.si.free i _ a e rfl e1
      refine ⟨_, e1, h _ H (upd F a o) m (I.hi.freeze e2 hF hm) ⟨fun b o q => same_upd hF b o (I.es.sub b o q), I.es.keep, fun b o q => ?_, I.es.out, I.es.pre, I.es.dom⟩ ?_⟩
      · by_cases hb : b = a
        · subst hb; exact .inr (.inl (I.fr i _ b e rfl e1))
        · rw [upd_ne hb] at q; exact I.es.newF b o q
      · unfold RV
        exact ⟨z, a, o, ks, rfl, upd_same, e3, RP.mono (same_upd hF) (fun _ _ z => z) _ _ _ e4⟩
    · exact h.elim
theorem ss_retN : PS X (.Return none pos) (tsOf G sRetN) := PS.imp ps_retN fun D σ H h => by
  obtain ⟨Z, r, S, F, m, I, h⟩ := h
  exact h _ H F m I.hi I.es (by simp [RV])
theorem ss_pass : PS X (.Pass pos) (tsOf G sNil) := PS.imp ps_pass fun D σ H h => by
  obtain ⟨Z, r, S, F, m, I, h⟩ := h
  exact h σ H F m I (Later.refl _ _)
theorem ss_bk : PS X (.Break pos) (tsOf G sBk) := PS.imp ps_break fun D σ H h => by
  obtain ⟨Z, r, S, F, m, I, h⟩ := h
  exact h σ H F m I (Later.refl _ _)
theorem ss_ct : PS X (.Continue pos) (tsOf G sCt) := PS.imp ps_continue fun D σ H h => by
  obtain ⟨Z, r, S, F, m, I, h⟩ := h
  exact h σ H F m I (Later.refl _ _)
theorem ss_doc {x : Str} {j : Nat} {pos' : Pos} : PS X (.Expr (.Constant (.str x) j pos) pos') (tsOf G sNil) := PS.imp ps_doc fun D σ H h => by
  obtain ⟨Z, r, S, F, m, I, h⟩ := h
  exact h σ H F m I (Later.refl _ _)
theorem ss_if {ab bb : List Stmt} (hc : PT X c (ttOf G ft)) (ha : PSs X ab (tsOf G f)) (hb : PSs X bb (tsOf G g)) : PS X (.If c ab bb pos) (tsOf G (sIf ft f g)) :=
  PS.imp (ps_if hc ha hb) fun D σ H h => by
    obtain ⟨Z, r, S, F, m, I, h⟩ := h
    refine ⟨Z, r, S, F, m, I, post_mono (so_post I h) fun k S1 h1 v H1 F1 m1 hi1 st1 rv1 => ?_⟩
    subst rv1
    cases v with
    | true => exact iteT ⟨Z, r, S1, F1, m1, I.step hi1 st1, spost_later h1 st1.later⟩
    | false => exact iteF ⟨Z, r, S1, F1, m1, I.step hi1 st1, spost_later h1 st1.later⟩
theorem ss_set {i : Nat} {x : Str} {pos' : Pos} (hN : X.N.Nodup) (hi : X.N[i]? = some x) (hx : Loc X.env.scope x) (he : PE X a (tOf G fe)) (hs : swapsWith a (some (.Name x pos')) pos.line X.env = pure false) (hf : X.fn x = true ∨ X.env.scope.names.lookup x = some .local) :
    PS X (.Assign [.Name x pos'] a pos) (tsOf G (sSet i fe)) :=
  PS.imp (ps_set hN hi hx he hs hf) fun D σ H h => by
    obtain ⟨Z, r, S, F, m, I, h⟩ := h
    exact ⟨Z, r, S, F, m, I, post_mono (so_post I h) fun d S1 h1 v H1 F1 m1 hi1 st1 rv1 => h1 _ H1 F1 m1 ((I.step hi1 st1).put rv1 i) st1.later⟩
theorem own_ne {K : PySem.W.Frag} {Z : Zn} {σ : St} {r : Env} {S : Store} {H F : Hp} {m : List Addr} (I : FI K Z σ r S H F m) {p : Addr} (hp : H p = none) : ∀ (j : Nat) s a, r[j]? = some s → s.mine = true → σ[j]? = some (some (.ref a)) → a ≠ p := fun j s a h hs e z => by
  obtain ⟨o, ho⟩ := I.si.track h hs e
  subst z
  rw [hp] at ho; cases ho
end
end Pk
namespace Pk
open PySem PySem.Spec PyProof.Rows L2

/-! ### targets -/
theorem set_set_none (σ : St) (i : Nat) (v : Option V) : (σ.set i v).set i none = σ.set i none := by rw [List.set_set]
theorem wipe_set (σ : St) (i : Nat) (v : Option V) : ∀ is : List Nat, (wipe (σ.set i v) is).set i none = (wipe σ is).set i none
  | [] => set_set_none σ i v
  | j :: is => by
    unfold wipe
    by_cases h : j = i
    · subst h; rw [List.set_set, List.set_set]; exact wipe_set σ j v is
    · rw [List.set_comm _ _ h, wipe_set σ i v is, List.set_comm _ _ (fun z => h z.symm)]
theorem wipe_twice (σ : St) : ∀ is : List Nat, wipe (wipe σ is) is = wipe σ is
  | [] => rfl
  | i :: is => by
    show (wipe ((wipe σ is).set i none) is).set i none = (wipe σ is).set i none
    rw [wipe_set, wipe_twice σ is]
def gOf (G : Gb) (is : List Nat) (tg : Tg) : TG := fun v σ H Q => ∃ (Z : Zn) (r : Env) (S : Store) (F : Hp) (m : List Addr) (d : D) (r' : Env), FI G.K Z σ r S H F m ∧ RV G.K F m d v ∧ tg d r = some r' ∧ ∀ σ', FI G.K Z σ' r' S H F m → wipe σ' is = wipe σ is → Q σ' H
section
variable {X : Cx} {G : Gb} {pos : Pos}
theorem PG.imp {t u : TG} {tg : Expr} (h : PG X tg t) (q : ∀ v σ H Q, u v σ H Q → t v σ H Q) : PG X tg u := ⟨fun pins s σ H v w Q I rv z => h.run pins s σ H v w Q I rv (q _ _ _ _ z)⟩
theorem sg_name {i : Nat} {x : Str} (hN : X.N.Nodup) (hi : X.N[i]? = some x) (hx : Loc X.env.scope x) (hf : X.fn x = true ∨ X.env.scope.names.lookup x = some .local) : PG X (.Name x pos) (gOf G [i] (tgN i)) :=
  PG.imp (pg_name hN hi hx hf) fun v σ H Q ⟨Z, r, S, F, m, d, r', I, rv, e, q⟩ => by
    cases e
    exact q _ (I.put rv i) (set_set_none _ _ _)
def gsOf (G : Gb) (is : List Nat) : TGs := fun vs σ H Q => ∃ (Z : Zn) (r : Env) (S : Store) (F : Hp) (m : List Addr) (ds : List D), FI G.K Z σ r S H F m ∧ RVs G.K F m ds vs ∧ ds.length = is.length ∧ ∀ σ', FI G.K Z σ' (setAll is ds r) S H F m → wipe σ' is = wipe σ is → Q σ' H
theorem PGs.imp {t u : TGs} {tg : List Expr} (h : PGs X tg t) (q : ∀ v σ H Q, u v σ H Q → t v σ H Q) : PGs X tg u := ⟨fun pins s σ H v w Q I rv z => h.run pins s σ H v w Q I rv (q _ _ _ _ z)⟩
theorem sgs_nil : PGs X [] (gsOf G []) := PGs.imp pgs_nil fun vs σ H Q ⟨Z, r, S, F, m, ds, I, rv, e, q⟩ => by
  have : ds = [] := List.eq_nil_of_length_eq_zero e
  subst this
  simp only [RVs] at rv
  exact ⟨rv, q σ I rfl⟩
theorem sgs_cons {i : Nat} {is : List Nat} {x : Str} {es : List Expr} (hN : X.N.Nodup) (hi : X.N[i]? = some x) (hx : Loc X.env.scope x) (hf : X.fn x = true ∨ X.env.scope.names.lookup x = some .local) (hs : PGs X es (gsOf G is)):
    PGs X (.Name x pos :: es) (gsOf G (i :: is)) := PGs.imp (pgs_cons (pg_name hN hi hx hf) hs) fun vs σ H Q ⟨Z, r, S, F, m, ds, I, rv, e, q⟩ => by
  cases ds with
  | nil => cases e
  | cons d ds =>
    simp only [RVs] at rv
    obtain ⟨y, ys, rfl, h1, h2⟩ := rv
    exact ⟨y, ys, rfl, Z, _, S, F, m, ds, I.put h1 i, h2, by simpa using e, fun σ' I' hw => q σ' I' (by unfold wipe; rw [hw, wipe_set])⟩
def allNames : List Expr → Bool
  | [] => true
  | .Name _ _ :: es => allNames es
  | _ => false
theorem each_names (env : PySem.Env) : ∀ {es : List Expr}, allNames es = true → (assignEach es env).length = es.length ∧ (assignEach es env).findIdx? (·.1) = none
  | [], _ => ⟨rfl, rfl⟩
  | e :: es, h => by
    cases e with
    | Name x p =>
      have h : allNames es = true := h
      obtain ⟨h1, h2⟩ := each_names env (es := es) h
      refine ⟨?_, ?_⟩
      · show (assignEach es env).length + 1 = _
        rw [h1]; rfl
      · show ((false, _) :: assignEach es env).findIdx? (·.1) = none
        rw [List.findIdx?_cons, h2]; rfl
    | _ => simp [allNames] at h
theorem sg_tup {es : List Expr} {k : Nat} {is : List Nat} (hK : X.K = G.K) (hc : X.calm = true) (hl : es.length = is.length) (hn : allNames es = true) (h : PGs X es (gsOf G is)) : PG X (.Tuple es k pos) (gOf G is (tgT is)) :=
  PG.imp (pg_tup hc h (each_names _ hn).1 (each_names _ hn).2) fun v σ H Q ⟨Z, r, S, F, m, d, r', I, rv, e, q⟩ => by
    unfold tgT at e
    split at e
    · split at e
      · rename_i l hll
        cases e
        simp only [RV] at rv
        obtain ⟨z, a, xs, rfl, h1, h2⟩ := rv
        refine ⟨a, xs, rfl, ?_, by rw [h2.length, hll, hl], Z, r, S, F, m, l, I, h2, hll, q⟩
        rw [hK]
        exact .inl (.inl (I.hi.sub _ _ h1))
      · cases e
    · cases e
theorem ss_asg {a t : Expr} {fe : Ex} {tg : Tg} {is : List Nat} (he : PE X a (tOf G fe)) (hg : PG X t (gOf G is tg)) (hs : swapsWithSole [t] a pos.line X.env = pure false) (hw : swappedStores [t] a X.env = pure none) (h1 : (assignEach [t] X.env).map (·.2) = [assign t X.env]) :
    PS X (.Assign [t] a pos) (tsOf G (sAsg tg fe)) :=
  PS.imp (ps_asg he hg hs hw h1) fun D σ H h => by
    obtain ⟨Z, r, S, F, m, I, h⟩ := h
    refine ⟨Z, r, S, F, m, I, post_mono (so_post I h) fun d S1 h1 v H1 F1 m1 hi1 st1 rv1 => ?_⟩
    cases e : tg d r with
    | none => simp only [e] at h1; exact h1.elim
    | some r1 =>
      simp only [e] at h1
      exact ⟨Z, r, S1, F1, m1, d, r1, I.step hi1 st1, rv1, e, fun σ' I' _ => h1 σ' H1 F1 m1 I' st1.later⟩

/-! ### walks -/
theorem loop_post {Z : Zn} {F F' : Hp} {m m' : List Addr} {D : Ends} {o : SO} {k : Sx} {N : St → Hp → Prop} (h : spost G Z F m D (o.loop k)) (l : Later F m F' m') (q : ∀ r S σ H F2 m2, FI G.K Z σ r S H F2 m2 → Later F' m' F2 m2 → spost G Z F m D (k r S) → N σ H) :
    spost G Z F' m' { D with nx := N, ct := N, bk := D.nx } o := by
  cases o with
  | nx r5 S5 => exact fun σ5 H5 F5 m5 I5 l5 => q r5 S5 σ5 H5 F5 m5 I5 l5 h
  | ct r5 S5 => exact fun σ5 H5 F5 m5 I5 l5 => q r5 S5 σ5 H5 F5 m5 I5 l5 h
  | bk r5 S5 => exact fun σ5 H5 F5 m5 I5 l5 => h σ5 H5 F5 m5 I5 (l.trans l5)
  | rt d S5 => exact h
  | exc x S5 => exact h
  | no => exact h
structure Wk (K : PySem.W.Frag) (J : It) (ds : List D) (F : Hp) (m : List Addr) : Prop where
  go : ∀ (i : Nat) (S2 : Store) (H2 F2 : Hp) (m2 : List Addr), HI K S2 H2 F2 m2 → Later F m F2 m2 → i < ds.length → J.go i H2
  yld : ∀ (i : Nat) (S2 : Store) (H2 F2 : Hp) (m2 : List Addr) (x : V) (H3 : Hp), HI K S2 H2 F2 m2 → Later F m F2 m2 → J.yld i H2 x H3 → ∀ d, ds[i]? = some d → ∃ F3, HI K S2 H3 F3 m2 ∧ Step H2 F2 m2 H3 F3 m2 ∧ RV K F3 m2 d x
  stop : ∀ (i : Nat) (S2 : Store) (H2 F2 : Hp) (m2 : List Addr), HI K S2 H2 F2 m2 → Later F m F2 m2 → ds.length ≤ i → J.stop i H2
/-- the same, while nothing of the frame's own is changed -/
structure WkS (K : PySem.W.Frag) (J : It) (ds : List D) (H F : Hp) (m : List Addr) : Prop where
  go : ∀ (i : Nat) (S2 : Store) (H2 F2 : Hp) (m2 : List Addr), HI K S2 H2 F2 m2 → Step H F m H2 F2 m2 → i < ds.length → J.go i H2
  yld : ∀ (i : Nat) (S2 : Store) (H2 F2 : Hp) (m2 : List Addr) (x : V) (H3 : Hp), HI K S2 H2 F2 m2 → Step H F m H2 F2 m2 → J.yld i H2 x H3 → ∀ d, ds[i]? = some d → ∃ F3, HI K S2 H3 F3 m2 ∧ Step H2 F2 m2 H3 F3 m2 ∧ RV K F3 m2 d x
  stop : ∀ (i : Nat) (S2 : Store) (H2 F2 : Hp) (m2 : List Addr), HI K S2 H2 F2 m2 → Step H F m H2 F2 m2 → ds.length ≤ i → J.stop i H2
theorem Wk.s {K : PySem.W.Frag} {J : It} {ds : List D} {H F : Hp} {m : List Addr} (h : Wk K J ds F m) : WkS K J ds H F m := ⟨fun i S2 H2 F2 m2 hi st => h.go i S2 H2 F2 m2 hi st.later, fun i S2 H2 F2 m2 x H3 hi st => h.yld i S2 H2 F2 m2 x H3 hi st.later, fun i S2 H2 F2 m2 hi st => h.stop i S2 H2 F2 m2 hi st.later⟩
abbrev iOfC (G : Gb) (it : Lx) : TI := Ev G it fun ds (J : It) H' F' m' _ => WkS G.K J ds H' F' m' ∧ ds.length ≤ sizeLine
abbrev iOf (G : Gb) (it : Lx) : TI := Ev G it fun ds (J : It) _ F' m' _ => Wk G.K J ds F' m' ∧ ds.length ≤ sizeLine
theorem ss_for {tge iter : Expr} {body : List Stmt} {it : Lx} {tg : Tg} {is : List Nat} {b : Sx} (hp : PassesOwn (model X.prog X.w) X.A X.env X.xe) (hc : X.calm = true) (hi : PI X tge iter (iOf G it)) (hg : PG X tge (gOf G is tg)) (hb : PSs X body (tsOf G b))
    (hs : ∀ x, foldedSetIterable iter X.env x = pure x) : PS X (.For tge iter body [] pos) (tsOf G (sFor it tg b)) :=
  PS.imp (ps_for hp hc hi hg hb hs) fun D σ H h => by
    obtain ⟨Z, r, S, F, m, I, h⟩ := h
    refine ⟨Z, r, S, F, m, I, post_mono (so_post I h) fun ds S1 h1 J H1 F1 m1 hi1 st1 wk => ?_⟩
    obtain ⟨wk, _⟩ := wk
    refine ⟨fun i k σ' H' => k = ds.length - i ∧ i ≤ ds.length ∧ ∃ r' S' F' m', FI G.K Z σ' r' S' H' F' m' ∧ Later F1 m1 F' m' ∧ spost G Z F m D (forD tg b (ds.drop i) r' S'), ⟨ds.length, by simp, Nat.zero_le _, r, S1, F1, m1, I.step hi1 st1, Later.refl _ _, by simpa using h1⟩, fun i k σ' H' hW => ?_⟩
    obtain ⟨rfl, hle, r', S', F', m', I', l', h'⟩ := hW
    by_cases hlt : i < ds.length
    · have eg : ds[i]? = some ds[i] := List.getElem?_eq_getElem hlt
      have ed : ds.drop i = ds[i] :: ds.drop (i + 1) := List.drop_eq_getElem_cons hlt
      rw [ed] at h'
      unfold forD at h'
      refine .inr ⟨wk.go i S' H' F' m' I'.hi l' hlt, fun σ'' H'' => i + 1 ≤ ds.length ∧ ∃ r'' S'' F'' m'', FI G.K Z σ'' r'' S'' H'' F'' m'' ∧ Later F1 m1 F'' m'' ∧ spost G Z F m D (forD tg b (ds.drop (i + 1)) r'' S''), fun σ'' H'' hN => ⟨ds.length - (i + 1), by omega, rfl, hN.1, hN.2⟩, fun x H'' hy => ?_⟩
      obtain ⟨F3, hi3, st3, rv3⟩ := wk.yld i S' H' F' m' x H'' I'.hi l' hy _ eg
      have I3 := I'.step hi3 st3
      have l3 := l'.trans st3.later
      cases e : tg ds[i] r' with
      | none => simp only [e] at h'; exact h'.elim
      | some r1 =>
        simp only [e] at h'
        refine ⟨Z, r', S', F3, m', _, r1, I3, rv3, e, fun σ4 I4 _ => ⟨Z, r1, S', F3, m', I4, ?_⟩⟩
        exact loop_post h' (st1.later.trans l3) fun r5 S5 σ5 H5 F5 m5 I5 l5 h5 => ⟨hlt, r5, S5, F5, m5, I5, l3.trans l5, h5⟩
    · have ei : i = ds.length := by omega
      refine .inl ⟨wk.stop i S' H' F' m' I'.hi l' (by omega), ?_⟩
      rw [ei, List.drop_length] at h'
      exact h' σ' H' F' m' I' (st1.later.trans l')
/-! ### while -/
theorem whileN_succ (c : Tx) (b : Sx) (n : Nat) (r : Env) (S : Store) : whileN c b (n + 1) r S = (c r S).so fun t S1 => if t then (b r S1).loop (whileN c b n) else .nx r S1 := rfl
theorem whileN_mono {c : Tx} {b : Sx} : ∀ (n : Nat) (r : Env) (S : Store), whileN c b n r S ≠ .no → whileN c b (n + 1) r S = whileN c b n r S
  | 0, r, S, h => absurd rfl h
  | n + 1, r, S, h => by
    rw [whileN_succ] at h
    rw [whileN_succ c b (n + 1), whileN_succ]
    cases ec : c r S with
    | ok t S1 =>
      rw [ec] at h
      simp only [Out.so] at h ⊢
      cases t with
      | false => rfl
      | true =>
        simp only [if_true] at h ⊢
        cases eb : b r S1 with
        | nx r' S' => rw [eb] at h; exact whileN_mono n r' S' h
        | ct r' S' => rw [eb] at h; exact whileN_mono n r' S' h
        | bk r' S' => rfl
        | rt d S' => rfl
        | exc x S' => rfl
        | no => rfl
    | exc x S1 => rfl
    | no => rfl
theorem whileN_le {c : Tx} {b : Sx} {n : Nat} {r : Env} {S : Store} (h : whileN c b n r S ≠ .no) : ∀ k : Nat, whileN c b (n + k) r S = whileN c b n r S
  | 0 => rfl
  | k + 1 => by
    have e := whileN_le h k
    rw [← e]
    exact whileN_mono (n + k) r S (by rw [e]; exact h)
theorem sWhile_of {c : Tx} {b : Sx} {n : Nat} {r : Env} {S : Store} (h : whileN c b n r S ≠ .no) : sWhile c b r S = whileN c b n r S := by
  have hx : ∃ n, whileN c b n r S ≠ .no := ⟨n, h⟩
  unfold sWhile
  rw [dif_pos hx]
  have h2 := Classical.choose_spec hx
  have e1 := whileN_le h2 n
  have e2 := whileN_le h (Classical.choose hx)
  rw [Nat.add_comm] at e2
  rw [← e1, e2]
theorem sWhile_ex {c : Tx} {b : Sx} {r : Env} {S : Store} (h : sWhile c b r S ≠ .no) : ∃ n, whileN c b n r S ≠ .no ∧ sWhile c b r S = whileN c b n r S := by
  by_cases hx : ∃ n, whileN c b n r S ≠ .no
  · obtain ⟨n, hn⟩ := hx
    exact ⟨n, hn, sWhile_of hn⟩
  · unfold sWhile at h
    rw [dif_neg hx] at h
    exact absurd rfl h
theorem ss_while {c : Expr} {body : List Stmt} {ft : Tx} {b : Sx} (hp : PassesOwn (model X.prog X.w) X.A X.env X.xe) (hc : PT X c (ttOf G ft)) (hb : PSs X body (tsOf G b)) : PS X (.While c body [] pos) (tsOf G (sWhile ft b)) :=
  PS.imp (ps_while hp hc hb) fun D σ H h => by
    obtain ⟨Z, r, S, F, m, I, h⟩ := h
    have hne : sWhile ft b r S ≠ .no := fun z => by rw [z] at h; exact h
    obtain ⟨n, hn, en⟩ := sWhile_ex hne
    rw [en] at h
    refine ⟨fun k σ' H' => ∃ r' S' F' m', FI G.K Z σ' r' S' H' F' m' ∧ Later F m F' m' ∧ spost G Z F' m' D (whileN ft b k r' S'), ⟨n, r, S, F, m, I, Later.refl _ _, h⟩, fun k σ' H' hW => ?_⟩
    obtain ⟨r', S', F', m', I', l', h'⟩ := hW
    cases k with
    | zero => exact h'.elim
    | succ k =>
      rw [whileN_succ] at h'
      refine ⟨Z, r', S', F', m', I', post_mono (so_post I' h') fun t S1 h1 v H1 F1 m1 hi1 st1 rv1 => ?_⟩
      subst rv1
      have I1 := I'.step hi1 st1
      have l1 := l'.trans st1.later
      cases v with
      | true =>
        rw [if_pos rfl]
        rw [if_pos rfl] at h1
        refine ⟨fun σ'' H'' => ∃ r'' S'' F'' m'', FI G.K Z σ'' r'' S'' H'' F'' m'' ∧ Later F' m' F'' m'' ∧ spost G Z F' m' D (whileN ft b k r'' S''), fun σ'' H'' hN => ⟨k, Nat.lt_succ_self _, ?_⟩, Z, r', S1, F1, m1, I1, ?_⟩
        · obtain ⟨r5, S5, F5, m5, I5, l5, h5⟩ := hN
          exact ⟨r5, S5, F5, m5, I5, l'.trans l5, spost_later h5 l5⟩
        · exact loop_post h1 st1.later fun r5 S5 σ5 H5 F5 m5 I5 l5 h5 => ⟨r5, S5, F5, m5, I5, st1.later.trans l5, h5⟩
      | false =>
        rw [if_neg Bool.false_ne_true]
        rw [if_neg Bool.false_ne_true] at h1
        exact h1 _ H1 F1 m1 I1 st1.later
end
end Pk
namespace Pk
open PySem PySem.Spec PyProof.Rows L2
section
variable {K : PySem.W.Frag} {Z : Zn} {σ : St} {r : Env} {S S' : Store} {H F H' F' : Hp} {m m' : List Addr}
theorem FI.drop1 (I : FI K Z σ r S H F m) (i : Nat) : FI K Z (σ.set i none) (r.set i .emp) S H F m := by
  have hl := I.si.len
  have key : ∀ (j : Nat) s, (r.set i .emp)[j]? = some s → s ≠ .emp → r[j]? = some s ∧ (σ.set i none)[j]? = σ[j]? := fun j s h hs => by
    by_cases hj : i = j
    · subst hj
      by_cases hlt : i < r.length
      · rw [List.getElem?_set_self hlt] at h
        exact absurd (Option.some.inj h).symm hs
      · rw [List.getElem?_eq_none (by rw [List.length_set]; omega)] at h; cases h
    · rw [List.getElem?_set_ne hj] at h
      exact ⟨h, List.getElem?_set_ne hj⟩
  have mn : ∀ s : Slot, s.mine = true → s ≠ .emp := fun s h z => by subst z; simp [Slot.mine] at h
  refine ⟨I.hi, ⟨by simp [hl], fun j d' h => ?_, fun j l h => ?_, fun j t l h => ?_, fun j s a h hs e => ?_, fun j k s t a h1 h2 hs ht e1 e2 => ?_⟩, I.es, fun j s a h hs e => ?_⟩
  · obtain ⟨e1, e2⟩ := key j _ h (fun z => nomatch z)
    rw [e2]; exact I.si.val j d' e1
  · obtain ⟨e1, e2⟩ := key j _ h (fun z => nomatch z)
    rw [e2]; exact I.si.own j l e1
  · obtain ⟨e1, e2⟩ := key j _ h (fun z => nomatch z)
    rw [e2]; exact I.si.ownd j t l e1
  · obtain ⟨e1, e2⟩ := key j _ h (mn s hs)
    rw [e2] at e; exact I.si.free j s a e1 hs e
  · obtain ⟨q1, q2⟩ := key j _ h1 (mn s hs)
    obtain ⟨q3, q4⟩ := key k _ h2 (mn t ht)
    rw [q2] at e1; rw [q4] at e2
    exact I.si.inj j k s t a q1 q3 hs ht e1 e2
  · obtain ⟨e1, e2⟩ := key j _ h (mn s hs)
    rw [e2] at e; exact I.fr j s a e1 hs e
theorem FI.wipe (I : FI K Z σ r S H F m) : ∀ vs : List Nat, FI K Z (L2.wipe σ vs) (wipeS r vs) S H F m
  | [] => I
  | v :: vs => FI.drop1 (FI.wipe I vs) v
/-- a list that is nobody's so far is changed -/
theorem HI.turn (I : HI K S H F m) {p : Addr} {o : HO} (hF : F p = none) (hm : p ∉ m) : HI K S (upd H p o) F m :=
  ⟨sameU1 I.sub hF, I.len, I.nd, fun n c a e1 e2 => (I.cel n c a e1 e2).mono (Same.refl F) (fun _ _ z => z) (upd_ne fun (z : a = p) => hm (by rw [← z]; exact List.mem_iff_getElem?.mpr ⟨n, e2⟩)), I.mF⟩
theorem Step.turn {H0 F0 : Hp} {m0 : List Addr} (s : Step H0 F0 m0 H F m) {p : Addr} {o : HO} (hp : H0 p = none) : Step H0 F0 m0 (upd H p o) F m :=
  ⟨s.sub, fun a u h n => by rw [upd_ne (ne_of_none h hp)]; exact s.keep a u h n, s.newF, s.out, s.pre, fun a h => by
    by_cases hb : a = p
    · subst hb; exact hp
    · rw [upd_ne hb] at h; exact s.dom a h⟩
/-- nobody's list stays nobody's -/
theorem Step.loose (s : Step H F m H' F' m') (sb : Same F' H') {p : Addr} {xs : List V} (h : H p = some (.lst xs)) (hF : F p = none) (hm : p ∉ m) : H' p = some (.lst xs) ∧ F' p = none ∧ p ∉ m' := by
  refine ⟨s.keep p _ h hm, ?_, fun z => ?_⟩
  · cases q : F' p with
    | none => rfl
    | some u =>
      rcases s.newF p u q with z | z | ⟨ys, z⟩
      · rw [hF] at z; cases z
      · rw [h] at z; cases z
      · subst z
        have := sb _ _ q
        rw [s.keep p _ h hm] at this
        cases this
  · rcases s.out p z with z | z
    · exact hm z
    · rw [h] at z; cases z
end
/-- the same world, nothing may be raised -/
def Gb.blk (G : Gb) : Gb := { G with W := fun _ _ _ _ => False }
def Out.app (acc : List D) (o : Out (List D)) : Out (List D) := match o with
  | .ok l S => .ok (acc ++ l) S
  | _ => .no
theorem comp_reads {G : Gb} {it : Lx} {tg : Tg} {tt : Tx} {te : Ex} {vs : List Nat} {σ : St} {H : Hp} {Q : VK} (h : tlOf G (lComp vs it tg tt te) σ H Q) : tLc (iOfC G it) (gOf G.blk vs tg) (ttOf G.blk tt) (tOf G.blk te) vs σ H Q := by
  obtain ⟨Z, r, S, F, m, I, h⟩ := h
  refine ⟨Z, r, S, F, m, I, post_mono (post_bind h) fun ds S1 h1 J H1 F1 m1 hi1 st1 wk P hP => ?_⟩
  obtain ⟨wk, hlen⟩ := wk
  have I1 := I.step hi1 st1
  obtain ⟨hi2, st2⟩ := hi1.loose (o := .lst []) hP
  refine ⟨fun i k H' => k = ds.length - i ∧ i ≤ ds.length ∧ ∃ S' F' m' acc xs, HI G.K S' H' F' m' ∧ Step H1 F1 m1 H' F' m' ∧ H' P = some (.lst xs) ∧ F' P = none ∧ P ∉ m' ∧ acc.length ≤ i ∧ RVs G.K F' m' acc xs ∧
      post G σ H F m (Out.app acc (compD tg tt te (wipeS r vs) (ds.drop i) S')) fun a S' => ∀ b H' F' m', HI G.K S' H' F' m' → Step H F m H' F' m' → New G.K a b H' F' m' H → Q b H',
    ⟨ds.length, by simp, Nat.zero_le _, S1, F1, m1, [], [], hi2, st2, upd_same, hi1.fF hP, hi1.notin hP, Nat.le_refl _, by simp [RVs], ?_⟩, fun i k H' hW => ?_⟩
  · rw [List.drop_zero]
    cases e : compD tg tt te (wipeS r vs) ds S1 with
    | ok l S2 => rw [e] at h1; exact h1
    | exc x S2 =>
      exfalso
      have no : ∀ (ds : List D) S x S2, compD tg tt te (wipeS r vs) ds S ≠ .exc x S2 := by
        intro ds
        induction ds with
        | nil => intro S x S2 z; cases z
        | cons d ds ih =>
          intro S x S2 z
          unfold compD at z
          split at z
          · cases z
          · split at z
            · split at z
              · split at z <;> cases z
              · cases z
            · exact ih _ _ _ z
            · cases z
      exact no _ _ _ _ e
    | no => rw [e] at h1; exact h1
  · obtain ⟨rfl, hle, S', F', m', acc, xs, hi', st', hPx, hPF, hPm, hacc, rv, h'⟩ := hW
    by_cases hlt : i < ds.length
    · have eg : ds[i]? = some ds[i] := List.getElem?_eq_getElem hlt
      rw [List.drop_eq_getElem_cons hlt] at h'
      unfold compD at h'
      have l' := st'.later
      refine .inr ⟨wk.go i S' H' F' m' hi' st' hlt, fun H'' => i + 1 ≤ ds.length ∧ ∃ S' F' m' acc xs, HI G.K S' H'' F' m' ∧ Step H1 F1 m1 H'' F' m' ∧ H'' P = some (.lst xs) ∧ F' P = none ∧ P ∉ m' ∧ acc.length ≤ i + 1 ∧ RVs G.K F' m' acc xs ∧
        post G σ H F m (Out.app acc (compD tg tt te (wipeS r vs) (ds.drop (i + 1)) S')) fun a S' => ∀ b H' F' m', HI G.K S' H' F' m' → Step H F m H' F' m' → New G.K a b H' F' m' H → Q b H', fun H'' hN => ⟨ds.length - (i + 1), by omega, rfl, hN.1, hN.2⟩, fun x H'' hy => ?_⟩
      obtain ⟨F3, hi3, st3, rv3⟩ := wk.yld i S' H' F' m' x H'' hi' st' hy _ eg
      obtain ⟨p3, f3, n3⟩ := st3.loose hi3.sub hPx hPF hPm
      have st13 := st'.trans st3
      have I3 : FI G.K Z (wipe σ vs) (wipeS r vs) S' H'' F3 m' := (I.step hi3 (st1.trans st13)).wipe vs
      cases e : tg ds[i] (wipeS r vs) with
      | none => simp only [e] at h'; exact h'.elim
      | some r1 =>
        simp only [e] at h'
        refine ⟨Z, wipeS r vs, S', F3, m', _, r1, I3, rv3, e, fun σ2 I2 hw => ⟨by rw [hw, wipe_twice], Z, r1, S', F3, m', I2, ?_⟩⟩
        cases et : tt r1 S' with
        | exc x S2 => simp only [et] at h'; exact h'.elim
        | no => simp only [et] at h'; exact h'.elim
        | ok b S2 =>
          intro b' H4 F4 m4 hi4 st4 eb
          subst eb
          obtain ⟨p4, f4, n4⟩ := st4.loose hi4.sub p3 f3 n3
          have st14 := st13.trans st4
          cases b' with
          | false =>
            simp only [et] at h'
            exact iteF ⟨hlt, S2, F4, m4, acc, xs, hi4, st14, p4, f4, n4, by omega, (rv.step st3).step st4, h'⟩
          | true =>
            simp only [et] at h'
            refine iteT ⟨Z, r1, S2, F4, m4, I2.step hi4 st4, ?_⟩
            cases ee : te r1 S2 with
            | exc x S3 => simp only [ee] at h'; exact h'.elim
            | no => simp only [ee] at h'; exact h'.elim
            | ok y S3 =>
              simp only [ee] at h'
              intro v H5 F5 m5 hi5 st5 rv5
              obtain ⟨p5, f5, n5⟩ := st5.loose hi5.sub p4 f4 n4
              have st15 := st14.trans st5
              have rvs := ((rv.step st3).step st4).step st5
              have hxl := rvs.length
              refine ⟨xs, p5, by omega, hlt, S3, F5, m5, acc ++ [y], xs ++ [v], hi5.turn f5 n5, st15.turn hP, upd_same, f5, n5, by simp; omega, rvs.append (RVs.one rv5), ?_⟩
              cases er : compD tg tt te (wipeS r vs) (ds.drop (i + 1)) S3 with
              | ok l S4 =>
                simp only [er, Out.app] at h' ⊢
                simpa using h'
              | exc x S4 => simp only [er] at h'; exact h'.elim
              | no => simp only [er] at h'; exact h'.elim
    · have ei : i = ds.length := by omega
      refine .inl ⟨wk.stop i S' H' F' m' hi' st' (by omega), ?_⟩
      rw [ei, List.drop_length] at h'
      simp only [compD, Out.app, List.append_nil] at h'
      exact h' _ H' F' m' hi' (st1.trans st') ⟨P, xs, rfl, st1.dom P hP, hPx, hPF, hPm, by omega, rv⟩
end Pk
namespace Pk
open PySem PySem.Spec PyProof.Rows L2
section
variable {X : Cx} {G : Gb} {tg a b : Expr} {fa fb : Ex} {pos p : Pos}
theorem PI.imp {t u : TI} {iter : Expr} (h : PI X tg iter t) (q : ∀ σ H R, u σ H R → t σ H R) : PI X tg iter u := ⟨fun pins s σ H R I z => h.run pins s σ H R I (q _ _ _ z)⟩
/-! ### a list, a tuple or a text -/
def iSeq (K : PySem.W.Frag) (tl : TE) : TI := fun σ H R => tl σ H fun x H1 => (∃ a, x = .ref a ∧ (∃ xs, SqL K H1 a xs) ∧ R (Itl K a) H1) ∨ (∃ a, x = .ref a ∧ (∃ xs, SqT K H1 a xs) ∧ R (Itt K a) H1) ∨ ∃ y, x = .str y ∧ R (Its y) H1
theorem pi_seq {l : Expr} {tl : TE} (hl : PE X l tl) : PI X tg l (iSeq X.K tl) := by
  refine ⟨fun pins s σ H R I h => ?_⟩
  refine thn (hl.run pins s σ H _ I h) fun v s1 ⟨x, H1, I1, r1, q1⟩ => ?_
  rcases q1 with ⟨a, e, ⟨xs, hq⟩, q⟩ | ⟨a, e, ⟨xs, hq⟩, q⟩ | ⟨y, e, q⟩
  · subst e
    cases r1
    obtain ⟨its, rv, p, hz⟩ := I1.list hq
    refine wpAny_pyIter_list p.isList ?_
    refine ⟨s1.heap.objs.size, [s1.heap.objs.size], _, _, H1, rfl, I1.kept (t' := s1.toks) fun b o e => Heap.get?_push_of_some _ e, turn_list a _, ⟨_, Heap.get?_push_size _ rfl, rfl, rfl⟩, fun b hb => ?_, q⟩
    have e : b = s1.heap.objs.size := by simpa using hb
    subst e
    exact I1.fpOk (Nat.le_refl _) (I1.hok.fresh (Nat.le_refl _))
  · subst e
    cases r1
    obtain ⟨its, rv, p, hz⟩ := I1.tuple hq
    refine wpAny_pyIter_tuple (show s1.heap.IsTuple a its.toArray from p) ?_
    refine ⟨s1.heap.objs.size, [s1.heap.objs.size], _, _, H1, rfl, I1.kept (t' := s1.toks) fun b o e => Heap.get?_push_of_some _ e, turn_tuple a _, ⟨_, Heap.get?_push_size _ rfl, rfl, rfl⟩, fun b hb => ?_, q⟩
    have e : b = s1.heap.objs.size := by simpa using hb
    subst e
    exact I1.fpOk (Nat.le_refl _) (I1.hok.fresh (Nat.le_refl _))
  · subst e
    obtain ⟨t, rfl⟩ := r1
    cases ha : y.cps.all (· < 128)
    · exact wpAny_pyIter_wide ha (pi_one (tk := s1.toks) I1 _ (turn_str _ y t "str_iterator" (.inr rfl)) ⟨_, Heap.get?_push_size _ rfl, rfl, rfl⟩ q)
    · exact wpAny_pyIter_ascii ha (pi_one (tk := s1.toks) I1 _ (turn_str _ y t "str_ascii_iterator" (.inl rfl)) ⟨_, Heap.get?_push_size _ rfl, rfl, rfl⟩ q)
theorem getSome {α : Type} {xs : List α} {i : Nat} (h : i < xs.length) : ∃ x, xs[i]? = some x := ⟨xs[i], List.getElem?_eq_getElem h⟩
theorem wk_list {K : PySem.W.Frag} {F : Hp} {m : List Addr} {l : List D} {a : Addr} {xs : List V} (h : SqL K F a xs) (rv : RVs K F m l xs) : Wk K (Itl K a) l F m where
  go := fun i S2 H2 F2 m2 hi l2 hlt => by
    have hx : SqL K H2 a xs := hi.sub.seq (l2.1.seq h)
    obtain ⟨x, hx'⟩ := getSome (xs := xs) (i := i) (by rw [rv.length]; exact hlt)
    exact ⟨xs, x, hx, hx'⟩
  yld := fun i S2 H2 F2 m2 x H3 hi l2 y d hd => by
    obtain ⟨rfl, y⟩ := y
    have hx : SqL K H3 a xs := hi.sub.seq (l2.1.seq h)
    obtain ⟨v, e1, e2⟩ := rv.get hd
    have := y xs hx
    rw [e1] at this
    cases this
    exact ⟨F2, hi, Step.refl _ _ _, e2.later l2⟩
  stop := fun i S2 H2 F2 m2 hi l2 hge => ⟨xs, hi.sub.seq (l2.1.seq h), by rw [rv.length]; exact hge⟩
theorem wk_tup {K : PySem.W.Frag} {F : Hp} {m : List Addr} {l : List D} {a : Addr} {xs : List V} (h : F a = some (.tup xs)) (rv : RVs K F m l xs) : Wk K (Itt K a) l F m where
  go := fun i S2 H2 F2 m2 hi l2 hlt => by
    have hx : SqT K H2 a xs := .inl (.inl (hi.sub _ _ (l2.1 _ _ h)))
    obtain ⟨x, hx'⟩ := getSome (xs := xs) (i := i) (by rw [rv.length]; exact hlt)
    exact ⟨xs, x, hx, hx'⟩
  yld := fun i S2 H2 F2 m2 x H3 hi l2 y d hd => by
    obtain ⟨rfl, y⟩ := y
    have hx : SqT K H3 a xs := .inl (.inl (hi.sub _ _ (l2.1 _ _ h)))
    obtain ⟨v, e1, e2⟩ := rv.get hd
    have := y xs hx
    rw [e1] at this
    cases this
    exact ⟨F2, hi, Step.refl _ _ _, e2.later l2⟩
  stop := fun i S2 H2 F2 m2 hi l2 hge => ⟨xs, .inl (.inl (hi.sub _ _ (l2.1 _ _ h))), by rw [rv.length]; exact hge⟩
theorem strOk_sign {x : Str} {c : Nat} (h : PySem.PyData.strOk x = true) (hc : c ∈ x.cps.toList) : PySem.PyData.strOk ⟨#[c]⟩ = true := by
  unfold PySem.PyData.strOk at *
  rw [Array.all_eq_true'] at h
  have := h c (by simpa using hc)
  simpa using this
theorem sign_rv {K : PySem.W.Frag} {F : Hp} {m : List Addr} {x : Str} {c : Nat} (h : PySem.PyData.strOk x = true) (hc : c ∈ x.cps.toList) : RV K F m (.str ⟨#[c]⟩) (.str ⟨#[c]⟩) := by
  unfold RV
  exact ⟨rfl, by show (1 : Nat) ≤ sizeLine; decide, strOk_sign h hc⟩
theorem wk_str {K : PySem.W.Frag} {F : Hp} {m : List Addr} {x : Str} (h : PySem.PyData.strOk x = true) : Wk K (Its x) (x.cps.toList.map fun c => .str ⟨#[c]⟩) F m where
  go := fun i S2 H2 F2 m2 hi l2 hlt => by
    show i < x.cps.size
    simpa using hlt
  yld := fun i S2 H2 F2 m2 v H3 hi l2 y d hd => by
    obtain ⟨rfl, c, e1, rfl⟩ := y
    refine ⟨F2, hi, Step.refl _ _ _, ?_⟩
    have e2 : x.cps.toList[i]? = some c := by rw [Array.getElem?_toList]; exact e1
    rw [List.getElem?_map, e2] at hd
    simp only [Option.map_some, Option.some.injEq] at hd
    subst hd
    exact sign_rv h (List.mem_iff_getElem?.mpr ⟨i, e2⟩)
  stop := fun i S2 H2 F2 m2 hi l2 hge => by
    show x.cps.size ≤ i
    simpa using hge
theorem si_seq (hK : X.K = G.K) (ha : PE X a (tOf G fa)) : PI X tg a (iOf G (itSeq fa)) :=
  PI.imp (pi_seq ha) fun σ H R h => by
    obtain ⟨Z, r, S, F, m, I, h⟩ := h
    refine ⟨Z, r, S, F, m, I, post_mono (post_bind h) fun d S1 h1 v H1 F1 m1 hi1 st1 rv1 => ?_⟩
    cases d with
    | lst l =>
      simp only [RV] at rv1
      obtain ⟨z, q, xs, rfl, e1, e2⟩ := rv1
      refine .inl ⟨q, rfl, ⟨xs, by rw [hK]; exact hi1.sub.seq e1⟩, ?_⟩
      rw [hK]
      exact h1 _ H1 F1 m1 hi1 st1 ⟨wk_list e1 e2, z⟩
    | tup l =>
      simp only [RV] at rv1
      obtain ⟨z, q, xs, rfl, e1, e2⟩ := rv1
      rw [hK]
      exact .inr (.inl ⟨q, rfl, ⟨xs, .inl (.inl (hi1.sub _ _ e1))⟩, h1 _ H1 F1 m1 hi1 st1 ⟨wk_tup e1 e2, z⟩⟩)
    | str x =>
      simp only [RV] at rv1
      obtain ⟨rfl, z, e2⟩ := rv1
      exact .inr (.inr ⟨x, rfl, h1 _ H1 F1 m1 hi1 st1 ⟨wk_str e2, by rw [List.length_map]; exact z⟩⟩)
    | _ => exact h1.elim
theorem Ev_weak {α β : Type} {G : Gb} {f : Env → M α} {V V' : α → β → Hp → Hp → List Addr → Hp → Prop} (v : ∀ a b H F m H0, V a b H F m H0 → V' a b H F m H0) {σ : St} {H : Hp} {Q : β → Hp → Prop} (h : Ev G f V' σ H Q) : Ev G f V σ H Q := by
  obtain ⟨Z, r, S, F, m, I, h⟩ := h
  exact ⟨Z, r, S, F, m, I, post_mono h fun a S' q b H' F' m' hi st z => q b H' F' m' hi st (v _ _ _ _ _ _ z)⟩
theorem pi_c {iter : Expr} {it : Lx} (h : PI X tg iter (iOf G it)) : PI X tg iter (iOfC G it) := PI.imp h fun σ H R z => Ev_weak (fun a b H F m H0 y => ⟨y.1.s, y.2⟩) z
theorem wks_list {K : PySem.W.Frag} {H F : Hp} {m : List Addr} {l : List D} {a : Addr} {xs : List V} (h : H a = some (.lst xs)) (hm : a ∉ m) (rv : RVs K F m l xs) : WkS K (Itl K a) l H F m where
  go := fun i S2 H2 F2 m2 hi st hlt => by
    obtain ⟨x, hx'⟩ := getSome (xs := xs) (i := i) (by rw [rv.length]; exact hlt)
    exact ⟨xs, x, .inl (.inl (st.keep _ _ h hm)), hx'⟩
  yld := fun i S2 H2 F2 m2 x H3 hi st y d hd => by
    obtain ⟨rfl, y⟩ := y
    obtain ⟨v, e1, e2⟩ := rv.get hd
    have := y xs (.inl (.inl (st.keep _ _ h hm)))
    rw [e1] at this
    cases this
    exact ⟨F2, hi, Step.refl _ _ _, e2.step st⟩
  stop := fun i S2 H2 F2 m2 hi st hge => ⟨xs, .inl (.inl (st.keep _ _ h hm)), by rw [rv.length]; exact hge⟩
theorem si_seqR (hK : X.K = G.K) (ha : PE X a (rOf G fa)) : PI X tg a (iOfC G (itSeq fa)) :=
  PI.imp (pi_seq ha) fun σ H R h => by
    obtain ⟨Z, r, S, F, m, I, h⟩ := h
    refine ⟨Z, r, S, F, m, I, post_mono (post_bind h) fun d S1 h1 v H1 F1 m1 hi1 st1 rr1 => ?_⟩
    rcases rr1 with rv1 | ⟨l, a', xs, rfl, rfl, z, e1, e2, e3⟩ | ⟨t, l, a', o, ks, rfl, _⟩
    · cases d with
      | lst l =>
        simp only [RV] at rv1
        obtain ⟨z, q, xs, rfl, e1, e2⟩ := rv1
        refine .inl ⟨q, rfl, ⟨xs, by rw [hK]; exact hi1.sub.seq e1⟩, ?_⟩
        rw [hK]
        exact h1 _ H1 F1 m1 hi1 st1 ⟨(wk_list e1 e2).s, z⟩
      | tup l =>
        simp only [RV] at rv1
        obtain ⟨z, q, xs, rfl, e1, e2⟩ := rv1
        rw [hK]
        exact .inr (.inl ⟨q, rfl, ⟨xs, .inl (.inl (hi1.sub _ _ e1))⟩, h1 _ H1 F1 m1 hi1 st1 ⟨(wk_tup e1 e2).s, z⟩⟩)
      | str x =>
        simp only [RV] at rv1
        obtain ⟨rfl, z, e2⟩ := rv1
        exact .inr (.inr ⟨x, rfl, h1 _ H1 F1 m1 hi1 st1 ⟨(wk_str e2).s, by rw [List.length_map]; exact z⟩⟩)
      | _ => exact h1.elim
    · refine .inl ⟨a', rfl, ⟨xs, .inl (.inl e1)⟩, ?_⟩
      rw [hK]
      exact h1 _ H1 F1 m1 hi1 st1 ⟨wks_list e1 e2 e3, z⟩
    · exact h1.elim
theorem wk_rng {K : PySem.W.Frag} {F : Hp} {m : List Addr} (i j : Int) : Wk K (Itr i (j - i).toNat) (rngD i j) F m where
  go := fun k S2 H2 F2 m2 hi l2 hlt => by
    show k < (j - i).toNat
    simpa [rngD] using hlt
  yld := fun k S2 H2 F2 m2 v H3 hi l2 y d hd => by
    obtain ⟨rfl, rfl⟩ := y
    refine ⟨F2, hi, Step.refl _ _ _, ?_⟩
    unfold rngD at hd
    rw [List.getElem?_map] at hd
    cases e : (List.range (j - i).toNat)[k]? with
    | none => rw [e] at hd; cases hd
    | some z =>
      rw [e] at hd
      simp only [Option.map_some, Option.some.injEq] at hd
      have hz : z = k := by
        have := List.getElem?_eq_some_iff.mp e
        obtain ⟨h1, h2⟩ := this
        simpa using h2.symm
      subst hz hd
      simp [RV]
  stop := fun k S2 H2 F2 m2 hi l2 hge => by
    show (j - i).toNat ≤ k
    simpa [rngD] using hge
theorem okRng_all {i j : Int} (h : okRng i j = true) : -(2 ^ 62) ≤ i ∧ i < 2 ^ 62 ∧ -(2 ^ 62) ≤ j ∧ j < 2 ^ 62 ∧ (j - i).toNat ≤ sizeLine := by
  exact gd_iff.mp h
theorem rvs1 {K : PySem.W.Frag} {F : Hp} {m : List Addr} {d : D} {vs : List V} (h : RVs K F m [d] vs) : ∃ v, vs = [v] ∧ RV K F m d v := by
  simp only [RVs] at h
  obtain ⟨y, ys, rfl, h1, rfl⟩ := h
  exact ⟨y, rfl, h1⟩
theorem rvs2 {K : PySem.W.Frag} {F : Hp} {m : List Addr} {d e : D} {vs : List V} (h : RVs K F m [d, e] vs) : ∃ v w, vs = [v, w] ∧ RV K F m d v ∧ RV K F m e w := by
  simp only [RVs] at h
  obtain ⟨y, ys, rfl, h1, z, zs, rfl, h2, rfl⟩ := h
  exact ⟨y, z, rfl, h1, h2⟩
theorem si_rng1 (hg : Gl X "range") (hm : X.mg "range" = none) (hp : plainArg a = true) (ha : PA X [a] (taOf G (eArgs [fa]))) : PI X tg (.Call (.Name "range" p) [a] [] pos) (iOf G (itB oRng1 [fa])) :=
  PI.imp (pi_range1 hg hm ha (star_cons hp _ _)) fun σ H R h => by
    obtain ⟨Z, r, S, F, m, I, h⟩ := h
    refine ⟨Z, r, S, F, m, I, post_mono (post_bind h) fun ds S1 h1 vs H1 F1 m1 hi1 st1 rv1 => ?_⟩
    obtain ⟨l, e, h1⟩ := post_some h1
    unfold oRng1 at e
    split at e
    · split at e
      · rename_i hz
        cases e
        obtain ⟨v, rfl, h2⟩ := rvs1 rv1
        simp only [RV] at h2
        subst h2
        obtain ⟨z1, z2, z3, z4, z5⟩ := okRng_all hz
        refine ⟨_, rfl, z3, z4, ?_⟩
        have := h1 (Itr 0 (Int.toNat _)) H1 F1 m1 hi1 st1 ⟨wk_rng 0 _, by simpa [rngD] using z5⟩
        simpa using this
      · cases e
    · cases e
theorem si_rng2 (hg : Gl X "range") (hm : X.mg "range" = none) (hp : plainArg a = true) (hp' : plainArg b = true) (ha : PA X [a, b] (taOf G (eArgs [fa, fb]))) : PI X tg (.Call (.Name "range" p) [a, b] [] pos) (iOf G (itB oRng2 [fa, fb])) :=
  PI.imp (pi_range2 hg hm ha (by rw [star_cons hp, star_cons hp']; rfl) (star_cons hp' _ _)) fun σ H R h => by
    obtain ⟨Z, r, S, F, m, I, h⟩ := h
    refine ⟨Z, r, S, F, m, I, post_mono (post_bind h) fun ds S1 h1 vs H1 F1 m1 hi1 st1 rv1 => ?_⟩
    obtain ⟨l, e, h1⟩ := post_some h1
    unfold oRng2 at e
    split at e
    · split at e
      · rename_i hz
        cases e
        obtain ⟨v, w, rfl, h2, h3⟩ := rvs2 rv1
        simp only [RV] at h2 h3
        subst h2 h3
        obtain ⟨z1, z2, z3, z4, z5⟩ := okRng_all hz
        exact ⟨_, _, rfl, ⟨z1, z2, z3, z4⟩, h1 _ H1 F1 m1 hi1 st1 ⟨wk_rng _ _, by simpa [rngD] using z5⟩⟩
      · cases e
    · cases e
/-! ### zip, enumerate, reversed -/
theorem pair_rv {K : PySem.W.Frag} {F : Hp} {m : List Addr} {d e : D} {x y : V} {T : Addr} {S : Store} {H : Hp} (hi : HI K S H F m) (hT : H T = none) (h1 : RV K F m d x) (h2 : RV K F m e y) :
    HI K S (upd H T (.tup [x, y])) (upd F T (.tup [x, y])) m ∧ Step H F m (upd H T (.tup [x, y])) (upd F T (.tup [x, y])) m ∧ RV K (upd F T (.tup [x, y])) m (.tup [d, e]) (.ref T) := by
  obtain ⟨hi', st'⟩ := hi.frozen (o := .tup [x, y]) hT
  refine ⟨hi', st', ?_⟩
  unfold RV
  refine ⟨by show 2 ≤ sizeLine; decide, T, [x, y], rfl, upd_same, ?_⟩
  simp only [RVs]
  exact ⟨x, [y], rfl, h1.step st', y, [], rfl, h2.step st', rfl⟩
theorem zip_get {α β : Type} {l : List α} {k : List β} {i : Nat} {p : α × β} (h : (l.zip k)[i]? = some p) : l[i]? = some p.1 ∧ k[i]? = some p.2 := by
  rw [List.getElem?_zip_eq_some] at h
  exact h
theorem wk_zipL {K : PySem.W.Frag} {F : Hp} {m : List Addr} {l k : List D} {a b : Addr} {xs ys : List V} (h1 : SqL K F a xs) (h2 : SqL K F b ys) (r1 : RVs K F m l xs) (r2 : RVs K F m k ys) : Wk K (Itz K a b) ((l.zip k).map fun p => .tup [p.1, p.2]) F m where
  go := fun i S2 H2 F2 m2 hi l2 hlt => by
    have q1 : SqL K H2 a xs := hi.sub.seq (l2.1.seq h1)
    have q2 : SqL K H2 b ys := hi.sub.seq (l2.1.seq h2)
    simp only [List.length_map, List.length_zip] at hlt
    have n1 := r1.length
    have n2 := r2.length
    obtain ⟨x, hx⟩ := getSome (xs := xs) (i := i) (by omega)
    obtain ⟨y, hy⟩ := getSome (xs := ys) (i := i) (by omega)
    exact ⟨xs, ys, x, y, q1, q2, hx, hy⟩
  yld := fun i S2 H2 F2 m2 v H3 hi l2 y d hd => by
    obtain ⟨T, x, z, rfl, hT, rfl, f1, f2⟩ := y
    have q1 : SqL K H2 a xs := hi.sub.seq (l2.1.seq h1)
    have q2 : SqL K H2 b ys := hi.sub.seq (l2.1.seq h2)
    rw [List.getElem?_map] at hd
    cases e : (l.zip k)[i]? with
    | none => rw [e] at hd; cases hd
    | some p =>
      rw [e] at hd
      cases hd
      obtain ⟨e1, e2⟩ := zip_get e
      obtain ⟨v1, g1, w1⟩ := r1.get e1
      obtain ⟨v2, g2, w2⟩ := r2.get e2
      have := f1 xs q1; rw [g1] at this; cases this
      have := f2 ys q2; rw [g2] at this; cases this
      obtain ⟨a1, a2, a3⟩ := pair_rv hi hT (w1.later l2) (w2.later l2)
      exact ⟨_, a1, a2, a3⟩
  stop := fun i S2 H2 F2 m2 hi l2 hge => by
    simp only [List.length_map, List.length_zip] at hge
    have n1 := r1.length
    have n2 := r2.length
    exact ⟨xs, ys, hi.sub.seq (l2.1.seq h1), hi.sub.seq (l2.1.seq h2), by omega⟩
theorem wk_zipT {K : PySem.W.Frag} {F : Hp} {m : List Addr} {l k : List D} {a b : Addr} {xs ys : List V} (h1 : SqT K F a xs) (h2 : SqT K F b ys) (r1 : RVs K F m l xs) (r2 : RVs K F m k ys) : Wk K (RZ.ItzT K a b) ((l.zip k).map fun p => .tup [p.1, p.2]) F m where
  go := fun i S2 H2 F2 m2 hi l2 hlt => by
    have q1 : SqT K H2 a xs := SqT.same hi.sub (SqT.same l2.1 h1)
    have q2 : SqT K H2 b ys := SqT.same hi.sub (SqT.same l2.1 h2)
    simp only [List.length_map, List.length_zip] at hlt
    have n1 := r1.length
    have n2 := r2.length
    obtain ⟨x, hx⟩ := getSome (xs := xs) (i := i) (by omega)
    obtain ⟨y, hy⟩ := getSome (xs := ys) (i := i) (by omega)
    exact ⟨xs, ys, x, y, q1, q2, hx, hy⟩
  yld := fun i S2 H2 F2 m2 v H3 hi l2 y d hd => by
    obtain ⟨T, x, z, rfl, hT, rfl, f1, f2⟩ := y
    have q1 : SqT K H2 a xs := SqT.same hi.sub (SqT.same l2.1 h1)
    have q2 : SqT K H2 b ys := SqT.same hi.sub (SqT.same l2.1 h2)
    rw [List.getElem?_map] at hd
    cases e : (l.zip k)[i]? with
    | none => rw [e] at hd; cases hd
    | some p =>
      rw [e] at hd
      cases hd
      obtain ⟨e1, e2⟩ := zip_get e
      obtain ⟨v1, g1, w1⟩ := r1.get e1
      obtain ⟨v2, g2, w2⟩ := r2.get e2
      have := f1 xs q1; rw [g1] at this; cases this
      have := f2 ys q2; rw [g2] at this; cases this
      obtain ⟨a1, a2, a3⟩ := pair_rv hi hT (w1.later l2) (w2.later l2)
      exact ⟨_, a1, a2, a3⟩
  stop := fun i S2 H2 F2 m2 hi l2 hge => by
    simp only [List.length_map, List.length_zip] at hge
    have n1 := r1.length
    have n2 := r2.length
    exact ⟨xs, ys, SqT.same hi.sub (SqT.same l2.1 h1), SqT.same hi.sub (SqT.same l2.1 h2), by omega⟩
theorem si_zip {elts : List Expr} {kk : Nat} {tpos : Pos} (hK : X.K = G.K) (hg : Gl X "zip") (hm : X.mg "zip" = none) (hp : plainArg a = true) (hp' : plainArg b = true) (ha : PA X [a, b] (taOf G (eArgs [fa, fb]))) : PI X (.Tuple elts kk tpos) (.Call (.Name "zip" p) [a, b] [] pos) (iOf G (itB oZip [fa, fb])) :=
  PI.imp (RZ.pi_zipA hg hm ha (star_cons hp _ _) (by rw [star_cons hp']; rfl)) fun σ H R h => by
    obtain ⟨Z, r, S, F, m, I, h⟩ := h
    refine ⟨Z, r, S, F, m, I, post_mono (post_bind h) fun ds S1 h1 vs H1 F1 m1 hi1 st1 rv1 => ?_⟩
    obtain ⟨l, e, h1⟩ := post_some h1
    unfold oZip at e
    split at e
    · cases e
      obtain ⟨v, w, rfl, h2, h3⟩ := rvs2 rv1
      simp only [RV] at h2 h3
      obtain ⟨z1, p1, xs, rfl, s1, r1⟩ := h2
      obtain ⟨z2, p2, ys, rfl, s2, r2⟩ := h3
      rw [hK]
      refine ⟨p1, p2, xs, ys, rfl, .inl ⟨hi1.sub.seq s1, hi1.sub.seq s2, ?_⟩⟩
      exact h1 _ H1 F1 m1 hi1 st1 ⟨wk_zipL s1 s2 r1 r2, by simp only [List.length_map, List.length_zip]; omega⟩
    · cases e
      obtain ⟨v, w, rfl, h2, h3⟩ := rvs2 rv1
      simp only [RV] at h2 h3
      obtain ⟨z1, p1, xs, rfl, s1, r1⟩ := h2
      obtain ⟨z2, p2, ys, rfl, s2, r2⟩ := h3
      rw [hK]
      refine ⟨p1, p2, xs, ys, rfl, .inr ⟨.inl (.inl (hi1.sub _ _ s1)), .inl (.inl (hi1.sub _ _ s2)), ?_⟩⟩
      exact h1 _ H1 F1 m1 hi1 st1 ⟨wk_zipT (.inl (.inl s1)) (.inl (.inl s2)) r1 r2, by simp only [List.length_map, List.length_zip]; omega⟩
    · cases e
theorem wk_enum {K : PySem.W.Frag} {F : Hp} {m : List Addr} {l : List D} {a : Addr} {xs : List V} (h1 : SqL K F a xs) (r1 : RVs K F m l xs) : Wk K (Ite K a) (l.zipIdx.map fun p => .tup [.int p.2, p.1]) F m where
  go := fun i S2 H2 F2 m2 hi l2 hlt => by
    have q1 : SqL K H2 a xs := hi.sub.seq (l2.1.seq h1)
    simp only [List.length_map, List.length_zipIdx] at hlt
    have n1 := r1.length
    obtain ⟨x, hx⟩ := getSome (xs := xs) (i := i) (by omega)
    exact ⟨xs, x, q1, hx⟩
  yld := fun i S2 H2 F2 m2 v H3 hi l2 y d hd => by
    obtain ⟨T, x, rfl, hT, rfl, f1⟩ := y
    have q1 : SqL K H2 a xs := hi.sub.seq (l2.1.seq h1)
    rw [List.getElem?_map, List.getElem?_zipIdx] at hd
    cases e : l[i]? with
    | none => rw [e] at hd; cases hd
    | some p =>
      rw [e] at hd
      simp only [Option.map_some, Option.some.injEq] at hd
      subst hd
      obtain ⟨v1, g1, w1⟩ := r1.get e
      have := f1 xs q1; rw [g1] at this; cases this
      obtain ⟨a1, a2, a3⟩ := pair_rv (d := .int (i : Nat)) (x := .int (i : Nat)) hi hT (by simp [RV]) (w1.later l2)
      exact ⟨_, a1, a2, by simpa using a3⟩
  stop := fun i S2 H2 F2 m2 hi l2 hge => by
    simp only [List.length_map, List.length_zipIdx] at hge
    have n1 := r1.length
    exact ⟨xs, hi.sub.seq (l2.1.seq h1), by omega⟩
theorem si_enum {elts : List Expr} {kk : Nat} {tpos : Pos} (hK : X.K = G.K) (hg : Gl X "enumerate") (hm : X.mg "enumerate" = none) (hp : plainArg a = true) (ha : PA X [a] (taOf G (eArgs [fa]))) : PI X (.Tuple elts kk tpos) (.Call (.Name "enumerate" p) [a] [] pos) (iOf G (itB oEnum [fa])) :=
  PI.imp (pi_enum hg hm ha (star_cons hp _ _)) fun σ H R h => by
    obtain ⟨Z, r, S, F, m, I, h⟩ := h
    refine ⟨Z, r, S, F, m, I, post_mono (post_bind h) fun ds S1 h1 vs H1 F1 m1 hi1 st1 rv1 => ?_⟩
    obtain ⟨l, e, h1⟩ := post_some h1
    unfold oEnum at e
    split at e
    · cases e
      obtain ⟨v, rfl, h2⟩ := rvs1 rv1
      simp only [RV] at h2
      obtain ⟨z1, p1, xs, rfl, s1, r1⟩ := h2
      rw [hK]
      refine ⟨p1, xs, rfl, hi1.sub.seq s1, ?_⟩
      exact h1 _ H1 F1 m1 hi1 st1 ⟨wk_enum s1 r1, by simp only [List.length_map, List.length_zipIdx]; omega⟩
    · cases e
end
end Pk
namespace Pk
open PySem PySem.Spec PyProof.Rows L2
section
variable {X : Cx} {G : Gb} {a b : Expr} {fa fb : Ex} {pos p : Pos}
/-! ### subscripts -/
def plainIx : Expr → Bool
  | .Slice .. => false
  | _ => true
theorem plainIx_of (h : plainIx b = true) : PlainIx b := fun o i => by
  cases b <;> first | rfl | cases h
theorem IxR.imp {r r' : R2} (h : IxR X r) (q : ∀ x y H Q, r' x y H Q → r x y H Q) : IxR X r' := fun value slice pins s σ H x y v u Q I rx ry z hs => h value slice pins s σ H x y v u Q I rx ry (q _ _ _ _ z) hs
theorem atI_rv {K : PySem.W.Frag} {F : Hp} {m : List Addr} {l : List D} {xs : List V} {i : Int} {d : D} (rv : RVs K F m l xs) (h : atI l i = some d) : ∃ v, atI xs i = some v ∧ RV K F m d v := by
  unfold atI at h ⊢
  rw [rv.length]
  cases e : ixN l.length i with
  | none => rw [e] at h; cases h
  | some j => rw [e] at h; exact rv.get h
/-- d[k], there -/
theorem ix_dct (hu : X.A.units + 65 < cLine) : IxR X (fun x y H Q => ∃ a v, x = .ref a ∧ DGet H a y (some v) ∧ Q v H) := by
  intro value slice pins s σ H x y v u Q I rx ry h hs
  obtain ⟨a, z, rfl, g, q⟩ := h
  cases rx
  refine tail_any (ops := [.ref a, u]) (dict_typeIs I g) PySem.F.slot_dict_getitem.lookup (d_getItem (by omega) I g ry fun w' s3 I3 rw' => ?_) hs
  exact ⟨z, H, I3, rw', q⟩
theorem ix_V (hu : X.A.units + 65 < cLine) : IxR X (r2V X.K oIx) := IxR.imp (IxR.or ix_seq (ix_dct hu)) fun x y H Q ⟨S, F, m, d1, d2, d, hi, va, vb, e, q⟩ => by
  unfold oIx at e
  split at e
  · obtain ⟨z, p, xs, rfl, s1, r1⟩ := va.tup hi
    obtain ⟨v, e1, rv⟩ := atI_rv r1 e
    exact .inl (.inr (.inl ⟨p, xs, _, v, rfl, vb.int, s1, e1, q v H F hi (Step.refl _ _ _) rv⟩))
  · obtain ⟨z, p, xs, rfl, s1, r1⟩ := va.sq hi
    obtain ⟨v, e1, rv⟩ := atI_rv r1 e
    exact .inl (.inl ⟨p, xs, _, v, rfl, vb.int, s1, e1, q v H F hi (Step.refl _ _ _) rv⟩)
  · rename_i z i
    cases e1 : atI z.cps.toList i with
    | none => rw [e1] at e; cases e
    | some c =>
      rw [e1] at e
      cases e
      have hc : c ∈ z.cps.toList := by
        unfold atI at e1
        cases e2 : ixN z.cps.toList.length i with
        | none => rw [e2] at e1; cases e1
        | some j => rw [e2] at e1; exact List.mem_iff_getElem?.mpr ⟨j, e1⟩
      exact .inl (.inr (.inr ⟨z, i, c, va.str.1, vb.int, va.str.2.1, e1, q _ H F hi (Step.refl _ _ _) (sign_rv va.str.2.2 hc)⟩))
  · obtain ⟨k', e1, e⟩ := Option.bind_eq_some_iff.mp e
    obtain ⟨_, p, o, ks, rfl, hp, ho, rp⟩ := va.dct hi
    have g := vb.dget hi e1 hp ho
    rcases rp.get (k := k') with ⟨e2, _⟩ | ⟨d', v, e2, e3, rv⟩
    · rw [e2] at e; cases e
    · rw [e2] at e; cases e
      rw [e3] at g
      exact .inr ⟨p, v, rfl, g, q v H F hi (Step.refl _ _ _) rv⟩
  · cases e
theorem se_ix (hK : X.K = G.K) (hu : X.A.units + 65 < cLine) (hb' : plainIx b = true) (ha : PE X a (rOf G fa)) (hb : PE X b (rOf G fb)) : PE X (.Subscript a b pos) (tOf G (eIx fa fb)) :=
  PE.imp (pe_ix (ix_V hu) ha hb (plainIx_of hb')) fun σ H Q h => by rw [hK]; exact e2_reads h
/-! ### slices -/
def poOf (G : Gb) (o : Option Ex) : TO := Ev G (ePart o) fun (i : Option Int) (b : Option Int) _ _ _ _ => b = i
theorem PO.imp {t u : TO} {e : Option Expr} (h : PO X e t) (q : ∀ σ H Q, u σ H Q → t σ H Q) : PO X e u := ⟨fun pins s σ H Q I z => h.run pins s σ H Q I (q _ _ _ z)⟩
theorem so_none : PO X none (poOf G none) := PO.imp po_none fun σ H Q h => by
  obtain ⟨Z, r, S, F, m, I, h⟩ := h
  exact h none H F m I.hi (Step.refl _ _ _) rfl
theorem so_some (ha : PE X a (tOf G fa)) : PO X (some a) (poOf G (some fa)) := PO.imp (po_some ha) fun σ H Q h => by
  obtain ⟨Z, r, S, F, m, I, h⟩ := h
  refine ⟨Z, r, S, F, m, I, post_mono (post_bind h) fun d S1 h1 v H1 F1 m1 hi1 st1 rv1 => ?_⟩
  cases d with
  | int i =>
    simp only [RV] at rv1
    exact ⟨i, rv1, h1 _ H1 F1 m1 hi1 st1 rfl⟩
  | _ => exact h1.elim
def rCutV (K : PySem.W.Frag) : V → Option Int → Option Int → Hp → VK → Prop := fun x lo hi H Q => ∃ S F m a d, HI K S H F m ∧ Vw K H F m a x ∧ oCut a lo hi = some d ∧ ∀ v H' F', HI K S H' F' m → Step H F m H' F' m → RV K F' m d v → Q v H'
theorem SlR.imp {r r' : V → Option Int → Option Int → Hp → VK → Prop} (h : SlR X r) (q : ∀ x lo hi H Q, r' x lo hi H Q → r x lo hi H Q) : SlR X r' := fun pins s σ H x v vl vu lo hi sl Q I rx hs pl pu z => h pins s σ H x v vl vu lo hi sl Q I rx hs pl pu (q _ _ _ _ _ z)
theorem cut_rv {K : PySem.W.Frag} {F : Hp} {m : List Addr} {l : List D} {xs : List V} (rv : RVs K F m l xs) (lo hi : Option Int) : RVs K F m (cutD l lo hi) (cutV xs lo hi) := by
  unfold cutD cutV
  rw [rv.length]
  exact (rv.drop _).take _
theorem cutD_le {α : Type} (l : List α) (lo hi : Option Int) : (cutD l lo hi).length ≤ l.length := by
  unfold cutD
  rw [List.length_take, List.length_drop]
  omega
theorem cut_whole {α : Type} (l : List α) (lo hi : Option Int) (h : HT.sIx l.length 0 lo = 0 ∧ HT.sIx l.length l.length hi = l.length) : cutD l lo hi = l := by
  unfold cutD
  rw [h.1, h.2]
  simp
theorem sl_V : SlR X (rCutV X.K) := SlR.imp (sl_list.or (sl_tupA.or sl_str)) fun x lo hi H Q ⟨S, F, m, d, d', hI, va, e, q⟩ => by
  unfold oCut at e
  split at e
  · cases e
    obtain ⟨z, p, xs, rfl, s1, r1⟩ := va.tup hI
    refine .inr (.inl ⟨p, xs, rfl, s1, fun hw => ?_, fun _ p hp => ?_⟩)
    · rw [r1.length] at hw
      rw [cut_whole _ _ _ hw] at q
      exact q _ H F hI (Step.refl _ _ _) (va.rv fun _ z => nomatch z)
    · obtain ⟨hi', st'⟩ := hI.frozen (o := .tup (cutV xs lo hi)) hp
      refine q _ _ _ hi' st' ?_
      unfold RV
      exact ⟨Nat.le_trans (cutD_le _ _ _) z, p, _, rfl, upd_same, (cut_rv r1 lo hi).step st'⟩
  · cases e
    obtain ⟨z, p, xs, rfl, s1, r1⟩ := va.sq hI
    refine .inl ⟨p, xs, rfl, s1, fun p hp => ?_⟩
    obtain ⟨hi', st'⟩ := hI.frozen (o := .lst (cutV xs lo hi)) hp
    refine q _ _ _ hi' st' ?_
    unfold RV
    exact ⟨Nat.le_trans (cutD_le _ _ _) z, p, _, rfl, .inl (.inl upd_same), (cut_rv r1 lo hi).step st'⟩
  · cases e
    rename_i y
    refine .inr (.inr ⟨y, va.str.1, va.str.2.1, q _ H F hI (Step.refl _ _ _) ?_⟩)
    unfold RV
    refine ⟨rfl, ?_, ?_⟩
    · refine Nat.le_trans ?_ va.str.2.1
      show (List.toArray _).size ≤ y.cps.size
      rw [List.size_toArray, List.length_take, List.length_drop, Array.length_toList]
      omega
    · have h := va.str.2.2
      unfold PySem.PyData.strOk at h ⊢
      rw [Array.all_eq_true'] at h ⊢
      intro c hc
      refine h c ?_
      have hc' : c ∈ ((y.cps.toList.drop (HT.sIx y.length 0 lo)).take (HT.sIx y.length y.length hi - HT.sIx y.length 0 lo)) := by
        unfold cutS at hc
        simpa using hc
      have := List.mem_of_mem_drop (List.mem_of_mem_take hc')
      simpa using this
  · cases e
theorem se_cut {lo hi : Option Expr} {fl fh : Option Ex} {p2 : Pos} (hK : X.K = G.K) (ha : PE X a (rOf G fa)) (hl : PO X lo (poOf G fl)) (hh : PO X hi (poOf G fh)) : PE X (.Subscript a (.Slice lo hi none p2) pos) (tOf G (eCut fa fl fh)) :=
  PE.imp (pe_slice sl_V ha hl hh) fun σ H Q h => by
    obtain ⟨Z, r, S, F, m, I, h⟩ := h
    refine ⟨Z, r, S, F, m, I, post_mono (post_bind h) fun d S1 h1 v H1 F1 m1 hi1 st1 rv1 => ?_⟩
    have I1 := I.step hi1 st1
    refine ⟨Z, r, S1, F1, m1, I1, post_imp (post_bind h1) st1 fun l S2 h2 v2 H2 F2 m2 hi2 st2 e2 => ?_⟩
    subst e2
    have st12 := st1.trans st2
    refine ⟨Z, r, S2, F2, m2, I1.step hi2 st2, post_imp (post_bind h2) st12 fun u S3 h3 v3 H3 F3 m3 hi3 st3 e3 => ?_⟩
    subst e3
    obtain ⟨d3, e4, h4⟩ := post_some h3
    cases ea : der d S3 with
    | none => rw [ea] at e4; cases e4
    | some a' =>
      rw [ea] at e4
      rw [hK]
      exact ⟨S3, F3, m3, a', d3, hi3, view hi3 ((rv1.step st2).step st3) ea, e4, fun v5 H5 F5 hi5 st5 rv5 => h4 v5 H5 F5 m3 hi5 ((st12.trans st3).trans st5) rv5⟩
/-! ### built-ins of one value -/
def rc1 (K : PySem.W.Frag) (q : D → Option D) : List V → Hp → VK → Prop := fun xs H Q => ∃ x, xs = [x] ∧ r1V K q x H Q
def rc2 (K : PySem.W.Frag) (q : D → D → Option D) : List V → Hp → VK → Prop := fun xs H Q => ∃ x y, xs = [x, y] ∧ r2V K q x y H Q
/-- a new list -/
def r1L (K : PySem.W.Frag) (q : D → Option (List D)) : V → Hp → VK → Prop := fun x H Q => ∃ S F m a l, HI K S H F m ∧ Vw K H F m a x ∧ q a = some l ∧ ∀ v H' F', HI K S H' F' m → Step H F m H' F' m → New K l v H' F' m H → Q v H'
def rcL (K : PySem.W.Frag) (q : D → Option (List D)) : List V → Hp → VK → Prop := fun xs H Q => ∃ x, xs = [x] ∧ r1L K q x H Q
theorem CallR.imp {f : Value} {r r' : List V → Hp → VK → Prop} (h : CallR X f r) (q : ∀ xs H Q, r' xs H Q → r xs H Q) : CallR X f r' := fun pins s σ H xs us Q I rv z => h pins s σ H xs us Q I rv (q _ _ _ z)
theorem CallR.or {f : Value} {r r' : List V → Hp → VK → Prop} (h : CallR X f r) (h' : CallR X f r') : CallR X f (fun xs H Q => r xs H Q ∨ r' xs H Q) := fun pins s σ H xs us Q I rv z => z.elim (h pins s σ H xs us Q I rv) (h' pins s σ H xs us Q I rv)
theorem l1_reads {q : D → Option (List D)} {σ : St} {H : Hp} {Q : VK} (h : tlOf G (l1 q fa) σ H Q) : rOf G fa σ H fun x H1 => r1L G.K q x H1 Q := by
  obtain ⟨Z, r, S, F, m, I, h⟩ := h
  refine ⟨Z, r, S, F, m, I, post_mono (post_bind h) fun d S1 h1 v H1 F1 m1 hi1 st1 rv1 => ?_⟩
  obtain ⟨d3, e3, h3⟩ := post_some h1
  cases ea : der d S1 with
  | none => rw [ea] at e3; cases e3
  | some a' =>
    rw [ea] at e3
    refine ⟨S1, F1, m1, a', d3, hi1, view hi1 rv1 ea, e3, fun v3 H3 F3 hi3 st3 hn => h3 v3 H3 F3 m1 hi3 (st1.trans st3) ?_⟩
    obtain ⟨p, xs, e, hp, r⟩ := hn
    exact ⟨p, xs, e, st1.dom p hp, r⟩
theorem Ev_mono {α β : Type} {f : Env → M α} {W : α → β → Hp → Hp → List Addr → Hp → Prop} {σ : St} {H : Hp} {Q Q' : β → Hp → Prop} (h : Ev G f W σ H Q) (q : ∀ b H, Q b H → Q' b H) : Ev G f W σ H Q' := by
  obtain ⟨Z, r, S, F, m, I, h⟩ := h
  exact ⟨Z, r, S, F, m, I, post_mono h fun a S' k b H' F' m' hi st rv => q _ _ (k b H' F' m' hi st rv)⟩
theorem bk0 {e : Expr} (h : plainArg e = true) (pos : Pos) (env : PySem.Env) : (backTo pos (starEach [e] env)).any (·.1) = false := by rw [star_cons h]; rfl
theorem se_b1 {q : D → Option D} {id : String} {x : Str} (hK : X.K = G.K) (hc : CallR X (.builtin id) (rc1 X.K q)) (hg : Gl X x) (hm : X.mg x = none) (hv : bootBuiltins x = some (.builtin id)) (hn : x ≠ "__name__") (hd : (x == ("__debug__" : Str)) = false) (hp : plainArg a = true) (ha : PE X a (rOf G fa)) :
    PE X (.Call (.Name x p) [a] [] pos) (tOf G (e1 q fa)) :=
  PE.imp (pe_callB hc hg hm hv (pa_cons ha pa_nil (star_cons hp _ _)) hn hd (star_cons hp _ _) rfl) fun σ H Q h => by
    rw [hK]
    exact Ev_mono (show rOf G fa σ H _ from e1_reads h) fun x H1 z => ⟨x, rfl, z⟩
theorem se_t1 {q : D → Option D} {id : String} {x : Str} (hK : X.K = G.K) (hc : CallR X (.type id) (rc1 X.K q)) (hg : Gl X x) (hm : X.mg x = none) (hv : bootBuiltins x = some (.type id)) (hn : x ≠ "__name__") (hd : (x == ("__debug__" : Str)) = false) (hp : plainArg a = true) (ha : PE X a (rOf G fa)) :
    PE X (.Call (.Name x p) [a] [] pos) (tOf G (e1 q fa)) :=
  PE.imp (pe_callTy hc hg hm hv (pa_cons ha pa_nil (star_cons hp _ _)) hn hd (star_cons hp _ _) rfl) fun σ H Q h => by
    rw [hK]
    exact Ev_mono (show rOf G fa σ H _ from e1_reads h) fun x H1 z => ⟨x, rfl, z⟩
theorem sl_b1 {q : D → Option (List D)} {id : String} {x : Str} (hK : X.K = G.K) (hc : CallR X (.builtin id) (rcL X.K q)) (hg : Gl X x) (hm : X.mg x = none) (hv : bootBuiltins x = some (.builtin id)) (hn : x ≠ "__name__") (hd : (x == ("__debug__" : Str)) = false) (hp : plainArg a = true) (ha : PE X a (rOf G fa)) :
    PE X (.Call (.Name x p) [a] [] pos) (tlOf G (l1 q fa)) :=
  PE.imp (pe_callB hc hg hm hv (pa_cons ha pa_nil (star_cons hp _ _)) hn hd (star_cons hp _ _) rfl) fun σ H Q h => by
    rw [hK]
    exact Ev_mono (l1_reads h) fun x H1 z => ⟨x, rfl, z⟩
theorem sl_t1 {q : D → Option (List D)} {id : String} {x : Str} (hK : X.K = G.K) (hc : CallR X (.type id) (rcL X.K q)) (hg : Gl X x) (hm : X.mg x = none) (hv : bootBuiltins x = some (.type id)) (hn : x ≠ "__name__") (hd : (x == ("__debug__" : Str)) = false) (hp : plainArg a = true) (ha : PE X a (rOf G fa)) :
    PE X (.Call (.Name x p) [a] [] pos) (tlOf G (l1 q fa)) :=
  PE.imp (pe_callTy hc hg hm hv (pa_cons ha pa_nil (star_cons hp _ _)) hn hd (star_cons hp _ _) rfl) fun σ H Q h => by
    rw [hK]
    exact Ev_mono (l1_reads h) fun x H1 z => ⟨x, rfl, z⟩
theorem se_b2 {q : D → D → Option D} {id : String} {x : Str} (hK : X.K = G.K) (hc : CallR X (.builtin id) (rc2 X.K q)) (hg : Gl X x) (hm : X.mg x = none) (hv : bootBuiltins x = some (.builtin id)) (hn : x ≠ "__name__") (hd : (x == ("__debug__" : Str)) = false) (hp : plainArg a = true) (hp' : plainArg b = true) (ha : PE X a (rOf G fa)) (hb : PE X b (rOf G fb)) :
    PE X (.Call (.Name x p) [a, b] [] pos) (tOf G (e2 q fa fb)) :=
  PE.imp (pe_callB hc hg hm hv (pa_cons ha (pa_cons hb pa_nil (star_cons hp' _ _)) (star_cons hp _ _)) hn hd (star_cons hp _ _) (bk0 hp' _ _)) fun σ H Q h => by
    rw [hK]
    exact Ev_mono (show rOf G fa σ H _ from e2_reads h) fun x H1 z => Ev_mono (show rOf G fb σ H1 _ from z) fun y H2 z => ⟨x, y, rfl, z⟩
theorem c_len : CallR X (.builtin "len") (rc1 X.K oLen) := CallR.imp ((call_len_seq.or call_len_str).or call_len_dT) fun xs H Q ⟨x, e, S, F, m, d, d', hi, va, e1, q⟩ => by
  subst e
  unfold oLen at e1
  split at e1
  · cases e1
    exact .inl (.inr ⟨_, by rw [va.str.1], va.str.2.1, q _ H F hi (Step.refl _ _ _) (by simp [RV])⟩)
  · cases e1
    obtain ⟨z, p, ys, rfl, s1, r1⟩ := va.tup hi
    exact .inl (.inl ⟨p, ys, rfl, .inr s1, q _ H F hi (Step.refl _ _ _) (by simp [RV, r1.length])⟩)
  · cases e1
    obtain ⟨z, p, ys, rfl, s1, r1⟩ := va.sq hi
    exact .inl (.inl ⟨p, ys, rfl, .inl s1, q _ H F hi (Step.refl _ _ _) (by simp [RV, r1.length])⟩)
  · cases e1
    obtain ⟨z, p, o, ks, rfl, h1, h2, h3⟩ := va.dct hi
    simp only [IsDct, if_true] at h2
    subst h2
    exact .inr ⟨p, ks, rfl, h1, q _ H F hi (Step.refl _ _ _) (by simp [RV, h3.length])⟩
  · cases e1
theorem bls_rv {K : PySem.W.Frag} {F : Hp} {m : List Addr} : ∀ {l : List D} {xs : List V} {bs : List Bool}, RVs K F m l xs → blsOf l = some bs → xs = bs.map V.bl
  | [], xs, bs, h, e => by simp only [RVs] at h; subst h; cases e; rfl
  | d :: l, xs, bs, h, e => by
    simp only [RVs] at h
    obtain ⟨y, ys, rfl, h1, h2⟩ := h
    cases d with
    | bl b =>
      simp only [blsOf] at e
      cases e2 : blsOf l with
      | none => rw [e2] at e; cases e
      | some bs' =>
        rw [e2] at e
        cases e
        simp only [RV] at h1
        rw [h1, bls_rv h2 e2]; rfl
    | _ => simp [blsOf] at e
theorem c_all (hc : X.calm = true) : CallR X (.builtin "all") (rc1 X.K oAll) := CallR.imp (cr_all hc) fun xs H Q ⟨x, e, S, F, m, d, d', hi, va, e1, q⟩ => by
  subst e
  cases d with
  | lst l =>
    simp only [oAll] at e1
    cases e2 : blsOf l with
    | none => rw [e2] at e1; cases e1
    | some bs =>
      rw [e2] at e1
      cases e1
      obtain ⟨z, p, ys, rfl, s1, r1⟩ := va.sq hi
      exact ⟨p, bs, rfl, by rw [← bls_rv r1 e2]; exact s1, q _ H F hi (Step.refl _ _ _) (by simp [RV])⟩
  | _ => cases e1
theorem c_any (hc : X.calm = true) : CallR X (.builtin "any") (rc1 X.K oAny) := CallR.imp (cr_any hc) fun xs H Q ⟨x, e, S, F, m, d, d', hi, va, e1, q⟩ => by
  subst e
  cases d with
  | lst l =>
    simp only [oAny] at e1
    cases e2 : blsOf l with
    | none => rw [e2] at e1; cases e1
    | some bs =>
      rw [e2] at e1
      cases e1
      obtain ⟨z, p, ys, rfl, s1, r1⟩ := va.sq hi
      exact ⟨p, bs, rfl, by rw [← bls_rv r1 e2]; exact s1, q _ H F hi (Step.refl _ _ _) (by simp [RV])⟩
  | _ => cases e1
theorem c_tuple : CallR X (.type "tuple") (rc1 X.K oTuple) := CallR.imp call_tuple_of fun xs H Q ⟨x, e, S, F, m, d, d', hi, va, e1, q⟩ => by
  subst e
  cases d with
  | lst l =>
    cases e1
    obtain ⟨z, p, ys, rfl, s1, r1⟩ := va.sq hi
    refine ⟨p, ys, rfl, .inl ⟨s1, fun t ht => ?_⟩⟩
    obtain ⟨hi', st'⟩ := hi.frozen (o := .tup ys) ht
    refine q _ _ _ hi' st' ?_
    unfold RV
    exact ⟨z, t, ys, rfl, upd_same, r1.step st'⟩
  | tup l =>
    cases e1
    have hv := va.rv fun _ z => nomatch z
    obtain ⟨z, p, ys, rfl, s1, r1⟩ := va.tup hi
    exact ⟨p, ys, rfl, .inr ⟨s1, q _ H F hi (Step.refl _ _ _) hv⟩⟩
  | _ => cases e1
/-- the keys of a dict as values -/
theorem key_rv {K : PySem.W.Frag} {F : Hp} {m : List Addr} : ∀ {l : List D} {ks : List Key}, keysL l = some ks → (∀ d ∈ l, gd1 d) → RVs K F m l (ks.map kV)
  | [], ks, e, _ => by cases e; simp [RVs]
  | d :: l, ks, e, hg => by
    unfold keysL at e
    obtain ⟨k, e1, e⟩ := Option.bind_eq_some_iff.mp e
    obtain ⟨ks', e2, rfl⟩ := Option.map_eq_some_iff.mp e
    have h2 := key_rv (K := K) (F := F) (m := m) e2 fun d hd => hg d (List.mem_cons_of_mem _ hd)
    have h1 := hg d (List.mem_cons_self ..)
    unfold RVs
    refine ⟨kV k, _, rfl, ?_, h2⟩
    cases d with
    | int i => cases e1; simp [RV]; rfl
    | str x => cases e1; unfold RV; exact ⟨rfl, h1⟩
    | _ => cases e1
theorem keys_rv {K : PySem.W.Frag} {H F : Hp} {m : List Addr} : ∀ {l : List (D × D)} {ks : List (List Key × V)} {bs : List Addr} {F' : Hp}, RP K F m true l ks → IsKeys H ks bs → (∀ b ∈ bs, F' b = H b) → RVs K F' m (l.map (·.1)) (bs.map V.ref)
  | [], ks, bs, F', h, hk, _ => by
    simp [RP] at h
    subst h
    cases hk
    simp [RVs]
  | (a, b) :: l, ks, bs, F', h, hk, hF => by
    unfold RP at h
    obtain ⟨k, v, r, rfl, h0, _, h2⟩ := h
    cases hk with
    | cons hh ht =>
      rename_i c cs
      have ih := keys_rv h2 ht fun b hb => hF b (List.mem_cons_of_mem _ hb)
      simp only [List.map_cons]
      unfold RVs
      refine ⟨_, _, rfl, ?_, ih⟩
      obtain ⟨h0, hg⟩ := h0
      simp only [kOf, if_true] at h0
      split at h0
      · rename_i l'
        obtain ⟨g1, g2⟩ := hg
        unfold RV
        refine ⟨g1, c, k.map kV, rfl, ?_, key_rv h0 g2⟩
        rw [hF c (List.mem_cons_self ..)]
        exact hh
      · cases h0
theorem isKeys_tup {H : Hp} {ks : List (List Key × V)} {bs : List Addr} (h : IsKeys H ks bs) : ∀ b ∈ bs, ∃ xs, H b = some (.tup xs) := by
  unfold IsKeys at h
  induction h with
  | nil => intro b hb; cases hb
  | cons hh ht ih =>
    intro b hb
    rcases List.mem_cons.mp hb with rfl | hb
    · exact ⟨_, hh⟩
    · exact ih b hb
open Classical in
/-- tuples that lie there are known from now on -/
theorem HI.more {K : PySem.W.Frag} {S : Store} {H F : Hp} {m : List Addr} (hi : HI K S H F m) (bs : List Addr) (hb : ∀ b ∈ bs, ∃ xs, H b = some (.tup xs)) : ∃ F', HI K S H F' m ∧ Step H F m H F' m ∧ ∀ b ∈ bs, F' b = H b := by
  have same : Same F (fun a => if a ∈ bs then H a else F a) := fun a o e => by
    by_cases ha : a ∈ bs
    · simp only [if_pos ha]; exact hi.sub a o e
    · simp only [if_neg ha]; exact e
  refine ⟨fun a => if a ∈ bs then H a else F a, ⟨fun a o e => ?_, hi.len, hi.nd, fun n c a e1 e2 => (hi.cel n c a e1 e2).mono same (fun _ _ z => z) rfl, fun a ha => ?_⟩, ⟨same, fun _ _ h _ => h, fun a o e => ?_, fun _ h => .inl h, fun _ _ h => h, fun _ h => h⟩, fun b h => if_pos h⟩
  · by_cases ha : a ∈ bs
    · simp only [if_pos ha] at e; exact e
    · simp only [if_neg ha] at e; exact hi.sub a o e
  · have hn : a ∉ bs := fun z => by
      obtain ⟨xs, hx⟩ := hb a z
      obtain ⟨n, e⟩ := List.mem_iff_getElem?.mp ha
      obtain ⟨c, _, hc⟩ := hi.got e
      cases c with
      | lst l => obtain ⟨_, ys, q, _⟩ := hc; rw [hx] at q; cases q
      | dct t l => exact hc.elim
      | obj c fs => exact hc.elim
    simp only [if_neg hn]
    exact hi.mF a ha
  · by_cases ha : a ∈ bs
    · simp only [if_pos ha] at e
      obtain ⟨xs, hx⟩ := hb a ha
      rw [hx] at e; cases e
      exact .inr (.inr ⟨xs, rfl⟩)
    · simp only [if_neg ha] at e; exact .inl e
theorem c_list (hc : X.calm = true) : CallR X (.type "list") (rcL X.K oList) := CallR.imp (call_list_of.or (call_list_dT hc)) fun xs H Q ⟨x, e, S, F, m, d, d', hi, va, e1, q⟩ => by
  subst e
  cases d with
  | lst l =>
    cases e1
    obtain ⟨z, p, ys, rfl, s1, r1⟩ := va.sq hi
    refine .inl ⟨p, ys, rfl, .inl s1, fun t ht => ?_⟩
    obtain ⟨hi', st'⟩ := hi.loose (o := .lst ys) ht
    exact q _ _ _ hi' st' ⟨t, ys, rfl, ht, upd_same, hi.fF ht, hi.notin ht, z, r1⟩
  | tup l =>
    cases e1
    obtain ⟨z, p, ys, rfl, s1, r1⟩ := va.tup hi
    refine .inl ⟨p, ys, rfl, .inr s1, fun t ht => ?_⟩
    obtain ⟨hi', st'⟩ := hi.loose (o := .lst ys) ht
    exact q _ _ _ hi' st' ⟨t, ys, rfl, ht, upd_same, hi.fF ht, hi.notin ht, z, r1⟩
  | dct t l =>
    cases t with
    | false => cases e1
    | true =>
      cases e1
      obtain ⟨z, p, o, ks, rfl, hp, ho, rp⟩ := va.dct hi
      simp only [IsDct, if_true] at ho
      subst ho
      refine .inr ⟨p, ks, rfl, .inl hp, fun t bs ht hk => ?_⟩
      obtain ⟨F', hi1, st1, hF⟩ := hi.more bs (isKeys_tup hk)
      have rv := keys_rv rp hk hF
      obtain ⟨hi', st'⟩ := hi1.loose (o := .lst (bs.map V.ref)) ht
      exact q _ _ _ hi' (st1.trans st') ⟨t, _, rfl, ht, upd_same, hi1.fF ht, hi1.notin ht, by rw [List.length_map]; exact z, rv⟩
  | _ => cases e1
theorem c_max (hc : X.calm = true) : CallR X (.builtin "max") (rc2 X.K oMax) := CallR.imp (call_max2 hc) fun xs H Q ⟨x, y, e, S, F, m, d, d', d2, hi, va, vb, e1, q⟩ => by
  subst e
  unfold oMax at e1
  split at e1
  · cases e1
    exact ⟨_, _, by rw [va.int, vb.int], q _ H F hi (Step.refl _ _ _) (by simp [RV])⟩
  · cases e1
theorem c_min (hc : X.calm = true) : CallR X (.builtin "min") (rc2 X.K oMin) := CallR.imp (call_min2 hc) fun xs H Q ⟨x, y, e, S, F, m, d, d', d2, hi, va, vb, e1, q⟩ => by
  subst e
  unfold oMin at e1
  split at e1
  · cases e1
    exact ⟨_, _, by rw [va.int, vb.int], q _ H F hi (Step.refl _ _ _) (by simp [RV])⟩
  · cases e1
theorem c_int : CallR X (.type "int") (rc1 X.K oInt) := CallR.imp call_int1 fun xs H Q ⟨x, e, S, F, m, d, d', hi, va, e1, q⟩ => by
  subst e
  unfold oInt at e1
  split at e1
  · cases e1
    exact .inl ⟨_, by rw [va.int], q _ H F hi (Step.refl _ _ _) (by simp [RV])⟩
  · cases e1
    exact .inr ⟨_, by rw [va.bl], q _ H F hi (Step.refl _ _ _) (by simp [RV])⟩
  · cases e1
/-! ### isinstance(x, T), T a built-in class -/
def isiNames : List String := ["str", "tuple", "list", "int", "bool", "dict"]
theorem kit_isT {K : PySem.W.Frag} {d : D} {t T : String} (h : tyOf d = some t) (hT : T ∈ isiNames) : PySem.W.kitOne K (.type t) (.type T) = some (isT t T) := by
  have ht : t ∈ ["NoneType", "bool", "int", "str", "tuple", "list"] := by
    cases d <;> simp [tyOf] at h <;> subst h <;> decide
  have all : ∀ t ∈ ["NoneType", "bool", "int", "str", "tuple", "list"], ∀ T ∈ isiNames, kitB t T = some (isT t T) := by decide +kernel
  exact kit_ty (all t ht T hT)
theorem Vw.ty {S : Store} {K : PySem.W.Frag} {H F : Hp} {m : List Addr} {d : D} {x : V} {t : String} (hi : HI K S H F m) (h : Vw K H F m d x) (e : tyOf d = some t) : TyX K H x (.type t) := by
  cases d with
  | non => cases e; rw [h.non]; exact .base .non
  | bl b => cases e; rw [h.bl]; exact .base (.bl b)
  | int i => cases e; rw [h.int]; exact .base (.int i)
  | str x => cases e; rw [h.str.1]; exact .base (.str x)
  | tup l =>
    cases e
    obtain ⟨z, p, ys, rfl, s1, r1⟩ := h.tup hi
    rcases s1 with (s1 | ⟨o, s1⟩) | ⟨o, its, n, s1, s2, _⟩
    · exact .base (.tup s1)
    · exact .fTuple s1
    · exact .kTuple s1 s2
  | lst l =>
    cases e
    obtain ⟨z, p, ys, rfl, s1, r1⟩ := h.sq hi
    rcases s1 with (s1 | ⟨o, s1⟩) | ⟨o, its, n, s1, s2, _⟩
    · exact .base (.lst s1)
    · exact .base (.frz s1)
    · exact .kList s1 s2
  | _ => cases e
theorem se_isT {T : String} {tx : Str} {p2 : Pos} (hK : X.K = G.K) (hT : T ∈ isiNames) (hg : Gl X "isinstance") (hm : X.mg "isinstance" = none) (hgT : Gl X tx) (hmT : X.mg tx = none) (hvT : bootBuiltins tx = some (.type T)) (hnT : tx ≠ "__name__") (hdT : (tx == ("__debug__" : Str)) = false) (hp : plainArg a = true) (ha : PE X a (rOf G fa)) :
    PE X (.Call (.Name "isinstance" p) [a, .Name tx p2] [] pos) (tOf G (e1 (oIsT T) fa)) :=
  PE.imp (pe_callB call_isi hg hm (by decide +kernel) (pa_cons ha (pa_cons (pe_bltn (v := .ty T) hgT hmT hvT rfl hnT hdT) pa_nil rfl) (star_cons hp _ _)) (by decide) (by decide) (star_cons hp _ _) rfl) fun σ H Q h => by
    rw [hK]
    refine Ev_mono (show rOf G fa σ H _ from e1_reads h) fun x H1 z => ?_
    obtain ⟨S, F, m, d, d', hi, va, e, q⟩ := z
    unfold oIsT at e
    cases et : tyOf d with
    | none => rw [et] at e; cases e
    | some t =>
      rw [et] at e
      cases e
      exact ⟨x, .ty T, .type t, .type T, isT t T, rfl, .ty T, va.ty hi et, kit_isT et hT, q _ H1 F hi (Step.refl _ _ _) (by simp [RV])⟩
end
end Pk
namespace Pk
open PySem PySem.Spec PyProof.Rows L2 PySem.W PySem.SeqAt
/-! ### sorting of tuples, with () among them -/
section
variable {prog : Program} {w : World} {A : Around} {E : Value → Shared → Prop} {s : Shared}
theorem call_tuple_lt {Q : Value → Shared → Prop} {l b : Addr} {items items2 : Array Value} {e r : Nat → Bool} (hl : s.heap.IsTuple l items) (hb : s.heap.IsTuple b items2)
    (he : ∀ j (h1 : j < items.size) (h2 : j < items2.size), EqAt A.in1 s items[j] items2[j] (e j)) (hr : ∀ j (h1 : j < items.size) (h2 : j < items2.size), e j = false → RcLt A.in1 s items[j] items2[j] (r j))
    (h : Q (.bool (firstLt e r (decide (items.size < items2.size)) (List.range (min items.size items2.size)))) s) : wpAny (model prog w) A (call (.builtin "tuple.__lt__") [.ref l, .ref b]) Q E s := by
  obtain ⟨⟨cls, dd, data, sl⟩, ho, hc, n, hd⟩ := id hl
  obtain ⟨⟨cls2, dd2, data2, sl2⟩, ho2, hc2, n2, hd2⟩ := id hb
  simp only at hc hd hc2 hd2
  subst hc hd hc2 hd2
  exact call_meets F.slot_tuple_lt ⟨_, ho, rfl⟩ F.entry_tuple_lt (F.args_tuple_lt_2 _ _) (tuple_ltAt l b items items2 n n2 dd dd2 sl sl2 e r) ⟨ho, ho2, he, hr, h⟩
theorem oneLt_tuple {xs ys : List PyData} {a b : Value} {as bs : List Addr} {Q : Bool → Shared → Prop} (ra : Reads s.heap a (.tuple xs) as) (rb : Reads s.heap b (.tuple ys) bs) (h : alike (.tuple xs) (.tuple ys) = true)
    (hu : A.units + min (PyData.tuple xs).depth (PyData.tuple ys).depth < cLine) (hq : Q (dataLt (.tuple xs) (.tuple ys)) s) : wpAny (model prog w) A (oneLt' true a b) Q E s := by
  have hal : alikeAll xs ys = true := by simpa [alike] using h
  cases ra with
  | @tuple l o vs n _ as₁ h1 h2 h3 h4 =>
    cases rb with
    | @tuple l' o' vs' n' _ bs₁ k1 k2 k3 k4 =>
      have n1 : vs.size = xs.length := by simpa using ReadsAll.length _ _ _ h4
      have n2 : vs'.size = ys.length := by simpa using ReadsAll.length _ _ _ k4
      rw [dataLt_tuple, ← firstLt_toks xs ys hal, ← n1, ← n2] at hq
      rw [oneLt'_eq]
      simp only [if_true]
      refine wpAny_bind (wpAny_cRoomFor (room_here hu) ?_)
      refine wpAny_bind (wpAny_callSpecialIfBound?_slot (T := "tuple") ⟨_, h1, h2⟩ F.slot_tuple_lt (call_tuple_lt (e := pairEq xs ys) (r := fun j => dataLt (xs.getD j .none) (ys.getD j .none)) ⟨_, h1, h2, _, h3⟩ ⟨_, k1, k2, _, k3⟩ (fun j j1 j2 => ?_) (fun j j1 j2 hj => ?_) ?_))
      · have := eqAt_alikeAll xs ys A.in1 s vs.toList vs'.toList _ _ h4 k4 hal (room_in hu) j (by simpa using j1) (by simpa using j2)
        simpa using this
      · have := rcLt_alikeAll xs ys A.in1 s vs.toList vs'.toList _ _ h4 k4 hal (room_in hu) j (by simpa using j1) (by simpa using j2) hj
        simpa using this
      · exact wpAny_truthy_bool hq
def full : PyData → Bool
  | .tuple [] => false
  | _ => true
theorem full_no {d : PyData} (h : d ≠ .tuple []) : full d = true := by
  unfold full
  split
  · exact (h rfl).elim
  · rfl
/-- their first items, some or none -/
theorem firsts_any {M : Model} : ∀ {vs : List Value} {ds : List PyData} {Q : List (Option Value) → Shared → Prop}, EachIs (fun v d => ∃ as, Reads s.heap v d as) vs ds → (∀ d ∈ ds, ∃ xs, d = .tuple xs) →
    (∀ fs : List (Option Value), fs.map (·.isSome) = ds.map full → Q fs s) → wpAny M A (vs.mapM firstOfTuple') Q E s
  | _, _, Q, .nil, _, h => by rw [List.mapM_nil]; exact wpAny_pure (h [] rfl)
  | v :: vs, d :: ds, Q, .cons ⟨as, r⟩ t, ht, h => by
    obtain ⟨xs, rfl⟩ := ht d List.mem_cons_self
    cases r with
    | @tuple a o ys n _ _ ho hc hd hr =>
      rw [List.mapM_cons]
      refine wpAny_bind ?_
      rw [kas_first_eq]
      refine wpAny_bind (Looks.here (show Looks M s.heap (typeOf (.ref a)) o.cls from (Looks.ld ho).andThen .now) ?_)
      rw [hc, if_neg (by first | decide | simp)]
      refine wpAny_bind (listItems_at ho hd (wpAny_pure ?_))
      refine wpAny_bind (firsts_any t (fun d hd => ht d (List.mem_cons_of_mem _ hd)) fun fs hfs => wpAny_pure (h _ ?_))
      have hl : ys.size = xs.length := by simpa using ReadsAll.length _ _ _ hr
      rw [List.map_cons, List.map_cons, hfs]
      congr 1
      cases xs with
      | nil =>
        have : ys[0]? = none := by rw [Array.getElem?_eq_none_iff, hl]; exact Nat.zero_le _
        rw [this]; rfl
      | cons x xs =>
        have h0 : 0 < ys.size := by rw [hl]; simp
        rw [Array.getElem?_eq_getElem h0]; rfl
theorem sorts_tuples {vs : List Value} {ds : List PyData} (e : EachIs (fun v d => ∃ as, Reads s.heap v d as) vs ds) (hal : AllAlike ds) (hk : ∀ d ∈ ds, ∃ xs, d = .tuple xs) (hu : ∀ d, d ∈ ds → A.units + d.depth < cLine) : SortsAt prog w A s (dataKind s.heap ds) vs := by
  by_cases hall : ∀ d ∈ ds, ∃ x r, d = .tuple (x :: r)
  · exact SortsAt.data e hal (.inl hall) hu
  have room : ∀ {d d' : PyData}, d ∈ ds → A.units + min d.depth d'.depth < cLine := fun {d d'} hd => Nat.lt_of_le_of_lt (Nat.add_le_add_left (Nat.min_le_left _ _) _) (hu d hd)
  have hne : ∃ d ∈ ds, d = .tuple [] := Classical.byContradiction fun hn => hall fun d hd => by
    obtain ⟨xs, rfl⟩ := hk d hd
    cases xs with
    | nil => exact (hn ⟨_, hd, rfl⟩).elim
    | cons x r => exact ⟨x, r, rfl⟩
  refine ⟨fun v hv => ?_, ?_⟩
  · obtain ⟨d, hd, as, r⟩ := e.left v hv
    exact ⟨_, dataKind_some hal hd r⟩
  · have notall : ∀ fs : List (Option Value), fs.map (·.isSome) = ds.map full → (fs.toArray.all fun x => x.isSome) = false := fun fs hfs => by
      obtain ⟨d, hd, rfl⟩ := hne
      have : fs.all (fun x => x.isSome) = (fs.map (·.isSome)).all id := by rw [List.all_map]; rfl
      rw [List.all_toArray, this, hfs, List.all_eq_false]
      exact ⟨false, List.mem_map.mpr ⟨_, hd, rfl⟩, by simp⟩
    cases ds with
    | nil => obtain ⟨d, hd, _⟩ := hne; cases hd
    | cons d₀ ds₀ =>
      by_cases h0 : d₀ = .tuple []
      · refine ⟨oneType', ?_, fun h2 E Q hq => ?_⟩
        · intro E x y a b Q ha hb hq
          obtain ⟨d, as, hd, ra, rfl⟩ := dataKind_inv ha
          obtain ⟨d', as', hd', rb, rfl⟩ := dataKind_inv hb
          rw [keyLt'_oneType]
          obtain ⟨xs, rfl⟩ := hk d hd
          obtain ⟨ys, rfl⟩ := hk d' hd'
          exact oneLt_tuple ra rb (hal _ hd _ hd') (room hd) hq
        · rw [kat_kind_eq, List.mapM_toArray, map_eq_pure_bind]
          refine wpAny_bind (wpAny_bind (firsts_any e hk fun fs hfs => wpAny_pure ?_))
          rw [if_neg (by rw [notall fs hfs]; simp)]
          have hf0 : ((fs.toArray[0]?).bind id).isSome = false := by
            cases fs with
            | nil => simp at hfs
            | cons f fs =>
              rw [List.map_cons, List.map_cons, h0] at hfs
              have := (List.cons.inj hfs).1
              simp [full] at this
              simp [this]
          rw [if_neg (by rw [hf0]; simp)]
          rw [oneTypeOnly'_eq, List.mapM_toArray, map_eq_pure_bind]
          refine wpAny_bind (wpAny_bind (wpAny_bind (kas_mapM (r := Value.type "tuple") _ (fun v hv Q' hq' => ?_) (wpAny_pure ?_))))
          · obtain ⟨d, hd, as, r⟩ := e.left v hv
            obtain ⟨xs, rfl⟩ := hk d hd
            exact (looks_reads r).here hq'
          · obtain ⟨v₁, rest, rfl⟩ : ∃ v₁ rest, vs = v₁ :: rest := by
              match vs, h2 with
              | v₁ :: rest, _ => exact ⟨v₁, rest, rfl⟩
            have hall2 : ((List.map (fun _ => Value.type "tuple") (v₁ :: rest)).toArray.all fun x => x == Value.type "tuple") = true := by
              simp only [List.all_toArray, List.all_map, List.all_eq_true]
              intro _ _
              exact beq_self_eq_true _
            have h00 : (List.map (fun _ => Value.type "tuple") (v₁ :: rest)).toArray[0]? = some (Value.type "tuple") := by simp
            rw [h00]
            simp only [hall2, if_true]
            exact wpAny_pure (wpAny_pure hq)
      · refine ⟨general', ?_, fun h2 E Q hq => ?_⟩
        · intro E x y a b Q ha hb hq
          obtain ⟨d, as, hd, ra, rfl⟩ := dataKind_inv ha
          obtain ⟨d', as', hd', rb, rfl⟩ := dataKind_inv hb
          show wpAny _ _ (oneLt' false x y) _ _ _
          obtain ⟨xs, rfl⟩ := hk d hd
          exact oneLt_alike (fun z => nomatch z) ra rb (hal _ hd _ hd') (fun z => nomatch z) (room hd) hq
        · rw [kat_kind_eq, List.mapM_toArray, map_eq_pure_bind]
          refine wpAny_bind (wpAny_bind (firsts_any e hk fun fs hfs => wpAny_pure ?_))
          rw [if_neg (by rw [notall fs hfs]; simp)]
          have hf0 : ((fs.toArray[0]?).bind id).isSome = true := by
            cases fs with
            | nil => simp at hfs
            | cons f fs =>
              rw [List.map_cons, List.map_cons] at hfs
              have := (List.cons.inj hfs).1
              rw [full_no h0] at this
              simp [this]
          rw [if_pos hf0]
          exact wpAny_pure hq
/-- all are tuples, or none is a tuple or None -/
def Sortab (ds : List PyData) : Prop := (∀ d, d ∈ ds → ∃ xs, d = .tuple xs) ∨ ∀ d, d ∈ ds → d ≠ .none ∧ ∀ xs, d ≠ .tuple xs
theorem sorts_any {vs : List Value} {ds : List PyData} (e : EachIs (fun v d => ∃ as, Reads s.heap v d as) vs ds) (hal : AllAlike ds) (hk : Sortab ds) (hu : ∀ d, d ∈ ds → A.units + d.depth < cLine) : SortsAt prog w A s (dataKind s.heap ds) vs := by
  rcases hk with hk | hk
  · exact sorts_tuples e hal hk hu
  · exact SortsAt.data e hal (.inr hk) hu
end
end Pk
namespace Pk
open PySem PySem.Spec PyProof.Rows L2 PySem.W
section
variable {prog : Program} {w : World} {A : Around} {E : Value → Shared → Prop} {s : Shared} {β : Type} {vs : List Value} {bs : List β} {enc : β → PyData} {R : Value → β → Prop}
theorem sorted_any {it : Addr} {T : String} {o : Obj} {n : Nat} {Q : Value → Shared → Prop} (hT : T = "list" ∨ T = "tuple") (ho : s.heap.get? it = some o) (hc : o.cls = .type T) (hd : o.data = .seq vs.toArray n)
    (e : EachIs R vs bs) (er : EachIs (fun v b => ∃ as, Reads s.heap v (enc b) as) vs bs) (hal : AllAlike (bs.map enc)) (hk : Sortab (bs.map enc)) (hL : bs.length ≤ sizeLine) (hu : ∀ b, b ∈ bs → A.units + 2 + (enc b).depth < cLine)
    (h : ∀ out a c h', out.length = bs.length → (∀ b o, s.heap.get? b = some o → h'.get? b = some o) → s.heap.get? a = none → h'.get? a = some (seqObj "list" (List.toArray out) c) → EachIs R out (bs.mergeSort (dataLe false enc)) → Q (.ref a) { s with heap := h' }) :
    wpAny (model prog w) A (call (.builtin "sorted") [.ref it]) Q E s := by
  have hl : vs.length ≤ sizeLine := by rw [e.length]; exact hL
  refine Calls.call_function_entry kind_sorted plain_sorted entry_sorted (args_sorted1 _) ?_
  unfold Builtin.«sorted»
  refine wpAny_bind (m := checkCount "sorted" 1 1 _) (wpAny_pure ?_)
  refine wpAny_bind (wpAny_collect_seq it hT ho hc hd (fun h1 k1 => ?_) (by rw [List.size_toArray]; exact hl))
  rw [List.toList_toArray]
  refine wpAny_bind (wpAny_newList ?_ hl)
  have nw : ∀ b u, s.heap.get? b = some u → b ≠ h1.objs.size := fun b u q => Nat.ne_of_lt (Heap.lt_size (k1 b u q))
  have k2 : ∀ b u, s.heap.get? b = some u → (h1.push (seqObj "list" vs.toArray 0)).get? b = some u := fun b u q => Heap.get?_push_of_some _ (k1 b u q)
  have a2 : (h1.push (seqObj "list" vs.toArray 0)).get? h1.objs.size = some (seqObj "list" vs.toArray 0) := Heap.get?_push_size _ rfl
  have k3 : ∀ b u, s.heap.get? b = some u → (sortingHeap (h1.push (seqObj "list" vs.toArray 0)) h1.objs.size vs).get? b = some u := fun b u q => sortingHeap_old (nw b u q) (k2 b u q)
  have er' : EachIs (fun v b => ∃ as, Reads (sortingHeap (h1.push (seqObj "list" vs.toArray 0)) h1.objs.size vs) v (enc b) as) vs bs := er.mono fun _ _ ⟨as, r⟩ => ⟨as, PyProof.Rows.Reads.keeps (fun b u q => k3 b u q) r⟩
  show wpAny _ _ _ _ _ { s with heap := h1.push (seqObj "list" vs.toArray 0) }
  refine wpAny_bind (wpAny_holding (wpAny_call_entry slot_list_sort ⟨_, a2, rfl⟩ entry_list_sort ?body (args_list_sort _)))
  case body =>
    refine list_sort_vals (A := A.in1.in1) (s := { s with heap := h1.push (seqObj "list" vs.toArray 0) }) (κ := dataKind (sortingHeap (h1.push (seqObj "list" vs.toArray 0)) h1.objs.size vs) (bs.map enc)) a2
      (sorts_any (s := { s with heap := sortingHeap (h1.push (seqObj "list" vs.toArray 0)) h1.objs.size vs }) (each_map (R := fun v d => ∃ as, Reads (sortingHeap (h1.push (seqObj "list" vs.toArray 0)) h1.objs.size vs) v d as) enc er') hal hk (bound_map (A := A.in1.in1) hu)) hl ?_
    refine ⟨_, rfl, wpAny_pure ⟨_, rfl, ?_⟩⟩
    have hupd : ∀ (out : Array Value), ∃ c, (sortedHeap (h1.push (seqObj "list" vs.toArray 0)) h1.objs.size vs out).get? h1.objs.size = some (seqObj "list" out c) := fun out => by
      have hlt : h1.objs.size < (h1.push (seqObj "list" vs.toArray 0)).objs.size := Heap.lt_size a2
      have q1 : ((h1.push (seqObj "list" vs.toArray 0)).update h1.objs.size (Obj.mapSeq fun _ => (#[] : Array Value))).get? h1.objs.size = some _ := get?_update_seq a2 fun _ => #[]
      have q2 := Heap.get?_push_of_some (seqObj "tuple" vs.toArray 0) q1
      have q3 := Heap.get?_push_of_some (seqObj "list" #[] 0) q2
      exact ⟨_, get?_update_seq q3 fun _ => out⟩
    obtain ⟨c, hc'⟩ := hupd (sortVals (dataKind (sortingHeap (h1.push (seqObj "list" vs.toArray 0)) h1.objs.size vs) (bs.map enc)) false vs vs).toArray
    refine h _ h1.objs.size c _ (by rw [sortVals_length false rfl]; exact e.length) (fun b u q => ?_) ?_ hc' (sortVals_data false e er' hal)
    · show (Heap.update (sortingHeap _ _ _) _ _).get? b = some u
      rw [Heap.get?_update_ne _ _ _ _ (nw b u q)]
      exact k3 b u q
    · cases q : s.heap.get? h1.objs.size with
      | none => rfl
      | some u => exact absurd rfl (nw _ u q)
end
section
variable {X : Cx}
theorem objEx {P : Program} {w : World} {H : Hp} {h : Heap} {a : Addr} {o : HO} (x : ObjOk P w H h a o) : ∃ u, h.get? a = some u := by
  cases o with
  | lst xs => obtain ⟨_, _, _, _, e⟩ := x; exact ⟨_, e⟩
  | tup xs => obtain ⟨_, _, _, ob, e, _⟩ := x; exact ⟨_, e⟩
  | dK kvs => obtain ⟨_, _, _, _, o, _, _, e, _⟩ := x; exact ⟨_, e⟩
  | dT kvs => obtain ⟨_, _, _, _, o, _, _, e, _⟩ := x; exact ⟨_, e⟩
  | set S n => obtain ⟨o, _, _, _, e, _⟩ := x; exact ⟨_, e⟩
  | ins C dx fs => obtain ⟨_, _, _, e, _⟩ := x; exact ⟨_, e⟩
  | own y => obtain ⟨_, e⟩ := x; exact ⟨_, e⟩
  | xd fs => obtain ⟨_, ⟨_, _, _, e, _⟩, _⟩ := x; exact ⟨_, e⟩
  | rng lo hi => obtain ⟨_, _, _, e⟩ := x; exact ⟨_, e⟩
  | frz ob u => obtain ⟨e, _⟩ := x; exact ⟨_, e⟩
  | tbl ps => exact ⟨_, x⟩
  | met f y => exact ⟨_, x⟩
  | ext φ => obtain ⟨_, ⟨_, e⟩, _⟩ := x; exact ⟨_, e⟩
theorem each_vals {K : PySem.W.Frag} {F : Hp} {m : List Addr} : ∀ {l : List D} {xs : List V} {us : List Value}, RVs K F m l xs → Vals xs us → EachIs (fun (v : Value) (p : D × V) => RelV p.2 v ∧ RV K F m p.1 p.2) us (l.zip xs)
  | [], xs, us, h, r => by simp only [RVs] at h; subst h; cases r; exact .nil
  | d :: l, xs, us, h, r => by
    simp only [RVs] at h
    obtain ⟨y, ys, rfl, h1, h2⟩ := h
    cases r with
    | cons r1 r2 => exact .cons ⟨r1, h1⟩ (each_vals h2 r2)
theorem each_back {K : PySem.W.Frag} {F : Hp} {m : List Addr} : ∀ {ps : List (D × V)} {us : List Value}, EachIs (fun (v : Value) (p : D × V) => RelV p.2 v ∧ RV K F m p.1 p.2) us ps → Vals (ps.map (·.2)) us ∧ RVs K F m (ps.map (·.1)) (ps.map (·.2))
  | _, _, .nil => ⟨.nil, by simp [RVs]⟩
  | _, _, .cons h t => by
    obtain ⟨h1, h2⟩ := each_back t
    refine ⟨.cons h.1 h1, ?_⟩
    simp only [List.map_cons, RVs]
    exact ⟨_, _, rfl, h.2, h2⟩
theorem zip_fst {α β : Type} {l : List α} {k : List β} (h : k.length = l.length) : (l.zip k).map (·.1) = l := List.map_fst_zip (by omega)
theorem okSort_all {l : List D} (h : okSort l = true) : AllAlike (l.map py) ∧ (∀ d ∈ l, small d = true ∧ (py d).depth ≤ 60) ∧ Sortab (l.map py) := by
  unfold okSort at h
  simp only [Bool.and_eq_true, Bool.or_eq_true, List.all_eq_true, decide_eq_true_eq] at h
  obtain ⟨⟨h1, h2⟩, h3⟩ := h
  refine ⟨fun d hd d' hd' => ?_, h2, ?_⟩
  · obtain ⟨a, ha, rfl⟩ := List.mem_map.mp hd
    obtain ⟨b, hb, rfl⟩ := List.mem_map.mp hd'
    exact h1 a ha b hb
  · rcases h3 with h3 | h3
    · refine .inl fun d hd => ?_
      obtain ⟨a, ha, rfl⟩ := List.mem_map.mp hd
      have := h3 a ha
      split at this
      · exact ⟨_, rfl⟩
      · cases this
    · refine .inr fun d hd => ?_
      obtain ⟨a, ha, rfl⟩ := List.mem_map.mp hd
      have := h3 a ha
      have hs := (h2 a ha).1
      cases a with
      | tup l => cases this
      | non => cases this
      | bl b => simp [py]
      | int b => simp [py]
      | str b => simp [py]
      | lst b => simp [py]
      | dct b => simp [small, dat] at hs
      | ref b => simp [small, dat] at hs
      | exn b c => simp [small, dat] at hs
      | oth b => simp [small, dat] at hs
theorem sort_core {pins : List (Addr × Obj)} {s : Shared} {σ : St} {H F : Hp} {m : List Addr} {S : Store} {Q : VK} {l : List D} {a : Addr} {xs : List V} {its : List Value} {T : String} {o : Obj} {n : Nat} (hu : X.A.units + 65 < cLine) (I : Inv X pins σ H s) (hi : HI X.K S H F m) (hT : T = "list" ∨ T = "tuple") (ho : s.heap.get? a = some o) (hc : o.cls = .type T) (hd : o.data = .seq its.toArray n)
    (rv : RVs X.K F m l xs) (r : Vals xs its) (hz : l.length ≤ sizeLine) (hs : okSort l = true) (q : ∀ v H' F', HI X.K S H' F' m → Step H F m H' F' m → New X.K (l.mergeSort dLe) v H' F' m H → Q v H') : wpAny (model X.prog X.w) X.A (call (.builtin "sorted") [.ref a]) (EP X pins σ Q) X.xe s := by
  obtain ⟨h1, h2, h3⟩ := okSort_all hs
  have hl := rv.length
  have e1 : (l.zip xs).map (fun p => py p.1) = l.map py := by
    rw [show (fun p : D × V => py p.1) = py ∘ (·.1) from rfl, ← List.map_map, zip_fst hl]
  have rd : EachIs (fun v (b : D × V) => ∃ as, Reads s.heap v (py b.1) as) its (l.zip xs) := by
    have := each_vals rv r
    have hm : ∀ p ∈ l.zip xs, p.1 ∈ l := fun p hp => (List.of_mem_zip hp).1
    refine (each_mem this).mono fun v p hp => ?_
    obtain ⟨⟨hp1, hp2⟩, hp3⟩ := hp
    have hsm := (h2 p.1 (hm p hp3)).1
    unfold small at hsm
    rw [Bool.and_eq_true] at hsm
    exact Dp.reads I (py p.1) p.2 v (RV.dp hi.sub p.1 p.2 hsm.1 hp2).1 hp1
  refine sorted_any (s := s) (R := fun (v : Value) (p : D × V) => RelV p.2 v ∧ RV X.K F m p.1 p.2) (enc := fun p : D × V => py p.1) hT ho hc hd (each_vals rv r) rd (by rw [e1]; exact h1) (by rw [e1]; exact h3) (by rw [List.length_zip]; omega) (fun p hp => ?_) (fun out b c h' hlen kp hb hb' eo => ?_)
  · have := (h2 p.1 (List.of_mem_zip hp).1).2
    omega
  · obtain ⟨v1, v2⟩ := each_back eo
    have em : ((l.zip xs).mergeSort (dataLe false fun p : D × V => py p.1)).map (·.1) = l.mergeSort dLe := by
      rw [List.map_mergeSort (r := dataLe false fun p : D × V => py p.1) (s := dLe) (f := fun p : D × V => p.1) (fun _ _ _ _ => rfl), zip_fst hl]
    rw [em] at v2
    have hlen2 : (List.map (fun x : D × V => x.2) ((l.zip xs).mergeSort (dataLe false fun p : D × V => py p.1))).length = l.length := by
      rw [List.length_map, List.length_mergeSort, List.length_zip]; omega
    have hnb : H b = none := by
      cases q : H b with
      | none => rfl
      | some u =>
        obtain ⟨ob, hx⟩ := objEx (I.hok b u q)
        rw [hb] at hx; cases hx
    have hml : (l.mergeSort dLe).length ≤ sizeLine := by rw [List.length_mergeSort]; exact hz
    refine ⟨.ref b, upd H b (.lst _), I.laidN (t' := s.toks) kp hb hnb ⟨by rw [hlen2]; exact hz, out, c, v1, hb'⟩, rfl, ?_⟩
    obtain ⟨hi', st'⟩ := hi.loose (o := .lst (List.map (fun x : D × V => x.2) ((l.zip xs).mergeSort (dataLe false fun p : D × V => py p.1)))) hnb
    exact q _ _ _ hi' st' ⟨b, _, rfl, hnb, upd_same, hi.fF hnb, hi.notin hnb, hml, v2⟩
theorem c_sorted (hu : X.A.units + 65 < cLine) : CallR X (.builtin "sorted") (rcL X.K oSort) := fun pins s σ H xs us Q I rv ⟨x, e, S, F, m, d, l, hi, va, e1, q⟩ => by
  subst e
  cases rv with
  | cons r0 r1 =>
    cases r1
    cases d with
    | lst l =>
      simp only [oSort] at e1
      split at e1
      · cases e1
        rename_i hs
        obtain ⟨z, p, ys, rfl, s1, r1⟩ := va.sq hi
        cases r0
        obtain ⟨its, r, pl, _⟩ := I.list s1
        obtain ⟨o, ho, hc, n, hd⟩ := pl.isList
        exact sort_core hu I hi (.inl rfl) ho hc hd r1 r z hs q
      · cases e1
    | tup l =>
      simp only [oSort] at e1
      split at e1
      · cases e1
        rename_i hs
        obtain ⟨z, p, ys, rfl, s1, r1⟩ := va.tup hi
        cases r0
        obtain ⟨its, r, ⟨o, ho, hc, n, hd⟩, _⟩ := I.tuple s1
        exact sort_core hu I hi (.inr rfl) ho hc hd r1 r z hs q
      · cases e1
    | _ => cases e1
end
end Pk
namespace Pk
open PySem PySem.Spec PyProof.Rows L2

/-- the promise of a def that is worth g -/
def spOf (K : PySem.W.Frag) (mg : Str → Option Value) (n : Nat) (g : List D → M D) : Sp := fun vs H Q E => vs.length = n ∧ ∃ S F m ds, HI K S H F m ∧ RVs K F m ds vs ∧ match g ds S with
  | .ok d S' => ∀ v H' F' m', HI K S' H' F' m' → Step H F m H' F' m' → RV K F' m' d v → Q v H'
  | .exc x S' => ∀ cls dd H' F' m', HI K S' H' F' m' → Step H F m H' F' m' → XR mg H' F' m' x cls dd → E cls dd H'
  | .no => False
section
variable {X : Cx} {G : Gb} {a : Expr} {es : List Expr} {fa : Ex} {pos p : Pos}
theorem RVs.snoc {K : PySem.W.Frag} {F : Hp} {m : List Addr} : ∀ {l : List D} {xs : List V} {ds : List D} {vs : List V}, RVs K F m l xs → RVs K F m ds vs → RVs K F m (l ++ ds) (xs ++ vs) := fun h h' => RVs.append h h'
/-- f(a, ..): dfl, dvs the defaults of the parameters that are left out -/
theorem se_call {k : Nat} {f : Addr} {fd : FuncData} {ps : List Str} {x : Str} {g : List D → M D} {ffs : List Ex} {dfl : List D} {dvs : List V} {ds : List Value} (hK : X.K = G.K) (hM : X.mg = G.mg) (Fn : FnOk X.prog X.w X.K X.mg X.base (L2.CX X.prog X.w) k f fd ps (spOf X.K X.mg ps.length g)) (hr : Room k X.A) (hg : Gl X x) (hm : X.mg x = some (.ref f)) (hk : PySem.W.keepIn X.K (.ref f) = true)
    (hb : Binds X.K fd ps ds) (hd : Vals dvs ds) (hdv : ∀ F m, RVs X.K F m dfl dvs) (tk : Takes X G.W) (hdb : (x == ("__debug__" : Str)) = false) (hp : plainArg a = true) (hps : ∀ e ∈ es, plainArg e = true) (hlen : (a :: es).length + dvs.length = ps.length) (hff : ffs.length = (a :: es).length) (ha : PA X (a :: es) (taOf G (eArgs ffs))) :
    PE X (.Call (.Name x p) (a :: es) [] pos) (tOf G (eCall (fun l => g (l ++ dfl)) ffs)) := by
  have hbk : (backTo pos (starEach es X.env)).any (·.1) = false := by
    clear hlen hff ha
    induction es with
    | nil => rfl
    | cons e es ih =>
      have h1 := hps e List.mem_cons_self
      have h2 := ih fun e' h' => hps e' (List.mem_cons_of_mem _ h')
      unfold backTo at h2 ⊢
      rw [star_cons h1]
      simp only [List.map_cons, List.any_cons, Bool.or_eq_false_iff]
      exact ⟨trivial, h2⟩
  refine PE.imp (pe_callSD (E := fun σ => WE G.W σ) Fn hr hg hm hk hb hd (fun σ => passAt tk σ) ha hdb (star_cons hp _ _) hbk) fun σ H Q h => ?_
  have eLen : ∀ (fs : List Ex) (r : Env) (S : Store) l S', eArgs fs r S = .ok l S' → l.length = fs.length := by
    intro fs
    induction fs with
    | nil => intro r S l S' e; cases e; rfl
    | cons f fs ih =>
      intro r S l S' e
      unfold eArgs at e
      cases e1 : f r S with
      | ok d S1 =>
        rw [e1] at e
        simp only [Out.bind] at e
        cases e2 : eArgs fs r S1 with
        | ok ds S2 => rw [e2] at e; simp only at e; cases e; simp [ih _ _ _ _ e2]
        | exc x S2 => rw [e2] at e; cases e
        | no => rw [e2] at e; cases e
      | exc x S1 => rw [e1] at e; cases e
      | no => rw [e1] at e; cases e
  obtain ⟨Z, r, S, F, m, I, h⟩ := h
  refine ⟨Z, r, S, F, m, I, ?_⟩
  have h := post_bind h
  cases ea : eArgs ffs r S with
  | exc x S1 => rw [ea] at h; exact h
  | no => rw [ea] at h; exact h
  | ok l S1 =>
    rw [ea] at h
    intro vs H1 F1 m1 hi1 st1 rv1
    have hl := eLen _ _ _ _ _ ea
    have hl2 := rv1.length
    refine ⟨by rw [List.length_append]; omega, S1, F1, m1, l ++ dfl, ?_, ?_, ?_⟩
    · rw [hK]; exact hi1
    · rw [hK]; exact rv1.append (by rw [← hK]; exact hdv _ _)
    · have h : post G σ H F m (g (l ++ dfl) S1) _ := h
      cases eg : g (l ++ dfl) S1 with
      | ok d S2 =>
        rw [eg] at h
        intro v H2 F2 m2 hi2 st2 rv2
        rw [hK] at hi2 rv2
        exact h v H2 F2 m2 hi2 (st1.trans st2) rv2
      | exc x S2 =>
        rw [eg] at h
        intro cls dd H2 F2 m2 hi2 st2 xr
        rw [hK] at hi2
        rw [hM] at xr
        exact h cls dd H2 F2 m2 hi2 (st1.trans st2) xr
      | no => rw [eg] at h; exact h
end
/-! ### a def by its body -/
theorem start_fi {K : PySem.W.Frag} {S : Store} {H F : Hp} {m : List Addr} {ds : List D} {vs : List V} {N : List Str} (hi : HI K S H F m) (rv : RVs K F m ds vs) (hN : ds.length ≤ N.length) : FI K ⟨H, F, m⟩ (L2.start N vs) (ds.map Slot.val ++ List.replicate (N.length - ds.length) Slot.emp) S H F m := by
  have hl := rv.length
  have nm : ∀ (i : Nat) s, (ds.map Slot.val ++ List.replicate (N.length - ds.length) Slot.emp)[i]? = some s → s.mine = false := fun i s h => by
    have := List.mem_iff_getElem?.mpr ⟨i, h⟩
    rcases List.mem_append.mp this with h | h
    · obtain ⟨d, _, rfl⟩ := List.mem_map.mp h; rfl
    · rw [(List.mem_replicate.mp h).2]; rfl
  refine ⟨hi, ⟨?_, fun i d h => ?_, fun i l h => ?_, fun i t l h => ?_, fun i s a h hs => ?_, fun i j s t a h1 h2 hs => ?_⟩, Step.refl _ _ _, fun i s a h hs => ?_⟩
  · unfold L2.start
    simp [hl]
  · by_cases hlt : i < ds.length
    · rw [List.getElem?_append_left (by simpa using hlt), List.getElem?_map] at h
      cases e : ds[i]? with
      | none => rw [e] at h; cases h
      | some d' =>
        rw [e] at h
        cases h
        obtain ⟨v, e1, e2⟩ := rv.get e
        refine ⟨v, ?_, e2⟩
        unfold L2.start
        rw [List.getElem?_append_left (by rw [List.length_map]; omega), List.getElem?_map, e1]; rfl
    · rw [List.getElem?_append_right (by simpa using hlt)] at h
      have := List.mem_iff_getElem?.mpr ⟨_, h⟩
      have := (List.mem_replicate.mp this).2
      cases this
  · have := nm i _ h; cases this
  · have := nm i _ h; cases this
  · have := nm i _ h; rw [hs] at this; cases this
  · have := nm i _ h1; rw [hs] at this; cases this
  · have := nm i _ h; rw [hs] at this; cases this
section
variable {P : Program} {w : World} {K : PySem.W.Frag} {mg : Str → Option Value} {base : Heap}
/-- what a def's body is walked with -/
abbrev gbOf (K : PySem.W.Frag) (mg : Str → Option Value) (E : XK) : Gb := ⟨K, mg, fun cls d _ H => E cls d H⟩
theorem fn_sound {x qual : Str} {st : Stmt} {f : Addr} {fd : FuncData} {N ps : List Str} {k : Nat} {b : Sx} (Fn : Fun K x qual st f fd) (Sc : FnScope N ps (defScope st)) (hN : ps.length ≤ N.length)
    (hb : ∀ (cdv : Value) (A : Around) (outer : List PySem.Env) (s : Shared) (H : Hp) (E : XK), Room k (A.deeper (envOfC qual (defScope st) s.heap.objs.size f cdv)) →
      PSs (cxOf (L2.CX P w) P w K mg base N qual (defScope st) f cdv A outer s H E) (defBody st) (tsOf (gbOf K mg E) b)) :
    FnOk P w K mg base (L2.CX P w) (k + 1) f fd ps (spOf K mg ps.length (fnOf N.length ps.length b)) := by
  refine Fn.okX Sc (fun vs H Q E h => h.1) (fun cdv A outer s H vs Q E hr h => ?_)
  refine ⟨_, hb cdv A outer s H E hr, ?_⟩
  obtain ⟨hl, S, F, m, ds, hi, rv, h⟩ := h
  have hl2 := rv.length
  refine ⟨⟨H, F, m⟩, _, S, F, m, start_fi hi rv (by omega), ?_⟩
  unfold fnOf at h
  rw [if_pos (by omega)] at h
  rw [show N.length - ds.length = N.length - ps.length by omega]
  cases e : b (ds.map Slot.val ++ List.replicate (N.length - ps.length) Slot.emp) S with
  | nx r' S' =>
    rw [e] at h
    exact fun σ' H' F' m' I' _ => h _ H' F' m' I'.hi I'.es (by simp [RV])
  | rt d S' => rw [e] at h; exact fun v H' F' m' hi' st' rv' => h v H' F' m' hi' st' rv'
  | bk r' S' => rw [e] at h; exact h.elim
  | ct r' S' => rw [e] at h; exact h.elim
  | exc x S' => rw [e] at h; exact fun cls dd σ' H' F' m' hi' st' xr => h cls dd H' F' m' hi' st' xr
  | no => rw [e] at h; exact h.elim
/-- the law's own end -/
theorem law_sp {n : Nat} {g : List D → M D} {H : Hp} {a : Addr} {ns : List Int} (hO : Only H) (hS : SqL K H a (ns.map V.int)) (hl : ns.length ≤ sizeLine) (hg : ∃ S', g [.lst (ns.map D.int)] [] = .ok (.bl true) S') :
    spOf K mg 1 g [.ref a] H (fun v _ => v = .bl true) (fun _ _ _ => False) := by
  obtain ⟨S', hg⟩ := hg
  have rvi : ∀ (l : List Int), RVs K H [] (l.map D.int) (l.map V.int) := by
    intro l
    induction l with
    | nil => simp [RVs]
    | cons n l ih => simp only [List.map_cons, RVs]; exact ⟨_, _, rfl, by simp [RV], ih⟩
  refine ⟨rfl, [], H, [], [.lst (ns.map D.int)], ⟨Same.refl H, rfl, List.nodup_nil, fun n c a e => by simp at e, fun a h => by cases h⟩, ?_, ?_⟩
  · simp only [RVs]
    refine ⟨_, [], rfl, ?_, rfl⟩
    unfold RV
    exact ⟨by simpa using hl, a, _, rfl, hS, rvi ns⟩
  · rw [hg]
    intro v H' F' m' hi st rv
    simpa [RV] using rv
end
end Pk
namespace Pk
open PySem PySem.Spec PyProof.Rows L2
section
variable {K : PySem.W.Frag} {Z : Zn} {σ : St} {r : Env} {S S' : Store} {H F H' F' : Hp} {m m' : List Addr}
theorem nd_ne {m : List Addr} (h : m.Nodup) {i j : Nat} {a : Addr} (h1 : m[i]? = some a) (h2 : m[j]? = some a) : i = j := by
  obtain ⟨l1, e1⟩ := List.getElem?_eq_some_iff.mp h1
  obtain ⟨l2, e2⟩ := List.getElem?_eq_some_iff.mp h2
  by_cases hij : i = j
  · exact hij
  · exfalso
    have hp := List.pairwise_iff_getElem.mp h
    rcases Nat.lt_or_gt_of_ne hij with q | q
    · exact hp i j l1 l2 q (e1.trans e2.symm)
    · exact hp j i l2 l1 q (e2.trans e1.symm)
/-- a shared list is changed -/
theorem HI.setC (I : HI K S H F m) {n : Nat} {a : Addr} {l : List D} {xs : List V} (ha : m[n]? = some a) (hz : l.length ≤ sizeLine) (rv : RVs K F m l xs) : HI K (S.set n (.lst l)) (upd H a (.lst xs)) F m ∧ Step H F m (upd H a (.lst xs)) F m := by
  have hm : a ∈ m := List.mem_iff_getElem?.mpr ⟨n, ha⟩
  have hF := I.mF a hm
  obtain ⟨c, hc, hcr⟩ := I.got ha
  obtain ⟨o, ho⟩ := hcr.tracked
  refine ⟨⟨sameU1 I.sub hF, by rw [List.length_set]; exact I.len, I.nd, fun k c' b e1 e2 => ?_, I.mF⟩, ⟨Same.refl F, fun b u h hb => by rw [upd_ne fun (z : b = a) => hb (by rw [z]; exact hm)]; exact h, fun b u h => .inl h, fun b h => .inl h, fun _ _ h => h, fun b h => ?_⟩⟩
  · by_cases hk : n = k
    · subst hk
      rw [ha] at e2; cases e2
      obtain ⟨hlt, _⟩ := List.getElem?_eq_some_iff.mp hc
      rw [List.getElem?_set_self hlt] at e1; cases e1
      exact ⟨hz, xs, upd_same, rv⟩
    · rw [List.getElem?_set_ne hk] at e1
      exact (I.cel k c' b e1 e2).mono (Same.refl F) (fun _ _ z => z) (upd_ne fun (z : b = a) => hk (nd_ne I.nd ha (by rw [← z]; exact e2)))
  · by_cases hb : b = a
    · subst hb; rw [upd_same] at h; cases h
    · rw [upd_ne hb] at h; exact h
/-- an object of the frame's own is changed -/
theorem FI.mutS (I : FI K Z σ r S H F m) {i : Nat} {s0 s1 : Slot} {a : Addr} {o : HO} (hi : r[i]? = some s0) (h0 : s0.mine = true) (h1 : s1.mine = true) (hs : σ[i]? = some (some (.ref a))) (hc : Cont K (upd H a o) F m s1 a) : FI K Z σ (r.set i s1) S (upd H a o) F m := by
  obtain ⟨hF, hm⟩ := I.si.free i _ a hi h0 hs
  have hz0 := I.fr i _ a hi h0 hs
  obtain ⟨hlt, _⟩ := List.getElem?_eq_some_iff.mp hi
  have key : ∀ (j : Nat) s, (r.set i s1)[j]? = some s → (j = i ∧ s = s1) ∨ (j ≠ i ∧ r[j]? = some s) := fun j s h => by
    by_cases hj : i = j
    · subst hj
      rw [List.getElem?_set_self hlt] at h
      exact .inl ⟨rfl, (Option.some.inj h).symm⟩
    · rw [List.getElem?_set_ne hj] at h
      exact .inr ⟨fun z => hj z.symm, h⟩
  have key2 : ∀ (j : Nat) s, (r.set i s1)[j]? = some s → s.mine = true → ∃ t, r[j]? = some t ∧ t.mine = true := fun j s h hs => by
    rcases key j s h with ⟨rfl, rfl⟩ | ⟨_, e⟩
    · exact ⟨_, hi, h0⟩
    · exact ⟨s, e, hs⟩
  refine ⟨I.hi.turn hF hm, ⟨by simp [I.si.len], fun j d h => ?_, fun j k h => ?_, fun j t k h => ?_, fun j s b h hs' e => ?_, fun j k s t b h1 h2 hs' ht e1 e2 => ?_⟩, I.es.turn hz0, fun j s b h hs' e => ?_⟩
  · rcases key j _ h with ⟨_, z⟩ | ⟨_, e⟩
    · rw [← z] at h1; cases h1
    · exact I.si.val j d e
  · rcases key j _ h with ⟨rfl, z⟩ | ⟨hj, e⟩
    · rw [← z] at hc
      obtain ⟨hz, xs, hx, rv⟩ := hc
      exact ⟨hz, a, xs, hs, hx, rv⟩
    · obtain ⟨z, b, ys, e1, e2, e3⟩ := I.si.own j k e
      refine ⟨z, b, ys, e1, ?_, e3⟩
      rw [upd_ne fun (z : b = a) => hj (I.si.inj j i _ _ a e hi rfl h0 (by rw [← z]; exact e1) hs)]
      exact e2
  · rcases key j _ h with ⟨rfl, z⟩ | ⟨hj, e⟩
    · rw [← z] at hc
      obtain ⟨hz, o', ks, hx, ho, rv⟩ := hc
      exact ⟨hz, a, o', ks, hs, hx, ho, rv⟩
    · obtain ⟨z, b, o', ks, e1, e2, e3, e4⟩ := I.si.ownd j t k e
      refine ⟨z, b, o', ks, e1, ?_, e3, e4⟩
      rw [upd_ne fun (z : b = a) => hj (I.si.inj j i _ _ a e hi rfl h0 (by rw [← z]; exact e1) hs)]
      exact e2
  · obtain ⟨t, h1, h2⟩ := key2 j s h hs'
    exact I.si.free j t b h1 h2 e
  · obtain ⟨t1, q1, q2⟩ := key2 j s h1 hs'
    obtain ⟨t2, q3, q4⟩ := key2 k t h2 ht
    exact I.si.inj j k t1 t2 b q1 q3 q2 q4 e1 e2
  · obtain ⟨t, h1, h2⟩ := key2 j s h hs'
    exact I.fr j t b h1 h2 e
/-- a list of the frame's own is changed -/
theorem FI.mutO (I : FI K Z σ r S H F m) {i : Nat} {l l' : List D} {a : Addr} {xs : List V} (hi : r[i]? = some (.own l)) (hs : σ[i]? = some (some (.ref a))) (hz : l'.length ≤ sizeLine) (rv : RVs K F m l' xs) : FI K Z σ (r.set i (.own l')) S (upd H a (.lst xs)) F m :=
  I.mutS hi rfl rfl hs (show Cont K _ F m (.own l') a from ⟨hz, xs, upd_same, rv⟩)
/-- the object that a slot's list is -/
theorem FI.listAt (I : FI K Z σ r S H F m) {i : Nat} {l : List D} (h : listAt r i S = some l) : ∃ a xs, σ[i]? = some (some (.ref a)) ∧ H a = some (.lst xs) ∧ l.length ≤ sizeLine ∧ RVs K F m l xs ∧
    ∀ l' xs', l'.length ≤ sizeLine → RVs K F m l' xs' → ∃ r' S', putAt r i S l' = .nx r' S' ∧ FI K Z σ r' S' (upd H a (.lst xs')) F m := by
  unfold Pk.listAt at h
  split at h
  · rename_i l0 e
    cases h
    obtain ⟨z, a, xs, e1, e2, e3⟩ := I.si.own i l e
    refine ⟨a, xs, e1, e2, z, e3, fun l' xs' hz rv => ⟨r.set i (.own l'), S, ?_, I.mutO e e1 hz rv⟩⟩
    unfold putAt
    rw [e]
  · rename_i n e
    obtain ⟨v, e1, rv⟩ := I.si.val i _ e
    simp only [RV] at rv
    obtain ⟨a, rfl, ha⟩ := rv
    split at h
    · rename_i l0 hl
      cases h
      obtain ⟨z, xs, e2, e3⟩ := I.hi.cel n _ a hl ha
      refine ⟨a, xs, e1, e2, z, e3, fun l' xs' hz rv => ?_⟩
      obtain ⟨hi', st'⟩ := I.hi.setC ha hz rv
      refine ⟨r, S.set n (.lst l'), ?_, I.step hi' st'⟩
      unfold putAt
      rw [e]
    · cases h
  · cases h
end
/-! ### methods that change a list -/
def rMt (K : PySem.W.Frag) (p : Mt) : V → List V → Hp → VK → Prop := fun x vs H Q => ∃ F m l xs a ds d l', x = .ref a ∧ H a = some (.lst xs) ∧ RVs K F m l xs ∧ RVs K F m ds vs ∧ l.length ≤ sizeLine ∧ Same F H ∧ p l ds = some (d, l') ∧ ∀ v xs', l'.length ≤ sizeLine → RVs K F m l' xs' → RV K F m d v → Q v (upd H a (.lst xs'))
section
variable {X : Cx} {G : Gb} {es : List Expr} {e : Expr} {pos : Pos}
theorem MtR.imp {id : String} {t u : V → List V → Hp → VK → Prop} (h : MtR X id t) (q : ∀ x vs H Q, u x vs H Q → t x vs H Q) : MtR X id u := fun pins s σ H x xs v us Q I rx rs z => h pins s σ H x xs v us Q I rx rs (q _ _ _ _ z)
theorem m_append : MtR X "list.append" (rMt X.K mAppend) := MtR.imp mt_append fun x vs H Q ⟨F, m, l, xs, a, ds, d, l', e1, e2, rv, rd, hz, sm, e, q⟩ => by
  unfold mAppend at e
  split at e
  · split at e
    · rename_i d0 hlt
      cases e
      obtain ⟨v, rfl, h1⟩ := rvs1 rd
      have hl := rv.length
      refine ⟨a, xs, v, e1, rfl, e2, by omega, q _ _ (by simp; omega) (rv.append (RVs.one h1)) (by simp [RV])⟩
    · cases e
  · cases e
theorem m_insert : MtR X "list.insert" (rMt X.K mInsert) := MtR.imp mt_insert fun x vs H Q ⟨F, m, l, xs, a, ds, d, l', e1, e2, rv, rd, hz, sm, e, q⟩ => by
  unfold mInsert at e
  split at e
  · split at e
    · rename_i i d0 hlt
      have hlt := gd_iff.mp hlt
      cases e
      obtain ⟨v, w, rfl, h1, h2⟩ := rvs2 rd
      simp only [RV] at h1
      subst h1
      have hl := rv.length
      refine ⟨a, xs, i, w, e1, rfl, e2, by omega, hlt.2.1, hlt.2.2, q _ _ ?_ (((rv.take _).append (RVs.one h2)).append (rv.drop _)) (by simp [RV])⟩
      simp only [List.length_append, List.length_take, List.length_drop, List.length_singleton]
      omega
    · cases e
  · cases e
theorem RVs.erase {K : PySem.W.Frag} {F : Hp} {m : List Addr} : ∀ {l : List D} {xs : List V} (n : Nat), RVs K F m l xs → RVs K F m (l.eraseIdx n) (xs.eraseIdx n)
  | [], xs, n, h => by simp [RVs] at h; subst h; simp [RVs]
  | d :: l, xs, 0, h => by
    unfold RVs at h
    obtain ⟨y, ys, rfl, h1, h2⟩ := h
    exact h2
  | d :: l, xs, n + 1, h => by
    unfold RVs at h
    obtain ⟨y, ys, rfl, h1, h2⟩ := h
    simp only [List.eraseIdx_cons_succ]
    unfold RVs
    exact ⟨y, _, rfl, h1, RVs.erase n h2⟩
theorem seqIx_of {n : Nat} {i : Int} {j : Nat} (h : ixN n i = some j) : seqIndex? i n = some j := by
  have hj : j < (List.range n).length := by
    unfold ixN at h
    simp only [List.length_range]
    split at h
    · split at h
      · cases h; omega
      · cases h
    · split at h
      · cases h; omega
      · cases h
  have : atI (List.range n) i = some (List.range n)[j] := by
    unfold atI
    rw [List.length_range, h]
    exact List.getElem?_eq_getElem hj
  obtain ⟨k, h1, h2, _⟩ := atI_get this
  rw [List.length_range] at h1
  have hk := List.getElem?_eq_some_iff.mp h2
  obtain ⟨hk1, hk2⟩ := hk
  simp only [List.getElem_range] at hk2
  rw [h1, hk2]
theorem m_pop : MtR X "list.pop" (rMt X.K mPop) := MtR.imp mt_popAt fun x vs H Q ⟨F, m, l, xs, a, ds, d, l', e1, e2, rv, rd, hz, sm, e, q⟩ => by
  unfold mPop at e
  split at e
  · split at e
    · rename_i i hlt
      have hlt := gd_iff.mp hlt
      obtain ⟨v, rfl, h1⟩ := rvs1 rd
      simp only [RV] at h1
      subst h1
      cases ek : ixN l.length i with
      | none => rw [ek] at e; cases e
      | some k =>
        rw [ek] at e
        simp only [Option.bind_some] at e
        cases el : l[k]? with
        | none => rw [el] at e; cases e
        | some d0 =>
          rw [el] at e
          cases e
          obtain ⟨y, ey, ry⟩ := rv.get el
          refine ⟨a, xs, i, k, y, e1, rfl, e2, hlt.1, hlt.2, by rw [rv.length]; exact seqIx_of ek, ey, q _ _ ?_ (rv.erase k) ry⟩
          exact Nat.le_trans (len_erase _ _) hz
    · cases e
  · cases e
theorem RVs.dropLast {K : PySem.W.Frag} {F : Hp} {m : List Addr} {l : List D} {xs : List V} (h : RVs K F m l xs) : RVs K F m l.dropLast xs.dropLast := by
  rw [List.dropLast_eq_take, List.dropLast_eq_take, h.length]
  exact h.take _
theorem m_pop0 : MtR X "list.pop" (rMt X.K mPop0) := MtR.imp mt_pop fun x vs H Q ⟨F, m, l, xs, a, ds, d, l', e1, e2, rv, rd, hz, sm, e, q⟩ => by
  unfold mPop0 at e
  split at e
  · simp only [RVs] at rd
    subst rd
    cases el : l[l.length - 1]? with
    | none => rw [el] at e; cases e
    | some d0 =>
      rw [el] at e
      cases e
      obtain ⟨y, ey, ry⟩ := rv.get el
      refine ⟨a, xs, y, e1, rfl, e2, by rw [rv.length]; exact ey, q _ _ ?_ rv.dropLast ry⟩
      rw [List.length_dropLast]; omega
  · cases e
theorem m_reverse : MtR X "list.reverse" (rMt X.K mReverse) := MtR.imp mt_reverse fun x vs H Q ⟨F, m, l, xs, a, ds, d, l', e1, e2, rv, rd, hz, sm, e, q⟩ => by
  unfold mReverse at e
  split at e
  · cases e
    simp only [RVs] at rd
    subst rd
    exact ⟨a, xs, e1, rfl, e2, q _ _ (by simpa using hz) rv.reverse (by simp [RV])⟩
  · cases e
theorem m_clear : MtR X "list.clear" (rMt X.K mClear) := MtR.imp mt_clear fun x vs H Q ⟨F, m, l, xs, a, ds, d, l', e1, e2, rv, rd, hz, sm, e, q⟩ => by
  unfold mClear at e
  split at e
  · cases e
    simp only [RVs] at rd
    subst rd
    exact ⟨a, xs, e1, rfl, e2, q _ _ (Nat.zero_le _) (by simp [RVs]) (by simp [RV])⟩
  · cases e
theorem list_remove0 (l : Addr) (items : Array Value) (n : Nat) (x : Value) (hj : 0 < items.size) (hs1 : items.size ≤ sizeLine) :
    Meets (Builtin.«list.remove» ⟨[.ref l, x], []⟩)
      (fun A R s => s.heap.get? l = some { cls := .type "list", dict := none, data := .seq items n, slots := #[] } ∧ SeqAt.EqAt A.in1 s items[0] x true ∧ R (.ok (.ret .none)) { s with heap := s.heap.update l (Obj.mapSeq fun xs => xs.eraseIdxIfInBounds 0) }) := by
  intro prog w A R s h
  obtain ⟨hp, g, d, tk, os⟩ := s; obtain ⟨hl, he, h⟩ := h
  wp_walk using AutoSeq1.wpAny_loadPart' hl
  refine ⟨plainId_quiet MeetsSeq.plain_remove_loop _, codeAny_builtin MeetsSeq.entry_remove_loop ?_⟩
  rw [Around.under_plainId MeetsSeq.plain_remove_loop _]
  wp_walk using AutoSeq1.wpAny_loadPart' hl
  have hi : items[((0 : Int)).toNat]? = some items[0] := by simp [hj]
  rw [hi]
  refine wpAny_bind (he prog w _ _ ?_)
  have hz' : (items.eraseIdxIfInBounds 0).size ≤ sizeLine + 1 := Nat.le_trans (MeetsSeq.size_erased items _) (Nat.le_succ_of_le hs1)
  wp_walk using (wpAny_updateSeq hl rfl (hz := hs1) (_hz' := hz')), AutoSeq1.wpAny_loadPart' hl
  simpa using h
def rRem0 (K : PySem.W.Frag) : V → List V → Hp → VK → Prop := fun x vs H Q => ∃ l y xs z, x = .ref l ∧ vs = [z] ∧ H l = some (.lst (y :: xs)) ∧ Dp K H y (.tuple []) ∧ Dp K H z (.tuple []) ∧ Q .non (upd H l (.lst xs))
theorem mt_remove0 (hu : X.A.units + 65 < cLine) : MtR X "list.remove" (rRem0 X.K) := by
  intro pins s σ H x vs v us Q I rx rxs h
  obtain ⟨l, y, xs, z0, rfl, rfl, hH, dy, dz, q⟩ := h
  cases rx
  obtain ⟨u, rfl, ru⟩ := rxs.one
  obtain ⟨z, its, n, r, hl, e⟩ := I.lstM hH
  cases r with
  | cons ry r' =>
    rename_i uy its'
    obtain ⟨as, r1⟩ := Dp.reads I _ _ _ dy ry
    obtain ⟨bs, r2⟩ := Dp.reads I _ _ _ dz ru
    have hlen : (uy :: its').toArray.size ≤ sizeLine := by rw [List.size_toArray]; simp only [List.length_cons] at hl z ⊢; omega
    refine call_meets PySem.F.slot_list_remove ⟨_, e, rfl⟩ PySem.F.entry_list_remove (PySem.F.args_list_remove_2 _ _)
      (list_remove0 l (uy :: its').toArray n u (by simp) hlen) ⟨e, ?_, ?_⟩
    · have hd : min (PyData.depth (.tuple [])) (PyData.depth (.tuple [])) ≤ 2 := by decide
      have hu' : X.A.in1.units + min (PyData.depth (.tuple [])) (PyData.depth (.tuple [])) < cLine := by
        show X.A.units + 1 + min (PyData.depth (.tuple [])) (PyData.depth (.tuple [])) < cLine
        omega
      have := SeqAt.eqAt_reads (.tuple []) (.tuple []) X.A.in1 s uy u _ _ r1 r2 rfl rfl hu'
      exact this
    · refine ⟨.non, _, I.lset (its' := its') (t' := s.toks) hH e ?_ r' ?_, rfl, q⟩
      · show (uy :: its').toArray.eraseIdxIfInBounds 0 = its'.toArray
        rw [List.eraseIdxIfInBounds_toArray]; rfl
      · simp only [List.length_cons] at z
        omega
theorem dp_nil {K : PySem.W.Frag} {F H : Hp} {m : List Addr} {v : V} (sm : Same F H) (h : RV K F m (.tup []) v) : Dp K H v (.tuple []) := by
  have := (RV.dp sm (.tup []) v rfl h).1
  simpa only [py, pys] using this
theorem m_remove (hu : X.A.units + 65 < cLine) : MtR X "list.remove" (rMt X.K mRemove) := MtR.imp (mt_remove0 hu) fun x vs H Q ⟨F, m, l, xs, a, ds, d, l', e1, e2, rv, rd, hz, sm, e, q⟩ => by
  unfold mRemove at e
  split at e
  · cases e
    obtain ⟨v, rfl, h1⟩ := rvs1 rd
    unfold RVs at rv
    obtain ⟨y, ys, rfl, h2, h3⟩ := rv
    refine ⟨a, y, ys, v, e1, rfl, e2, dp_nil sm h2, dp_nil sm h1, q _ _ (by simp only [List.length_cons] at hz; omega) h3 (by simp [RV])⟩
  · cases e
theorem few_of (cpos : Pos) (env : PySem.Env) {es : List Expr} (h : ∀ e ∈ es, plainArg e = true) (hn : es.length < 30) : ((backTo cpos (starEach es env)).all (fun x => !x.1) && (backToKw cpos (keywordEach [] env)).all (fun x => x.1.isSome)
      && decide (es.length + ([] : List Keyword).length + (if ([] : List Keyword).isEmpty then 0 else 1) < 30)) = true := by
  have h1 : (backTo cpos (starEach es env)).all (fun x => !x.1) = true := by
    clear hn
    induction es with
    | nil => rfl
    | cons e es ih =>
      have := ih fun e' h' => h e' (List.mem_cons_of_mem _ h')
      unfold backTo at this ⊢
      rw [star_cons (h e List.mem_cons_self)]
      simp only [List.map_cons, List.all_cons, Bool.and_eq_true]
      exact ⟨rfl, this⟩
  rw [h1]
  simp [backToKw, keywordEach]
  exact hn
theorem any_of (cpos : Pos) (env : PySem.Env) {es : List Expr} (h : ∀ e ∈ es, plainArg e = true) : (backTo cpos (starEach es env)).any (·.1) = false := by
  induction es with
  | nil => rfl
  | cons e es ih =>
    have := ih fun e' h' => h e' (List.mem_cons_of_mem _ h')
    unfold backTo at this ⊢
    rw [star_cons (h e List.mem_cons_self)]
    simp only [List.map_cons, List.any_cons, Bool.or_eq_false_iff]
    exact ⟨trivial, this⟩
/-- x.m(e, ..) -/
theorem ss_mt {id : String} {name : Str} {p : Mt} {i : Nat} {x : Str} {p1 apos cpos : Pos} {ffs : List Ex} (hK : X.K = G.K) (slot : PySem.Slot "list" name id) (hty : typeOf (.builtin id) = pure (.type "method_descriptor")) (hm : MtR X id (rMt X.K p)) (hN : X.N[i]? = some x) (hv : Vis X.env.scope x) (hd : (x == ("__debug__" : Str)) = false) (hcd : (x == ("__classdict__" : Str)) = false)
    (hps : ∀ e' ∈ e :: es, plainArg e' = true) (hn : (e :: es).length < 30) (hline : (apos.endLine == cpos.line) = true) (ha : PA X (e :: es) (taOf G (eArgs ffs))) : PS X (.Expr (.Call (.Attribute (.Name x p1) name apos) (e :: es) [] cpos) pos) (tsOf G (sMt i p ffs)) :=
  PS.imp (ps_expr (pe_bm PySem.F.plainAttrs_list slot hty hm (pe_var hN hv hd hcd) ha rfl (few_of cpos _ hps hn) hline (star_cons (hps e List.mem_cons_self) _ _) (any_of cpos _ fun e' h' => hps e' (List.mem_cons_of_mem _ h'))) rfl) fun D σ H h => by
    obtain ⟨Z, r, S, F, m, I, h⟩ := h
    unfold sMt at h
    cases el : listAt r i S with
    | none => simp only [el] at h; exact h.elim
    | some l =>
      simp only [el] at h
      obtain ⟨a, xs, e1, e2, z, rv, _⟩ := I.listAt el
      refine ⟨.ref a, e1, .inl ⟨rfl, xs, .inl (.inl e2)⟩, Z, r, S, F, m, I, post_mono (so_post I h) fun ds S1 h1 vs H1 F1 m1 hi1 st1 rv1 => ?_⟩
      have I1 := I.step hi1 st1
      cases el1 : listAt r i S1 with
      | none => simp only [el1] at h1; exact h1.elim
      | some l1 =>
        obtain ⟨a1, xs1, f1, f2, z1, rv2, put⟩ := I1.listAt el1
        rw [e1] at f1
        cases f1
        simp only [el1, Option.bind_some] at h1
        cases ep : p l1 ds with
        | none => simp only [ep] at h1; exact h1.elim
        | some dl =>
          obtain ⟨d, l'⟩ := dl
          simp only [ep] at h1
          refine ⟨F1, m1, l1, xs1, a, ds, d, l', rfl, f2, by rw [hK]; exact rv2, by rw [hK]; exact rv1, z1, I1.hi.sub, ep, fun v xs' hz' rv' _ => ?_⟩
          rw [hK] at rv'
          obtain ⟨r', S', ep', I'⟩ := put l' xs' hz' rv'
          rw [ep'] at h1
          exact h1 σ _ F1 m1 I' st1.later
/-- x.m() -/
theorem ss_mt0 {id : String} {name : Str} {p : Mt} {i : Nat} {x : Str} {p1 apos cpos : Pos} (hK : X.K = G.K) (slot : PySem.Slot "list" name id) (hty : typeOf (.builtin id) = pure (.type "method_descriptor")) (hm : MtR X id (rMt X.K p)) (hN : X.N[i]? = some x) (hv : Vis X.env.scope x) (hd : (x == ("__debug__" : Str)) = false) (hcd : (x == ("__classdict__" : Str)) = false)
    (hline : (apos.endLine == cpos.line) = true) : PS X (.Expr (.Call (.Attribute (.Name x p1) name apos) [] [] cpos) pos) (tsOf G (sMt i p [])) :=
  PS.imp (ps_expr (pe_bm0 PySem.F.plainAttrs_list slot hty hm (pe_var hN hv hd hcd) rfl hline) rfl) fun D σ H h => by
    obtain ⟨Z, r, S, F, m, I, h⟩ := h
    unfold sMt at h
    cases el : listAt r i S with
    | none => simp only [el] at h; exact h.elim
    | some l =>
      simp only [el, eArgs, Out.so, Option.bind_some] at h
      obtain ⟨a, xs, e1, e2, z, rv, put⟩ := I.listAt el
      refine ⟨.ref a, e1, .inl ⟨rfl, xs, .inl (.inl e2)⟩, ?_⟩
      cases ep : p l [] with
      | none => simp only [ep] at h; exact h.elim
      | some dl =>
        obtain ⟨d, l'⟩ := dl
        simp only [ep] at h
        refine ⟨F, m, l, xs, a, [], d, l', rfl, e2, by rw [hK]; exact rv, by simp [RVs], z, I.hi.sub, ep, fun v xs' hz' rv' _ => ?_⟩
        rw [hK] at rv'
        obtain ⟨r', S', ep', I'⟩ := put l' xs' hz' rv'
        rw [ep'] at h
        exact h σ _ F m I' (Later.refl _ _)
/-- .. as a value, of a shared list -/
theorem se_mt {id : String} {name : Str} {p : Mt} {o : Expr} {fo : Ex} {apos cpos : Pos} {ffs : List Ex} (hK : X.K = G.K) (slot : PySem.Slot "list" name id) (hty : typeOf (.builtin id) = pure (.type "method_descriptor")) (hm : MtR X id (rMt X.K p)) (ho : PE X o (tOf G fo)) (hbase : attributeBase o name X.env (eval o X.env) = eval o X.env)
    (hps : ∀ e' ∈ e :: es, plainArg e' = true) (hn : (e :: es).length < 30) (hline : (apos.endLine == cpos.line) = true) (ha : PA X (e :: es) (taOf G (eArgs ffs))) : PE X (.Call (.Attribute o name apos) (e :: es) [] cpos) (tOf G (eMt fo p ffs)) :=
  PE.imp (pe_bm PySem.F.plainAttrs_list slot hty hm ho ha hbase (few_of cpos _ hps hn) hline (star_cons (hps e List.mem_cons_self) _ _) (any_of cpos _ fun e' h' => hps e' (List.mem_cons_of_mem _ h'))) fun σ H Q h => by
    obtain ⟨Z, r, S, F, m, I, h⟩ := h
    refine ⟨Z, r, S, F, m, I, post_mono (post_bind h) fun d S1 h1 v H1 F1 m1 hi1 st1 rv1 => ?_⟩
    have I1 := I.step hi1 st1
    cases d with
    | ref n =>
      simp only [RV] at rv1
      obtain ⟨a, rfl, ha⟩ := rv1
      obtain ⟨c, hc, hcr⟩ := hi1.got ha
      simp only [hc] at h1
      cases c with
      | lst l =>
        obtain ⟨z, xs, e1, e2⟩ := hcr
        refine ⟨.inl ⟨rfl, xs, .inl (.inl e1)⟩, Z, r, S1, F1, m1, I1, post_imp (post_bind h1) st1 fun ds S2 h2 vs H2 F2 m2 hi2 st2 rv2 => ?_⟩
        have ha2 := st2.pre n a ha
        obtain ⟨c2, hc2, hcr2⟩ := hi2.got ha2
        simp only [hc2] at h2
        cases c2 with
        | lst l2 =>
          obtain ⟨z2, xs2, f1, f2⟩ := hcr2
          cases ep : p l2 ds with
          | none => simp only [ep] at h2; exact h2.elim
          | some dl =>
            obtain ⟨d, l'⟩ := dl
            simp only [ep] at h2
            refine ⟨F2, m2, l2, xs2, a, ds, d, l', rfl, f1, by rw [hK]; exact f2, by rw [hK]; exact rv2, z2, hi2.sub, ep, fun v xs' hz' rv' rd => ?_⟩
            rw [hK] at rv' rd
            obtain ⟨hi3, st3⟩ := hi2.setC ha2 hz' rv'
            exact h2 v _ F2 m2 hi3 ((st1.trans st2).trans st3) rd
        | dct t l => exact h2.elim
        | obj c fs => exact h2.elim
      | dct t l => exact h1.elim
      | obj c fs => exact h1.elim
    | _ => exact h1.elim
/-! ### x[i] = e, x[i] op= e, x op= e -/
theorem assign_sub {o i' : Expr} {p2 : Pos} (hp : plainIx i' = true) (env : PySem.Env) (v : Value) : assign (.Subscript o i' p2) env v = (do
    let ov ← holding [v] (eval o env)
    let iv ← holding [v, ov] (eval i' env)
    standAt p2
    holding [v, ov, iv] (setItem ov iv v)
    release [v, ov, iv] []) := by
  cases i' <;> first | rfl | cases hp
theorem ss_put {a i' : Expr} {i : Nat} {x : Str} {p1 p2 : Pos} {fi fe : Ex} (hN : X.N[i]? = some x) (hv : Vis X.env.scope x) (hd : (x == ("__debug__" : Str)) = false) (hcd : (x == ("__classdict__" : Str)) = false) (hpx : plainIx i' = true) (hi : PE X i' (tOf G fi)) (he : PE X a (tOf G fe)) (hs : swapsWithSole [.Subscript (.Name x p1) i' p2] a pos.line X.env = pure false) (hw : swappedStores [.Subscript (.Name x p1) i' p2] a X.env = pure none) :
    PS X (.Assign [.Subscript (.Name x p1) i' p2] a pos) (tsOf G (sPut i fi fe)) :=
  PS.imp (ps_asg he (pg_sub (pe_var hN hv hd hcd) hi set_list (assign_sub hpx _)) hs hw rfl) fun D σ H h => by
    obtain ⟨Z, r, S, F, m, I, h⟩ := h
    refine ⟨Z, r, S, F, m, I, post_mono (so_post I h) fun d S1 h1 v H1 F1 m1 hi1 st1 rv1 => ?_⟩
    have I1 := I.step hi1 st1
    cases el : listAt r i S1 with
    | none => simp only [el] at h1; exact h1.elim
    | some l =>
      simp only [el] at h1
      obtain ⟨a, xs, e1, e2, z, rv, _⟩ := I1.listAt el
      refine ⟨.ref a, e1, Z, r, S1, F1, m1, I1, post_mono (so_post I1 (spost_later h1 st1.later)) fun k S2 h2 u H2 F2 m2 hi2 st2 rv2 => ?_⟩
      have I2 := I1.step hi2 st2
      cases el2 : listAt r i S2 with
      | none => simp only [el2] at h2; exact h2.elim
      | some l2 =>
        obtain ⟨a2, xs2, f1, f2, z2, rv3, put⟩ := I2.listAt el2
        rw [e1] at f1
        cases f1
        simp only [el2, Option.bind_some] at h2
        cases k with
        | int k =>
          simp only [RV] at rv2
          subst rv2
          simp only [setAtI] at h2
          cases ej : ixN l2.length k with
          | none => simp only [ej] at h2; exact h2.elim
          | some j =>
            simp only [ej, Option.map_some] at h2
            obtain ⟨r', S', ep', I'⟩ := put (l2.set j d) (xs2.set j v) (by simpa using z2) (rv3.set j (rv1.step st2))
            rw [ep'] at h2
            exact ⟨a, xs2, k, j, rfl, rfl, f2, by rw [rv3.length]; exact ej, h2 σ _ F2 m2 I' st2.later⟩
        | _ => simp only [setAtI] at h2; exact h2.elim
/-- xs[k], by values -/
theorem get_list : PGet X (fun o i H Q => ∃ p xs k v, o = .ref p ∧ i = .int k ∧ SqL X.K H p xs ∧ atI xs k = some v ∧ Q v H) := by
  intro pins s σ H o i ov iv Q I ro ri h
  obtain ⟨p, xs, k, v, rfl, rfl, hs, hv, q⟩ := h
  cases ro
  obtain ⟨t, rfl⟩ := ri
  obtain ⟨its, rv, pl, hz⟩ := I.list hs
  obtain ⟨j, h1, h2, h3, h4, h5⟩ := atI_get hv
  obtain ⟨u, hu, ru⟩ := rv.get h2
  have hl := rv.length
  have hn := line63
  by_cases h0 : 0 ≤ k
  · have hk : k.toNat = j := by
      rw [seqIndex_of h0 h5] at h1
      exact Option.some.inj h1
    exact wpAny_getItem_list pl.isList h0 (by omega) (by rw [hk]; simpa using hu) ⟨v, H, I, ru, q⟩
  · have hj : (k + (its.toArray.size : Int)).toNat = j := by
      rw [seqIndex_neg (by omega) h4] at h1
      rw [List.size_toArray, ← hl]
      exact Option.some.inj h1
    exact wpAny_getItem_list_neg pl.isList (by omega) (by rw [List.size_toArray] <;> omega) (by omega) (by rw [hj]; simpa using hu) ⟨v, H, I, ru, q⟩
def rIpV (K : PySem.W.Frag) (p : D → D → Option D) : TIp := fun x y H Q => ∃ F m a b d, RV K F m a x ∧ RV K F m b y ∧ p a b = some d ∧ ∀ v, RV K F m d v → Q v H
theorem ip_V {op : Operator} (h : op = .Add ∨ op = .Sub ∨ op = .FloorDiv) : PIp X op (rIpV X.K (oIp op)) := by
  intro pins s σ H x y v u Q I r1 r2 hh
  obtain ⟨F, m, a, b, d, ra, rb, e, q⟩ := hh
  unfold oIp at e
  split at e
  · cases e
    simp only [RV] at ra rb
    subst ra rb
    exact ip_add pins s σ H _ _ v u Q I r1 r2 ⟨_, _, rfl, rfl, q _ (by simp [RV])⟩
  · cases e
    simp only [RV] at ra rb
    subst ra rb
    exact ip_sub pins s σ H _ _ v u Q I r1 r2 ⟨_, _, rfl, rfl, q _ (by simp [RV])⟩
  · split at e
    · rename_i i j hz
      cases e
      simp only [RV] at ra rb
      subst ra rb
      obtain ⟨t, rfl⟩ := r1
      obtain ⟨t', rfl⟩ := r2
      refine ifloordiv_int (by omega) ?_ (.inl (PyProof.noPylong_small (by omega)))
      rw [Int.fdiv_eq_ediv_of_nonneg i (by omega)]
      exact ⟨.int _, H, I.tok _, ⟨_, rfl⟩, q _ (by simp [RV])⟩
    · cases e
  · cases e
theorem aug_store {i' : Expr} (hp : plainIx i' = true) (ov iv new : Value) : augStore i' ov iv new = (do holding [new, ov, iv] (setItem ov iv new); release [new, ov, iv] []; pure .next) := by
  cases i' <;> first | rfl | cases hp
theorem ss_augix {a i' : Expr} {i : Nat} {x : Str} {p1 p2 : Pos} {fi fe : Ex} {op : Operator} (hK : X.K = G.K) (hop : op = .Add ∨ op = .Sub ∨ op = .FloorDiv) (hN : X.N[i]? = some x) (hv : Vis X.env.scope x) (hd : (x == ("__debug__" : Str)) = false) (hcd : (x == ("__classdict__" : Str)) = false) (hpx : plainIx i' = true) (hi : PE X i' (tOf G fi)) (he : PE X a (tOf G fe)) :
    PS X (.AugAssign (.Subscript (.Name x p1) i' p2) op a pos) (tsOf G (sAugIx i fi op fe)) :=
  PS.imp (ps_augS (pe_var hN hv hd hcd) hi get_list he (ip_V hop) set_list (aug_store hpx)) fun D σ H h => by
    obtain ⟨Z, r, S, F, m, I, h⟩ := h
    unfold sAugIx at h
    cases el : listAt r i S with
    | none => simp only [el] at h; exact h.elim
    | some l =>
      simp only [el] at h
      obtain ⟨a, xs, e1, e2, z, rv, _⟩ := I.listAt el
      refine ⟨.ref a, e1, Z, r, S, F, m, I, post_mono (so_post I h) fun k S1 h1 u H1 F1 m1 hi1 st1 rv1 => ?_⟩
      have I1 := I.step hi1 st1
      cases el1 : listAt r i S1 with
      | none => simp only [el1] at h1; exact h1.elim
      | some l1 =>
        obtain ⟨a1, xs1, f1, f2, z1, rv2, _⟩ := I1.listAt el1
        rw [e1] at f1
        cases f1
        simp only [el1, Option.bind_some] at h1
        cases k with
        | int k =>
          simp only [RV] at rv1
          subst rv1
          simp only [getAtI] at h1
          cases ea : atI l1 k with
          | none => simp only [ea] at h1; exact h1.elim
          | some x0 =>
            simp only [ea] at h1
            obtain ⟨vx, ev, rx⟩ := atI_rv rv2 ea
            refine ⟨a, xs1, k, vx, rfl, rfl, .inl (.inl f2), ev, Z, r, S1, F1, m1, I1, post_mono (so_post I1 (spost_later h1 st1.later)) fun y S2 h2 w H2 F2 m2 hi2 st2 rv3 => ?_⟩
            have I2 := I1.step hi2 st2
            cases el2 : listAt r i S2 with
            | none => simp only [el2] at h2; exact h2.elim
            | some l2 =>
              obtain ⟨a2, xs2, g1, g2, z2, rv4, put⟩ := I2.listAt el2
              rw [e1] at g1
              cases g1
              simp only [el2, Option.bind_some] at h2
              cases ez : oIp op x0 y with
              | none => simp only [ez] at h2; exact h2.elim
              | some z0 =>
                simp only [ez, Option.bind_some, setAtI] at h2
                refine ⟨F2, m2, x0, y, z0, by rw [hK]; exact rx.step st2, by rw [hK]; exact rv3, ez, fun vz rz => ?_⟩
                rw [hK] at rz
                cases ej : ixN l2.length k with
                | none => simp only [ej] at h2; exact h2.elim
                | some j =>
                  simp only [ej, Option.map_some] at h2
                  obtain ⟨r', S', ep', I'⟩ := put (l2.set j z0) (xs2.set j vz) (by simpa using z2) (rv4.set j rz)
                  rw [ep'] at h2
                  exact ⟨a, xs2, k, j, rfl, rfl, g2, by rw [rv4.length]; exact ej, h2 σ _ F2 m2 I' st2.later⟩
        | _ => simp only [getAtI] at h1; exact h1.elim
theorem ss_aug {a : Expr} {i : Nat} {x : Str} {p1 : Pos} {fe : Ex} {op : Operator} (hK : X.K = G.K) (hop : op = .Add ∨ op = .Sub ∨ op = .FloorDiv) (hNd : X.N.Nodup) (hN : X.N[i]? = some x) (hx : Loc X.env.scope x) (hf : X.fn x = true ∨ X.env.scope.names.lookup x = some .local) (he : PE X a (tOf G fe)) :
    PS X (.AugAssign (.Name x p1) op a pos) (tsOf G (sAug i op fe)) :=
  PS.imp (ps_aug hNd hN hx he (ip_V hop) hf) fun D σ H h => by
    obtain ⟨Z, r, S, F, m, I, h⟩ := h
    unfold sAug at h
    split at h
    · rename_i x0 e
      obtain ⟨v, e1, rv⟩ := I.si.val i _ e
      refine ⟨v, e1, Z, r, S, F, m, I, post_mono (so_post I h) fun y S1 h1 u H1 F1 m1 hi1 st1 rv1 => ?_⟩
      cases ez : oIp op x0 y with
      | none => simp only [ez] at h1; exact h1.elim
      | some z0 =>
        simp only [ez] at h1
        refine ⟨F1, m1, x0, y, z0, by rw [hK]; exact rv.step st1, by rw [hK]; exact rv1, ez, fun vz rz => ?_⟩
        rw [hK] at rz
        exact h1 _ H1 F1 m1 ((I.step hi1 st1).put rz i) st1.later
    · exact h.elim
theorem ss_ext {a : Expr} {i : Nat} {x : Str} {p1 : Pos} {fl : Lx} (hNd : X.N.Nodup) (hN : X.N[i]? = some x) (hx : Loc X.env.scope x) (hf : X.fn x = true ∨ X.env.scope.names.lookup x = some .local) (he : PE X a (tlOf G fl)) :
    PS X (.AugAssign (.Name x p1) .Add a pos) (tsOf G (sExt i fl)) :=
  PS.imp (ps_aug hNd hN hx he iop_ext hf) fun D σ H h => by
    obtain ⟨Z, r, S, F, m, I, h⟩ := h
    unfold sExt at h
    split at h
    · rename_i l e
      obtain ⟨z, a0, xs, e1, e2, rv⟩ := I.si.own i l e
      obtain ⟨f1, f2⟩ := I.si.free i _ a0 e rfl e1
      refine ⟨_, e1, Z, r, S, F, m, I, post_mono (so_post I h) fun k S1 h1 u H1 F1 m1 hi1 st1 hn => ?_⟩
      obtain ⟨p, zs, rfl, hp, hp1, hF, hm, zk, rvk⟩ := hn
      split at h1
      · rename_i hlen
        have I1 := I.step hi1 st1
        have h0 : H1 a0 = some (.lst xs) := st1.keep _ _ e2 f2
        have rv' := rv.step st1
        refine ⟨a0, p, xs, zs, rfl, rfl, h0, hp1, by rw [rv'.length, rvk.length]; exact hlen, ?_⟩
        have es : σ.set i (some (.ref a0)) = σ := by
          obtain ⟨hlt, hg⟩ := List.getElem?_eq_some_iff.mp e1
          rw [← hg, List.set_getElem_self]
        show D.nx (List.set σ i (some (.ref a0))) _
        rw [es]
        exact h1 σ _ F1 m1 (I1.mutO (l' := l ++ k) (xs := xs ++ zs) e e1 (by rw [List.length_append]; exact hlen) (rv'.append rvk)) st1.later
      · exact h1.elim
    · exact h.elim
/-- a new shared list -/
theorem HI.newC {K : PySem.W.Frag} {S : Store} {H F : Hp} {m : List Addr} {p : Addr} {l : List D} {xs : List V} (I : HI K S H F m) (hp : H p = some (.lst xs)) (hF : F p = none) (hm : p ∉ m) (hz : l.length ≤ sizeLine) (rv : RVs K F m l xs) : HI K (S ++ [.lst l]) H F (m ++ [p]) := by
  have pre : ∀ (n : Nat) a, m[n]? = some a → (m ++ [p])[n]? = some a := fun n a h => by
    obtain ⟨hlt, _⟩ := List.getElem?_eq_some_iff.mp h
    rw [List.getElem?_append_left hlt]; exact h
  refine ⟨I.sub, by simp [I.len], ?_, fun n c a e1 e2 => ?_, fun a ha => ?_⟩
  · rw [List.nodup_append]
    exact ⟨I.nd, by simp, fun a ha b hb => by
      have : b = p := by simpa using hb
      subst this
      exact fun z => hm (z ▸ ha)⟩
  · by_cases hlt : n < S.length
    · rw [List.getElem?_append_left hlt] at e1
      rw [List.getElem?_append_left (by rw [I.len]; exact hlt)] at e2
      exact (I.cel n c a e1 e2).mono (Same.refl F) pre rfl
    · have hn : n = S.length := by
        obtain ⟨h1, _⟩ := List.getElem?_eq_some_iff.mp e1
        simp at h1
        omega
      subst hn
      rw [List.getElem?_append_right (Nat.le_refl _), Nat.sub_self] at e1
      cases e1
      rw [← I.len, List.getElem?_append_right (Nat.le_refl _), Nat.sub_self] at e2
      cases e2
      exact ⟨hz, xs, hp, RVs.mono (Same.refl F) pre _ _ rv⟩
  · rcases List.mem_append.mp ha with h | h
    · exact I.mF a h
    · have : a = p := by simpa using h
      subst this; exact hF
theorem se_cell {a : Expr} {f : Lx} (h : PE X a (tlOf G f)) : PE X a (tOf G (eCell f)) :=
  PE.imp h fun σ H Q h => by
    obtain ⟨Z, r, S, F, m, I, h⟩ := h
    refine ⟨Z, r, S, F, m, I, post_mono (post_bind h) fun l S1 h1 v H1 F1 m1 hi1 st1 hn => ?_⟩
    obtain ⟨p, xs, rfl, hp, hp1, hF, hm, z, rv⟩ := hn
    refine h1 _ H1 F1 (m1 ++ [p]) (hi1.newC hp1 hF hm z rv) ⟨st1.sub, st1.keep, st1.newF, fun b hb => ?_, fun n b hb => ?_, st1.dom⟩ ?_
    · rcases List.mem_append.mp hb with h | h
      · exact st1.out b h
      · have : b = p := by simpa using h
        subst this; exact .inr hp
    · have := st1.pre n b hb
      obtain ⟨hlt, _⟩ := List.getElem?_eq_some_iff.mp this
      rw [List.getElem?_append_left hlt]; exact this
    · simp only [RV]
      refine ⟨p, rfl, ?_⟩
      rw [← hi1.len, List.getElem?_append_right (Nat.le_refl _), Nat.sub_self]; rfl
end
end Pk
namespace Pk
open PySem PySem.Spec PyProof.Rows L2
/-! ### dicts of the frame's own -/
section
variable {X : Cx} {G : Gb} {pos : Pos}
theorem ss_dnew {i : Nat} {x : Str} {pos' dp : Pos} (t : Bool) (hN : X.N.Nodup) (hi : X.N[i]? = some x) (hx : Loc X.env.scope x) (hs : swapsWith (.Dict [] [] dp) (some (.Name x pos')) pos.line X.env = pure false) (hf : X.fn x = true ∨ X.env.scope.names.lookup x = some .local) :
    PS X (.Assign [.Name x pos'] (.Dict [] [] dp) pos) (tsOf G (sDnew i t)) := by
  have fin : ∀ (o : HO), IsDct t o [] → PS X (.Assign [.Name x pos'] (.Dict [] [] dp) pos) (tsOf G (sDnew i t)) ∨ True := fun _ _ => .inr trivial
  have go : ∀ (o : HO) {Z : Zn} {r : Env} {S : Store} {F : Hp} {m : List Addr} {σ : St} {H : Hp} {D : Ends}, IsDct t o [] → FI G.K Z σ r S H F m → spost G Z F m D (sDnew i t r S) → ∀ p, H p = none → D.nx (σ.set i (some (.ref p))) (upd H p o) := fun o Z r S F m σ H D ho I h p hp => by
    obtain ⟨hi', st'⟩ := I.hi.loose (o := o) hp
    refine h _ _ F m ((I.step hi' st').putS (s0 := .ownd t []) rfl (show Cont G.K _ F m (.ownd t []) p from ⟨Nat.zero_le _, o, [], upd_same, ho, by simp [RP]⟩) (I.es.dom p hp) (I.hi.fF hp) (I.hi.notin hp) (own_ne I hp) i) (Later.refl _ _)
  cases t with
  | true =>
    exact PS.imp (ps_set hN hi hx pe_dnewT hs hf) fun D σ H h => by
      obtain ⟨Z, r, S, F, m, I, h⟩ := h
      exact fun p hp => go (.dT []) (by simp [IsDct]) I h p hp
  | false =>
    exact PS.imp (ps_set hN hi hx pe_dnewK hs hf) fun D σ H h => by
      obtain ⟨Z, r, S, F, m, I, h⟩ := h
      exact fun p hp => go (.dK []) (by simp [IsDct]) I h p hp
theorem putK_one (kvs : List (Key × V)) (k : Key) (v : V) : (putK kvs k v).map (fun p => ([p.1], p.2)) = putK (kvs.map fun p => ([p.1], p.2)) [k] v := by
  unfold putK
  have e : (kvs.any fun p => decide (p.1 = k)) = ((kvs.map fun p => ([p.1], p.2)).any fun p => decide (p.1 = [k])) := by
    rw [List.any_map]
    congr 1
    funext p
    simp
  rw [← e]
  split
  · rw [List.map_map, List.map_map]
    congr 1
    funext p
    simp only [Function.comp]
    by_cases h : p.1 = k
    · simp [h]
    · simp [h]
  · simp
theorem gdK_rv {K : PySem.W.Frag} {F : Hp} {m : List Addr} {t : Bool} {d : D} {v : V} {k : List Key} (h : RV K F m d v) (hk : kOf t d = some k) : gdK d := by
  have one : ∀ {d : D} {v : V}, RV K F m d v → gd1 d := fun {d v} h => by
    cases d with
    | str x => unfold RV at h; exact h.2
    | _ => trivial
  cases d with
  | tup l =>
    unfold RV at h
    obtain ⟨z, a, xs, _, _, rv⟩ := h
    refine ⟨z, fun d hd => ?_⟩
    obtain ⟨n, e⟩ := List.mem_iff_getElem?.mp hd
    obtain ⟨v, _, r⟩ := rv.get e
    exact one r
  | str x => exact one h
  | _ => trivial
theorem key_dput {K : PySem.W.Frag} {S : Store} {H F : Hp} {m : List Addr} {t : Bool} {d : D} {u v : V} {k : List Key} {a : Addr} {o : HO} {ks : List (List Key × V)} (hi : HI K S H F m) (h : RV K F m d u) (hk : kOf t d = some k) (ha : H a = some o) (ho : IsDct t o ks) (hl : ks.length < sizeLine) : ∃ o', DPut H a u v (upd H a o') ∧ IsDct t o' (putK ks k v) := by
  cases t with
  | true =>
    simp only [kOf, if_true] at hk
    simp only [IsDct, if_true] at ho ⊢
    subst ho
    split at hk
    · rename_i l
      unfold RV at h
      obtain ⟨_, b, xs, rfl, hb, rv⟩ := h
      rw [keysL_rv rv hk] at hb
      exact ⟨_, DPut.t ha (hi.sub _ _ hb) hl, rfl⟩
    · cases hk
  | false =>
    simp only [kOf, Bool.false_eq_true, if_false] at hk
    obtain ⟨k0, e0, rfl⟩ := Option.map_eq_some_iff.mp hk
    simp only [IsDct, Bool.false_eq_true, if_false] at ho ⊢
    obtain ⟨kvs, rfl, rfl⟩ := ho
    rw [List.length_map] at hl
    have eu : u = kV k0 := by
      cases d with
      | int i => cases e0; simp only [RV] at h; exact h
      | str x => cases e0; simp only [RV] at h; exact h.1
      | _ => cases e0
    subst eu
    exact ⟨_, DPut.k ha hl, _, rfl, (putK_one kvs k0 v).symm⟩
theorem dPut_le (t : Bool) (l : List (D × D)) (d : D) (k : List Key) (v : D) : (dPut t l d k v).length ≤ l.length + 1 := by
  unfold dPut
  split
  · rw [List.length_map]; omega
  · simp
theorem ss_putD {a i' : Expr} {i : Nat} {x : Str} {p1 p2 : Pos} {fi fe : Ex} (hu : X.A.units + 65 < cLine) (hN : X.N[i]? = some x) (hv : Vis X.env.scope x) (hd : (x == ("__debug__" : Str)) = false) (hcd : (x == ("__classdict__" : Str)) = false) (hi : PE X i' (tOf G fi)) (he : PE X a (tOf G fe)) (hs : swapsWith a (some (.Subscript (.Name x p1) i' p2)) pos.line X.env = pure false) :
    PS X (.Assign [.Subscript (.Name x p1) i' p2] a pos) (tsOf G (sPutD i fi fe)) :=
  PS.imp (ps_dput (by omega) (pe_var hN hv hd hcd) hi he hs) fun D σ H h => by
    obtain ⟨Z, r, S, F, m, I, h⟩ := h
    refine ⟨Z, r, S, F, m, I, post_mono (so_post I h) fun d S1 h1 v H1 F1 m1 hi1 st1 rv1 => ?_⟩
    have I1 := I.step hi1 st1
    split at h1
    · rename_i t l e
      obtain ⟨z, p, o, ks, e1, e2, e3, e4⟩ := I1.si.ownd i t l e
      refine ⟨.ref p, e1, Z, r, S1, F1, m1, I1, post_mono (so_post I1 (spost_later h1 st1.later)) fun k S2 h2 u H2 F2 m2 hi2 st2 rv2 => ?_⟩
      have I2 := I1.step hi2 st2
      split at h2
      · rename_i k' ek
        split at h2
        · rename_i hl
          obtain ⟨z2, q, o2, ks2, f1, f2, f3, f4⟩ := I2.si.ownd i t l e
          rw [e1] at f1
          cases f1
          obtain ⟨o', g1, g2⟩ := key_dput (v := v) hi2 rv2 ek f2 f3 (by rw [f4.length]; exact hl)
          refine ⟨p, _, rfl, g1, ?_⟩
          refine h2 σ _ F2 m2 (I2.mutS e rfl rfl e1 (show Cont G.K _ F2 m2 (.ownd t _) p from ⟨?_, o', _, upd_same, g2, f4.put ⟨ek, gdK_rv rv2 ek⟩ (rv1.step st2)⟩)) st2.later
          have := dPut_le t l k k' d
          omega
        · exact h2.elim
      · exact h2.elim
    · exact h1.elim
/-! ### displays of written keys and numbers -/
def dspL : List (Option Expr) → List Expr → Option (List (Str × Int))
  | [], [] => some []
  | some (.Constant (.str k) _ _) :: ks, .Constant (.int v) _ _ :: vs => if k.length ≤ sizeLine ∧ PySem.PyData.strOk k = true then (dspL ks vs).map ((k, v) :: ·) else none
  | _, _ => none
def dspD (l : List (Str × Int)) : D := .dct false (l.map fun p => (.str p.1, .int p.2))
def dspOf (ks : List (Option Expr)) (vs : List Expr) : Option D := (dspL ks vs).bind fun l => if l.length ≤ 15 ∧ (l.map (·.1)).Nodup then some (dspD l) else none
theorem dsp_pairs : ∀ {ks : List (Option Expr)} {vs : List Expr} {l : List (Str × Int)}, dspL ks vs = some l → PPs X pos ks vs (l.map fun p => (tC (.str p.1), tC (.int p.2))) ∧ ks.all (·.isSome) = true ∧ ks.length = vs.length ∧ ks.length = l.length ∧ ∀ p ∈ l, gd1 (.str p.1)
  | [], [], l, h => by
    simp only [dspL] at h
    cases h
    exact ⟨pps_nil, rfl, rfl, rfl, fun p hp => by cases hp⟩
  | some (.Constant (.str k) _ _) :: ks, .Constant (.int v) _ _ :: vs, l, h => by
    simp only [dspL] at h
    split at h
    · rename_i hk
      cases e : dspL ks vs with
      | none => rw [e] at h; cases h
      | some l' =>
        rw [e] at h
        cases h
        obtain ⟨h1, h2, h3, h4, h5⟩ := dsp_pairs e
        refine ⟨pps_cons pe_str pe_int h1, by simpa using h2, by simpa using h3, by simpa using h4, fun p hp => ?_⟩
        rcases List.mem_cons.mp hp with rfl | hp
        · exact hk
        · exact h5 p hp
    · cases h
theorem tPairs_con (σ : St) (H : Hp) : ∀ (l : List (Str × Int)) (Q : List (V × V) → Hp → Prop), Q (l.map fun p => (V.str p.1, V.int p.2)) H → tPairs (l.map fun p => (tC (.str p.1), tC (.int p.2))) σ H Q
  | [], Q, h => h
  | p :: l, Q, h => tPairs_con σ H l _ h
theorem merge_new : ∀ (l acc : List (Key × V)), ((acc ++ l).map (·.1)).Nodup → mergeK acc l = acc ++ l
  | [], acc, _ => by simp [mergeK]
  | p :: l, acc, h => by
    have hp : (acc.any fun q => decide (q.1 = p.1)) = false := by
      rw [List.any_eq_false]
      intro q hq
      simp only [decide_eq_true_eq]
      intro e
      rw [List.map_append, List.nodup_append] at h
      exact h.2.2 q.1 (List.mem_map.mpr ⟨q, hq, rfl⟩) p.1 (by simp) e
    have ih := merge_new l (acc ++ [p]) (by simpa using h)
    show mergeK (putK acc p.1 p.2) l = acc ++ p :: l
    have e : putK acc p.1 p.2 = acc ++ [p] := by
      unfold putK
      rw [hp]
      rfl
    rw [e, ih]
    simp
theorem rp_dsp {K : PySem.W.Frag} {F : Hp} {m : List Addr} : ∀ l : List (Str × Int), (∀ p ∈ l, gd1 (.str p.1)) → RP K F m false (l.map fun p => (D.str p.1, D.int p.2)) ((l.map fun p => ((.inr p.1 : Key), V.int p.2)).map fun p => ([p.1], p.2))
  | [], _ => by simp [RP]
  | p :: l, h => by
    simp only [List.map_cons]
    unfold RP
    exact ⟨_, _, _, rfl, ⟨rfl, h p (by simp)⟩, by simp [RV], rp_dsp l fun q hq => h q (by simp [hq])⟩
theorem se_dsp {ks : List (Option Expr)} {vs : List Expr} {d : D} (h : dspOf ks vs = some d) : PE X (.Dict ks vs pos) (tOf G (eCon d)) := by
  unfold dspOf at h
  cases e : dspL ks vs with
  | none => rw [e] at h; cases h
  | some l =>
    rw [e] at h
    simp only [Option.bind_some] at h
    split at h
    · rename_i hl
      cases h
      obtain ⟨h1, h2, h3, h4, h5⟩ := dsp_pairs (X := X) (pos := pos) e
      have fin : ∀ {σ : St} {H : Hp} {Q : VK}, tOf G (eCon (dspD l)) σ H Q → ∀ p, H p = none → Q (.ref p) (upd H p (.dK (l.map fun p => ((.inr p.1 : Key), V.int p.2)))) := fun {σ H Q} h p hp => by
        obtain ⟨Z, r, S, F, m, I, h⟩ := h
        obtain ⟨hi', st'⟩ := I.hi.frozen (o := .dK (l.map fun p => ((.inr p.1 : Key), V.int p.2))) hp
        refine h _ _ _ m hi' st' ?_
        unfold dspD RV
        exact ⟨by rw [List.length_map, sizeLine_eq]; omega, p, _, _, rfl, upd_same, ⟨_, rfl, rfl⟩, rp_dsp l h5⟩
      cases hk : ks with
      | nil =>
        subst hk
        have hv : vs = [] := List.length_eq_zero_iff.mp h3.symm
        have hl0 : l = [] := List.length_eq_zero_iff.mp h4.symm
        subst hv hl0
        exact PE.imp pe_dnewK fun σ H Q h => fin h
      | cons k ks' =>
        rw [← hk]
        refine PE.imp (pe_disp h1 h2 h3 (by rw [hk]; simp) (by omega)) fun σ H Q h => ?_
        intro p hp
        refine tPairs_con σ _ l _ ⟨upd_same, l.map fun p => ((.inr p.1 : Key), V.int p.2), by rw [List.map_map]; rfl, by rw [List.length_map]; exact hl.1, ?_⟩
        have hm : mergeK [] (l.map fun p => ((.inr p.1 : Key), V.int p.2)) = l.map fun p => ((.inr p.1 : Key), V.int p.2) := by
          have := merge_new (l.map fun p => ((.inr p.1 : Key), V.int p.2)) [] (by
            have e2 : (l.map fun p => ((.inr p.1 : Key), V.int p.2)).map (·.1) = (l.map (·.1)).map Sum.inr := by rw [List.map_map, List.map_map]; rfl
            rw [List.nil_append, e2]
            exact List.pairwise_map.mpr (hl.2.imp fun hne e => hne (Sum.inr.inj e)))
          simpa using this
        rw [hm, upd_upd]
        exact fin h p hp
    · cases h
end
end Pk
namespace Pk
open PySem PySem.Spec PyProof.Rows L2
section
variable {X : Cx} {G : Gb} {a b : Expr} {fa fb : Ex} {pos p : Pos}
/-! ### new lists -/
theorem l2_reads {q : D → D → Option (List D)} {σ : St} {H : Hp} {Q : VK} (h : tlOf G (l2 q fa fb) σ H Q) : rOf G fa σ H fun x H1 => rOf G fb σ H1 fun y H2 => ∃ S F m a b l, HI G.K S H2 F m ∧ Vw G.K H2 F m a x ∧ Vw G.K H2 F m b y ∧ q a b = some l ∧ ∀ v H' F', HI G.K S H' F' m → Step H2 F m H' F' m → New G.K l v H' F' m H2 → Q v H' := by
  obtain ⟨Z, r, S, F, m, I, h⟩ := h
  refine ⟨Z, r, S, F, m, I, post_mono (post_bind h) fun d S1 h1 v H1 F1 m1 hi1 st1 rv1 => ?_⟩
  refine ⟨Z, r, S1, F1, m1, I.step hi1 st1, post_imp (post_bind h1) st1 fun d2 S2 h2 v2 H2 F2 m2 hi2 st2 rv2 => ?_⟩
  obtain ⟨l, e3, h3⟩ := post_some h2
  cases ea : der d S2 with
  | none => rw [ea] at e3; cases e3
  | some a' =>
    cases eb : der d2 S2 with
    | none => rw [ea, eb] at e3; cases e3
    | some b' =>
      rw [ea, eb] at e3
      refine ⟨S2, F2, m2, a', b', l, hi2, view hi2 (rv1.step st2) ea, view hi2 rv2 eb, e3, fun v3 H3 F3 hi3 st3 hn => h3 v3 H3 F3 m2 hi3 ((st1.trans st2).trans st3) ?_⟩
      obtain ⟨p, xs, e, hp, r⟩ := hn
      exact ⟨p, xs, e, (st1.trans st2).dom p hp, r⟩
theorem sl_cat (hK : X.K = G.K) (ha : PE X a (rOf G fa)) (hb : PE X b (rOf G fb)) : PE X (.BinOp a .Add b pos) (tlOf G (l2 oCat fa fb)) :=
  PE.imp (pe_op op_catR ha hb) fun σ H Q h => by
    refine Ev_mono (l2_reads h) fun x H1 z => Ev_mono z fun y H2 z => ?_
    obtain ⟨S, F, m, d1, d2, l, hi, va, vb, e, q⟩ := z
    unfold oCat at e
    split at e
    · split at e
      · rename_i hz
        cases e
        obtain ⟨z1, p1, xs, rfl, s1, r1⟩ := va.sq hi
        obtain ⟨z2, p2, ys, rfl, s2, r2⟩ := vb.sq hi
        have n1 := r1.length
        have n2 := r2.length
        refine ⟨p1, p2, xs, ys, rfl, rfl, by rw [hK]; exact s1, by rw [hK]; exact s2, by omega, fun p hp => ?_⟩
        obtain ⟨hi', st'⟩ := hi.loose (o := .lst (xs ++ ys)) hp
        exact q _ _ _ hi' st' ⟨p, _, rfl, hp, upd_same, hi.fF hp, hi.notin hp, by rw [List.length_append]; exact hz, r1.append r2⟩
      · cases e
    · cases e
def lCut (fa : Ex) (lo hi : Option Ex) : Lx := fun r S => (fa r S).bind fun a S1 => (ePart lo r S1).bind fun l S2 => (ePart hi r S2).bind fun h S3 => Out.some? ((der a S3).bind fun a' => match a' with | .lst k => some (cutD k l h) | _ => none) S3
theorem sl_cut {lo hi : Option Expr} {fl fh : Option Ex} {p2 : Pos} (hK : X.K = G.K) (ha : PE X a (rOf G fa)) (hl : PO X lo (poOf G fl)) (hh : PO X hi (poOf G fh)) : PE X (.Subscript a (.Slice lo hi none p2) pos) (tlOf G (lCut fa fl fh)) :=
  PE.imp (pe_slice sl_list ha hl hh) fun σ H Q h => by
    obtain ⟨Z, r, S, F, m, I, h⟩ := h
    refine ⟨Z, r, S, F, m, I, post_mono (post_bind h) fun d S1 h1 v H1 F1 m1 hi1 st1 rv1 => ?_⟩
    have I1 := I.step hi1 st1
    refine ⟨Z, r, S1, F1, m1, I1, post_imp (post_bind h1) st1 fun l S2 h2 v2 H2 F2 m2 hi2 st2 e2 => ?_⟩
    subst e2
    have st12 := st1.trans st2
    refine ⟨Z, r, S2, F2, m2, I1.step hi2 st2, post_imp (post_bind h2) st12 fun u S3 h3 v3 H3 F3 m3 hi3 st3 e3 => ?_⟩
    subst e3
    obtain ⟨d3, e4, h4⟩ := post_some h3
    cases ea : der d S3 with
    | none => rw [ea] at e4; cases e4
    | some a' =>
      rw [ea] at e4
      cases a' with
      | lst k =>
        cases e4
        have vw := view hi3 ((rv1.step st2).step st3) ea
        obtain ⟨z, p, xs, rfl, s1, r1⟩ := vw.sq hi3
        refine ⟨p, xs, rfl, by rw [hK]; exact s1, fun p hp => ?_⟩
        obtain ⟨hi', st'⟩ := hi3.loose (o := .lst (cutV xs v2 v3)) hp
        exact h4 _ _ _ m3 hi' ((st12.trans st3).trans st') ⟨p, _, rfl, (st12.trans st3).dom p hp, upd_same, hi3.fF hp, hi3.notin hp, Nat.le_trans (cutD_le _ _ _) z, cut_rv r1 _ _⟩
      | _ => cases e4
/-! ### xs[lo::k] -/
theorem sl_rev {k : Nat} {p1 p2 p3 : Pos} (hK : X.K = G.K) (ha : PE X a (rOf G fa)) : PE X (.Subscript a (.Slice none none (some (.UnaryOp .USub (.Constant (.int 1) k p1) p2)) p3) pos) (tlOf G (l1 oRv fa)) :=
  PE.imp (pe_revL ha) fun σ H Q h => by
    refine Ev_mono (l1_reads h) fun x H1 z => ?_
    obtain ⟨S, F, m, d, l, hi, va, e, q⟩ := z
    unfold oRv at e
    split at e
    · cases e
      obtain ⟨z, p, xs, rfl, s1, r1⟩ := va.sq hi
      refine ⟨p, xs, rfl, by rw [hK]; exact s1, fun p hp => ?_⟩
      obtain ⟨hi', st'⟩ := hi.loose (o := .lst xs.reverse) hp
      exact q _ _ _ hi' st' ⟨p, _, rfl, hp, upd_same, hi.fF hp, hi.notin hp, by simpa using z, r1.reverse⟩
    · cases e
theorem strs_rv {K : PySem.W.Frag} {F : Hp} {m : List Addr} : ∀ {l : List Str}, (∀ x ∈ l, x.length ≤ sizeLine ∧ PySem.PyData.strOk x = true) → RVs K F m (strsOf l) (l.map V.str)
  | [], _ => by simp [strsOf, RVs]
  | x :: l, h => by
    show RVs K F m (.str x :: strsOf l) (V.str x :: l.map V.str)
    unfold RVs
    refine ⟨_, _, rfl, ?_, strs_rv fun y hy => h y (List.mem_cons_of_mem _ hy)⟩
    unfold RV
    exact ⟨rfl, h x List.mem_cons_self⟩
/-- a text, or nothing -/
def eStr (fa : Ex) : Ex := fun r S => (fa r S).bind fun a S1 => match a with
  | .str x => .ok (.str x) S1
  | _ => .no
theorem se_str (ha : PE X a (rOf G fa)) : PE X a (rOf G (eStr fa)) := PE.imp ha fun σ H Q h => by
  obtain ⟨Z, r, S, F, m, I, h⟩ := h
  refine ⟨Z, r, S, F, m, I, post_mono (post_bind h) fun d S1 h1 v H1 F1 m1 hi1 st1 rv1 => ?_⟩
  cases d with
  | str x => exact h1 v H1 F1 m1 hi1 st1 rv1
  | _ => exact h1.elim
theorem eStr_ok {r : Env} {S S1 : Store} {d : D} (h : eStr fa r S = .ok d S1) : ∃ x, d = .str x := by
  unfold eStr at h
  cases e : fa r S with
  | ok d0 S0 =>
    rw [e] at h
    cases d0 with
    | str x => cases h; exact ⟨x, rfl⟩
    | _ => cases h
  | exc x S0 => rw [e] at h; cases h
  | no => rw [e] at h; cases h
/-- o.m(e), o a text: by what is read -/
theorem m1_reads {f : Env → M D} {σ : St} {H : Hp} {Q : V → Hp → Prop} {Q' : VK} (h : rOf G (eStr fa) σ H Q) (q : ∀ v H1, (∃ x, v = .str x) → Q v H1 → Q' v H1) : rOf G (eStr fa) σ H Q' := by
  obtain ⟨Z, r, S, F, m, I, h⟩ := h
  refine ⟨Z, r, S, F, m, I, ?_⟩
  cases e : eStr fa r S with
  | ok d S1 =>
    rw [e] at h
    obtain ⟨x, rfl⟩ := eStr_ok e
    intro v H1 F1 m1 hi1 st1 rv1
    refine q v H1 ?_ (h v H1 F1 m1 hi1 st1 rv1)
    rcases rv1 with rv1 | ⟨l, _, _, z, _⟩ | ⟨_, _, _, _, _, z, _⟩
    · simp only [RV] at rv1; exact ⟨x, rv1.1⟩
    · cases z
    · cases z
  | exc x S1 => rw [e] at h; exact h
  | no => rw [e] at h; exact h
theorem sl_split {apos cpos : Pos} (hp : plainArg b = true) (hbase : attributeBase a "split" X.env (eval a X.env) = eval a X.env) (hline : (apos.endLine == cpos.line) = true) (ha : PE X a (rOf G fa)) (hb : PE X b (rOf G fb)) : PE X (.Call (.Attribute a "split" apos) [b] [] cpos) (tlOf G (l2 oSplit (eStr fa) fb)) :=
  PE.imp (pe_split (se_str ha) hb (star_cons hp _ _) hbase hline) fun σ H Q h => by
    refine m1_reads (f := eStr fa) (l2_reads h) fun x H1 hx z => ⟨hx, Ev_mono z fun y H2 z => ?_⟩
    obtain ⟨S, F, m, d1, d2, l, hi, va, vb, e, q⟩ := z
    unfold oSplit at e
    split at e
    · split at e
      · rename_i hz
        cases e
        refine ⟨_, _, va.str.1, by rw [vb.str.1], hz.1, hz.2.1, fun p hp => ?_⟩
        obtain ⟨hi', st'⟩ := hi.loose (o := .lst ((Txt.split _ _).map V.str)) hp
        refine q _ _ _ hi' st' ⟨p, _, rfl, hp, upd_same, hi.fF hp, hi.notin hp, by simpa [strsOf] using hz.2.2.2, strs_rv fun x hx => ?_⟩
        have := List.all_eq_true.mp hz.2.2.1 x hx
        simpa using this
      · cases e
    · cases e
theorem txts_rv {K : PySem.W.Frag} {F : Hp} {m : List Addr} : ∀ {l : List D} {xs : List V} {ys : List Str}, RVs K F m l xs → txtsOf l = some ys → xs = ys.map V.str
  | [], xs, ys, h, e => by simp only [RVs] at h; subst h; cases e; rfl
  | d :: l, xs, ys, h, e => by
    simp only [RVs] at h
    obtain ⟨y, zs, rfl, h1, h2⟩ := h
    cases d with
    | str b =>
      simp only [txtsOf] at e
      cases e2 : txtsOf l with
      | none => rw [e2] at e; cases e
      | some bs' =>
        rw [e2] at e
        cases e
        simp only [RV] at h1
        rw [h1.1, txts_rv h2 e2]; rfl
    | _ => simp [txtsOf] at e
theorem se_join {apos cpos : Pos} (hK : X.K = G.K) (hp : plainArg b = true) (hbase : attributeBase a "join" X.env (eval a X.env) = eval a X.env) (hline : (apos.endLine == cpos.line) = true) (ha : PE X a (rOf G fa)) (hb : PE X b (rOf G fb)) : PE X (.Call (.Attribute a "join" apos) [b] [] cpos) (tOf G (e2 oJoin (eStr fa) fb)) :=
  PE.imp (pe_join (se_str ha) hb (star_cons hp _ _) hbase hline) fun σ H Q h => by
    refine m1_reads (f := eStr fa) (show rOf G (eStr fa) σ H _ from e2_reads h) fun x H1 hx z => ⟨hx, Ev_mono (show rOf G fb σ H1 _ from z) fun y H2 z => ?_⟩
    obtain ⟨S, F, m, d1, d2, d, hi, va, vb, e, q⟩ := z
    unfold oJoin at e
    split at e
    · rename_i x0 l
      cases et : txtsOf l with
      | none => rw [et] at e; cases e
      | some ys =>
        rw [et] at e
        simp only [Option.bind_some] at e
        split at e
        · rename_i hz
          cases e
          obtain ⟨z, p, xs, rfl, s1, r1⟩ := vb.sq hi
          refine ⟨_, p, ys, va.str.1, rfl, .inl (by rw [hK, ← txts_rv r1 et]; exact s1), hz.1, q _ H2 F hi (Step.refl _ _ _) ?_⟩
          unfold RV
          exact ⟨rfl, hz.2.2, hz.2.1⟩
        · cases e
    · rename_i x0 l
      cases et : txtsOf l with
      | none => rw [et] at e; cases e
      | some ys =>
        rw [et] at e
        simp only [Option.bind_some] at e
        split at e
        · rename_i hz
          cases e
          obtain ⟨z, p, xs, rfl, s1, r1⟩ := vb.tup hi
          refine ⟨_, p, ys, va.str.1, rfl, .inr (by rw [hK, ← txts_rv r1 et]; exact s1), hz.1, q _ H2 F hi (Step.refl _ _ _) ?_⟩
          unfold RV
          exact ⟨rfl, hz.2.2, hz.2.1⟩
        · cases e
    · cases e
/-! ### names bound together -/
theorem eTup_reads {D : Ends} {σ : St} {H : Hp} {is : List Nat} {ffs : List Ex} (h : tsOf G (sAsg (tgT is) (eTup ffs)) D σ H) : taOf G (eArgs ffs) σ H fun vs H1 => ∃ Z r S F m ds, FI G.K Z σ r S H1 F m ∧ RVs G.K F m ds vs ∧ ds.length = is.length ∧ ∀ σ', FI G.K Z σ' (setAll is ds r) S H1 F m → D.nx σ' H1 := by
  obtain ⟨Z, r, S, F, m, I, h⟩ := h
  refine ⟨Z, r, S, F, m, I, ?_⟩
  have h := so_post I h
  have h := post_bind h
  refine post_mono h fun ds S1 h1 vs H1 F1 m1 hi1 st1 rv1 => ?_
  obtain ⟨_, h2⟩ := post_guard (post_bind h1)
  have h2 : spost G Z F m D (match tgT is (.tup ds) r with | some r1 => .nx r1 S1 | none => .no) := h2
  unfold tgT at h2
  simp only at h2
  split at h2
  · rename_i hl
    split at hl
    · rename_i hll
      cases hl
      exact ⟨Z, r, S1, F1, m1, ds, I.step hi1 st1, rv1, hll, fun σ' I' => h2 σ' H1 F1 m1 I' st1.later⟩
    · cases hl
  · exact h2.elim
theorem ss_par {i j : Nat} {x y : Str} {px py pt : Pos} {kt k2 : Nat} {pt2 : Pos} {ffs : List Ex} (hc : X.calm = true) (hN : X.N.Nodup) (hi : X.N[i]? = some x) (hj : X.N[j]? = some y) (hij : i ≠ j)
    (hx : X.env.scope.names.lookup x = some .local) (hy : X.env.scope.names.lookup y = some .local) (ha : PA X [a, b] (taOf G (eArgs ffs)))
    (hw : swappedStores [.Tuple [.Name x px, .Name y py] kt pt] (.Tuple [a, b] k2 pt2) X.env = pure (some [x, y])) :
    PS X (.Assign [.Tuple [.Name x px, .Name y py] kt pt] (.Tuple [a, b] k2 pt2) pos) (tsOf G (sAsg (tgT [i, j]) (eTup ffs))) :=
  PS.imp (ps_par hc hN hi hj hij hx hy ha hw rfl) fun D σ H h => by
    refine Ev_mono (eTup_reads h) fun vs H1 z => ?_
    obtain ⟨Z, r, S, F, m, ds, I, rv, hl, q⟩ := z
    match ds, hl, rv with
    | [d, e], _, rv =>
      obtain ⟨v, w, rfl, h1, h2⟩ := rvs2 rv
      exact ⟨v, w, rfl, q _ ((I.put h1 i).put h2 j)⟩
theorem ss_par3 {c : Expr} {i j l : Nat} {x y z : Str} {px py pz pt : Pos} {kt k2 : Nat} {pt2 : Pos} {ffs : List Ex} (hc : X.calm = true) (hN : X.N.Nodup) (hi : X.N[i]? = some x) (hj : X.N[j]? = some y) (hl : X.N[l]? = some z) (hij : i ≠ j) (hil : i ≠ l) (hjl : j ≠ l)
    (hx : X.env.scope.names.lookup x = some .local) (hy : X.env.scope.names.lookup y = some .local) (hz : X.env.scope.names.lookup z = some .local) (ha : PA X [a, b, c] (taOf G (eArgs ffs)))
    (hw : swappedStores [.Tuple [.Name x px, .Name y py, .Name z pz] kt pt] (.Tuple [a, b, c] k2 pt2) X.env = pure (some [x, y, z])) :
    PS X (.Assign [.Tuple [.Name x px, .Name y py, .Name z pz] kt pt] (.Tuple [a, b, c] k2 pt2) pos) (tsOf G (sAsg (tgT [i, j, l]) (eTup ffs))) :=
  PS.imp (ps_par3 hc hN hi hj hl hij hil hjl hx hy hz ha hw rfl) fun D σ H h => by
    refine Ev_mono (eTup_reads h) fun vs H1 z => ?_
    obtain ⟨Z, r, S, F, m, ds, I, rv, hl, q⟩ := z
    match ds, hl, rv with
    | [d, e, f], _, rv =>
      simp only [RVs] at rv
      obtain ⟨v1, _, rfl, h1, v2, _, rfl, h2, v3, _, rfl, h3, rfl⟩ := rv
      exact ⟨v1, v2, v3, rfl, q _ (((I.put h1 i).put h2 j).put h3 l)⟩
/-! ### name = [.. for ..] -/
theorem ss_setA {st : Stmt} {i : Nat} {fe : Ex} (h : PS X st (tAsg (tOf G fe) (gName i))) : PS X st (tsOf G (sSet i fe)) :=
  PS.imp h fun D σ H h => by
    obtain ⟨Z, r, S, F, m, I, h⟩ := h
    exact ⟨Z, r, S, F, m, I, post_mono (so_post I h) fun d S1 h1 v H1 F1 m1 hi1 st1 rv1 => h1 _ H1 F1 m1 ((I.step hi1 st1).put rv1 i) st1.later⟩
theorem ss_ownA {st : Stmt} {i : Nat} {fl : Lx} (h : PS X st (tAsg (tlOf G fl) (gName i))) : PS X st (tsOf G (sOwn i fl)) :=
  PS.imp h fun D σ H h => by
    obtain ⟨Z, r, S, F, m, I, h⟩ := h
    refine ⟨Z, r, S, F, m, I, post_mono (so_post I h) fun l S1 h1 v H1 F1 m1 hi1 st1 hn => ?_⟩
    obtain ⟨p, xs, rfl, hp, hp1, hF, hm, z, rv⟩ := hn
    exact h1 _ H1 F1 m1 ((I.step hi1 st1).putO hp1 (I.es.dom p hp) hF hm (own_ne I hp) z rv i) st1.later
/-- the same with what a new list becomes -/
theorem asg_imp {st : Stmt} {t u : TE} {i : Nat} (h : PS X st (tAsg t (gName i))) (q : ∀ σ H Q, u σ H Q → t σ H Q) : PS X st (tAsg u (gName i)) := PS.imp h fun D σ H z => q _ _ _ z
/-! ### freeze -/
theorem FI.frzS {K : PySem.W.Frag} {Z : Zn} {σ : St} {r : Env} {S : Store} {H F : Hp} {m : List Addr} (I : FI K Z σ r S H F m) {i : Nat} {s0 : Slot} {a : Addr} {o : HO} {d0 : D} (e : r[i]? = some s0) (h0 : s0.mine = true) (e1 : σ[i]? = some (some (.ref a))) (e2 : H a = some o) (e3 : RV K (upd F a o) m d0 (.ref a)) : ∃ F', FI K Z σ (r.set i (.val d0)) S H F' m ∧ Later F m F' m := by
    obtain ⟨hF, hm⟩ := I.si.free i _ a e h0 e1
    have hz := I.fr i _ a e h0 e1
    obtain ⟨hlt, _⟩ := List.getElem?_eq_some_iff.mp e
    have sF := same_upd (o := o) hF
    have key : ∀ (j : Nat) s, (r.set i (.val d0))[j]? = some s → (j = i ∧ s = .val d0) ∨ (j ≠ i ∧ r[j]? = some s) := fun j s h => by
      by_cases hj : i = j
      · subst hj
        rw [List.getElem?_set_self hlt] at h
        exact .inl ⟨rfl, (Option.some.inj h).symm⟩
      · rw [List.getElem?_set_ne hj] at h
        exact .inr ⟨fun z => hj z.symm, h⟩
    have key2 : ∀ (j : Nat) s, (r.set i (.val d0))[j]? = some s → s.mine = true → j ≠ i ∧ r[j]? = some s := fun j s h hs => by
      rcases key j s h with ⟨_, rfl⟩ | q
      · cases hs
      · exact q
    refine ⟨upd F a o, ⟨I.hi.freeze e2 hF hm, ⟨by simp [I.si.len], fun j d h => ?_, fun j k h => ?_, fun j t k h => ?_, fun j s b h hs e' => ?_, fun j k s t b h1 h2 hs ht e1' e2' => ?_⟩, ⟨I.es.sub.trans sF, I.es.keep, fun b o q => ?_, I.es.out, I.es.pre, I.es.dom⟩, fun j s b h hs e' => ?_⟩, sF, fun _ _ h => h⟩
    · rcases key j _ h with ⟨rfl, q⟩ | ⟨_, q⟩
      · cases q
        exact ⟨_, e1, e3⟩
      · obtain ⟨v, h1, h2⟩ := I.si.val j d q
        exact ⟨v, h1, RV.mono sF (fun _ _ z => z) _ _ h2⟩
    · rcases key j _ h with ⟨_, q⟩ | ⟨_, q⟩
      · cases q
      · obtain ⟨z', b, ys, h1, h2, h3⟩ := I.si.own j k q
        exact ⟨z', b, ys, h1, h2, RVs.mono sF (fun _ _ z => z) _ _ h3⟩
    · rcases key j _ h with ⟨_, q⟩ | ⟨_, q⟩
      · cases q
      · obtain ⟨z', b, o', ks, h1, h2, h3, h4⟩ := I.si.ownd j t k q
        exact ⟨z', b, o', ks, h1, h2, h3, RP.mono sF (fun _ _ z => z) _ _ _ h4⟩
    · obtain ⟨hj, q⟩ := key2 j s h hs
      obtain ⟨f1, f2⟩ := I.si.free j s b q hs e'
      refine ⟨?_, f2⟩
      rw [upd_ne fun (z : b = a) => hj (I.si.inj j i s _ a q e hs h0 (by rw [← z]; exact e') e1)]
      exact f1
    · obtain ⟨_, q1⟩ := key2 j s h1 hs
      obtain ⟨_, q2⟩ := key2 k t h2 ht
      exact I.si.inj j k s t b q1 q2 hs ht e1' e2'
    · by_cases hb : b = a
      · subst hb; exact .inr (.inl hz)
      · rw [upd_ne hb] at q; exact I.es.newF b o q
    · obtain ⟨_, q⟩ := key2 j s h hs
      exact I.fr j s b q hs e'
theorem FI.frz1 {K : PySem.W.Frag} {Z : Zn} {σ : St} {r : Env} {S : Store} {H F : Hp} {m : List Addr} (I : FI K Z σ r S H F m) (i : Nat) : ∃ F', FI K Z σ (frz1 r i) S H F' m ∧ Later F m F' m := by
  unfold Pk.frz1
  split
  · rename_i l e
    obtain ⟨z, a, xs, e1, e2, e3⟩ := I.si.own i l e
    obtain ⟨hF, hm⟩ := I.si.free i _ a e rfl e1
    refine I.frzS e rfl e1 e2 ?_
    unfold RV
    exact ⟨z, a, xs, rfl, .inl (.inl upd_same), RVs.mono (same_upd hF) (fun _ _ z => z) _ _ e3⟩
  · rename_i t l e
    obtain ⟨z, a, o, ks, e1, e2, e3, e4⟩ := I.si.ownd i t l e
    obtain ⟨hF, hm⟩ := I.si.free i _ a e rfl e1
    refine I.frzS e rfl e1 e2 ?_
    unfold RV
    exact ⟨z, a, o, ks, rfl, upd_same, e3, RP.mono (same_upd hF) (fun _ _ z => z) _ _ _ e4⟩
  · exact ⟨F, I, Later.refl _ _⟩
theorem FI.frz {K : PySem.W.Frag} {Z : Zn} {σ : St} {S : Store} {H : Hp} {m : List Addr} : ∀ (is : List Nat) {r : Env} {F : Hp}, FI K Z σ r S H F m → ∃ F', FI K Z σ (is.foldl Pk.frz1 r) S H F' m ∧ Later F m F' m
  | [], _, F, I => ⟨F, I, Later.refl _ _⟩
  | i :: is, _, _, I => by
    obtain ⟨F1, I1, l1⟩ := I.frz1 i
    obtain ⟨F2, I2, l2⟩ := FI.frz is I1
    exact ⟨F2, I2, l1.trans l2⟩
theorem ss_frz {sts : List Stmt} {f : Sx} {is : List Nat} (h : PSs X sts (tsOf G f)) : PSs X sts (tsOf G (sSeq (sFrz is) f)) :=
  PSs.imp h fun D σ H h => by
    obtain ⟨Z, r, S, F, m, I, h⟩ := h
    obtain ⟨F', I', l'⟩ := I.frz is
    exact ⟨Z, _, S, F', m, I', spost_later h l'⟩
end
end Pk
namespace Pk
open PySem PySem.Spec PyProof.Rows L2
/-! ### calls with keywords -/
def perm {α : Type} (pm : List Nat) (l : List α) : List α := pm.filterMap (l[·]?)
theorem perm_cons {α : Type} (i : Nat) (pm : List Nat) (l : List α) : perm (i :: pm) l = (match l[i]? with | some x => x :: perm pm l | none => perm pm l) := by
  unfold perm
  rw [List.filterMap_cons]
  cases l[i]? <;> rfl
theorem perm_vals {pm : List Nat} {vs : List V} {us : List Value} (h : Vals vs us) : Vals (perm pm vs) (perm pm us) := by
  induction pm with
  | nil => exact .nil
  | cons i pm ih =>
    rw [perm_cons, perm_cons]
    cases e : vs[i]? with
    | none =>
      have : us[i]? = none := by
        rw [List.getElem?_eq_none_iff] at e ⊢
        rw [← h.length]; exact e
      rw [this]; exact ih
    | some v =>
      obtain ⟨u, h1, h2⟩ := h.get e
      rw [h1]; exact .cons h2 ih
theorem perm_rv {K : PySem.W.Frag} {F : Hp} {m : List Addr} {pm : List Nat} {ds : List D} {vs : List V} (h : RVs K F m ds vs) : RVs K F m (perm pm ds) (perm pm vs) := by
  induction pm with
  | nil => simp [perm, RVs]
  | cons i pm ih =>
    rw [perm_cons, perm_cons]
    cases e : ds[i]? with
    | none =>
      have : vs[i]? = none := by
        rw [List.getElem?_eq_none_iff] at e ⊢
        rw [h.length]; exact e
      rw [this]; exact ih
    | some v =>
      obtain ⟨u, h1, h2⟩ := h.get e
      rw [h1]; simp only [RVs]; exact ⟨_, _, rfl, h2, ih⟩
def KOk (K : PySem.W.Frag) (fd : FuncData) (ps : List Str) (n : Nat) (ks : List Str) (pm : List Nat) : Prop := ∀ (s : Shared) (us ws : List Value), K.In s.heap → us.length = n → ws.length = ks.length → BindsTo s fd ⟨us, ks.zip ws⟩ (ps.zip (perm pm (us ++ ws)))
def kwNames : List Keyword → Option (List Str)
  | [] => some []
  | ⟨some x, _, _⟩ :: ks => (kwNames ks).map (x :: ·)
  | _ => none
theorem kw_all {kws : List Keyword} {ks : List Str} (pos : Pos) (env : PySem.Env) (h : kwNames kws = some ks) : (backToKw pos (keywordEach kws env)).all (·.1.isSome) = true ∧ (backToKw pos (keywordEach kws env)).filterMap (·.1) = ks ∧ (backToKw pos (keywordEach kws env)).any (·.1.isNone) = false := by
  induction kws generalizing ks with
  | nil => cases h; exact ⟨rfl, rfl, rfl⟩
  | cons k kws ih =>
    obtain ⟨x, e, p⟩ := k
    cases x with
    | none => cases h
    | some x =>
      unfold kwNames at h
      obtain ⟨ks', e1, rfl⟩ := Option.map_eq_some_iff.mp h
      obtain ⟨h1, h2, h3⟩ := ih e1
      unfold backToKw at h1 h2 h3 ⊢
      refine ⟨?_, ?_, ?_⟩
      · simp only [keywordEach, List.map_cons, List.all_cons, Bool.and_eq_true]
        exact ⟨rfl, h1⟩
      · simp only [keywordEach, List.map_cons, List.filterMap_cons]
        rw [h2]
      · simp only [keywordEach, List.map_cons, List.any_cons, Bool.or_eq_false_iff]
        exact ⟨rfl, h3⟩
def tKS (sp : Sp) (n m : Nat) (pm : List Nat) (E : St → XK) (t tk : TA) : TE := fun σ H Q => t σ H fun vs H1 => tk σ H1 fun zs H2 => vs.length = n ∧ zs.length = m ∧ sp (perm pm (vs ++ zs)) H2 Q (E σ)
theorem Vals.app {xs ys : List V} {us vs : List Value} (h1 : Vals xs us) (h2 : Vals ys vs) : Vals (xs ++ ys) (us ++ vs) := by
  induction h1 with
  | nil => exact h2
  | cons a _ ih => exact .cons a ih
section
variable {X : Cx} {CX : CXT} {k n : Nat} {f : Addr} {fd : FuncData} {ps ks : List Str} {sp : Sp} {E : St → XK} {x : Str} {p pos : Pos} {e : Expr} {es : List Expr} {kws : List Keyword} {t tk : TA} {pm : List Nat}
theorem run_ks {pins : List (Addr × Obj)} {σ : St} {H : Hp} {s : Shared} {Q : VK} {us ws : List Value} {vs zs : List V} (F : FnOk X.prog X.w X.K X.mg X.base CX k f fd ps sp) (hr : Room k X.A) (hb : KOk X.K fd ps n ks pm) (hx : PassesAt CX X σ (E σ))
    (I : Inv X pins σ H s) (r : Vals vs us) (rz : Vals zs ws) (l1 : vs.length = n) (l2 : zs.length = ks.length) (h : sp (perm pm (vs ++ zs)) H Q (E σ)) : wpAny (model X.prog X.w) X.A (call (.ref f) us (ks.zip ws)) (EP X pins σ Q) X.xe s := by
  have r2 := perm_vals (pm := pm) (Vals.app r rz)
  refine wpAny_call (codeAny_mono (F.run X.A X.stack s H ⟨us, ks.zip ws⟩ (perm pm (us ++ ws)) (perm pm (vs ++ zs)) Q (E σ) hr I.env0 (hb s us ws I.kIn (r.length.symm.trans l1) (rz.length.symm.trans l2)) r2 h) fun r s' hq => ?_)
  cases r with
  | error e => exact hx pins H s e s' I hq
  | ok fl =>
    cases fl with
    | ret u => exact I.after hq
    | next => exact False.elim hq
    | brk => exact False.elim hq
    | cont => exact False.elim hq
theorem pe_ks (F : FnOk X.prog X.w X.K X.mg X.base CX k f fd ps sp) (hr : Room k X.A) (hg : Gl X x) (hm : X.mg x = some (.ref f)) (hk : PySem.W.keepIn X.K (.ref f) = true) (hb : KOk X.K fd ps n ks pm) (hx : ∀ σ, PassesAt CX X σ (E σ))
    (ha : PA X (e :: es) t) (hps : ∀ e' ∈ e :: es, plainArg e' = true) (hkw : PK X kws tk) (hkn : kwNames kws = some ks) (hdb : (x == ("__debug__" : Str)) = false) :
    PE X (.Call (.Name x p) (e :: es) kws pos) (tKS sp n ks.length pm E t tk) := by
  obtain ⟨k1, k2, k3⟩ := kw_all pos X.env hkn
  refine ⟨fun pins s σ H Q I h => ?_⟩
  refine wpAny_Call_Name_kw (ld_glob I hg hm ?_ hdb)
  refine PySem.W.callWith_KW (h₀ := X.base) I.ok.mod.kin hk k1 (thn (ha.run pos pins s σ H _ I h) fun us s1 ⟨vs, H1, I1, r, q⟩ => ?_) (by rw [any_of pos _ hps, k3]; rfl) (star_cons (hps e List.mem_cons_self) _ _)
  refine thn (hkw.run pos pins s1 σ H1 _ I1 q) fun ws s2 ⟨zs, H2, I2, rz, l1, l2, q2⟩ => ⟨I2.kIn, ?_⟩
  rw [k2]
  exact run_ks F hr hb (hx σ) I2 r rz l1 l2 q2
theorem pe_ks0 (F : FnOk X.prog X.w X.K X.mg X.base CX k f fd ps sp) (hr : Room k X.A) (hg : Gl X x) (hm : X.mg x = some (.ref f)) (hk : PySem.W.keepIn X.K (.ref f) = true) (hb : KOk X.K fd ps 0 ks pm) (hx : ∀ σ, PassesAt CX X σ (E σ))
    (hkw : PK X kws tk) (hkn : kwNames kws = some ks) (hdb : (x == ("__debug__" : Str)) = false) :
    PE X (.Call (.Name x p) [] kws pos) (tKS sp 0 ks.length pm E tNil tk) := by
  obtain ⟨k1, k2, k3⟩ := kw_all pos X.env hkn
  refine ⟨fun pins s σ H Q I h => ?_⟩
  refine wpAny_Call_Name_kw (ld_glob I hg hm ?_ hdb)
  refine PySem.W.callWith_KW0 (h₀ := X.base) I.ok.mod.kin hk k1 ?_ (by rw [k3]; rfl)
  refine thn (hkw.run pos pins s σ H _ I h) fun ws s2 ⟨zs, H2, I2, rz, l1, l2, q2⟩ => ⟨I2.kIn, ?_⟩
  rw [k2]
  exact run_ks (us := []) (vs := []) F hr hb (hx σ) I2 .nil rz l1 l2 q2
end
theorem eArgs_app (fs gs : List Ex) (r : Env) (S : Store) : eArgs (fs ++ gs) r S = (eArgs fs r S).bind fun l S1 => (eArgs gs r S1).bind fun k S2 => .ok (l ++ k) S2 := by
  induction fs generalizing S with
  | nil =>
    show eArgs gs r S = (eArgs gs r S).bind fun k S2 => .ok k S2
    cases eArgs gs r S <;> rfl
  | cons f fs ih =>
    show (f r S).bind (fun d S1 => (eArgs (fs ++ gs) r S1).bind fun ds S2 => .ok (d :: ds) S2) = ((f r S).bind fun d S1 => (eArgs fs r S1).bind fun ds S2 => .ok (d :: ds) S2).bind _
    cases f r S with
    | ok d S1 =>
      simp only [Out.bind]
      rw [ih]
      cases eArgs fs r S1 with
      | ok l S2 =>
        simp only [Out.bind]
        cases eArgs gs r S2 <;> rfl
      | exc x S2 => rfl
      | no => rfl
    | exc x S1 => rfl
    | no => rfl
theorem eArgs_len : ∀ (fs : List Ex) (r : Env) (S : Store) l S', eArgs fs r S = .ok l S' → l.length = fs.length := by
  intro fs
  induction fs with
  | nil => intro r S l S' e; cases e; rfl
  | cons f fs ih =>
    intro r S l S' e
    unfold eArgs at e
    cases e1 : f r S with
    | ok d S1 =>
      rw [e1] at e
      simp only [Out.bind] at e
      cases e2 : eArgs fs r S1 with
      | ok ds S2 => rw [e2] at e; simp only at e; cases e; simp [ih _ _ _ _ e2]
      | exc x S2 => rw [e2] at e; cases e
      | no => rw [e2] at e; cases e
    | exc x S1 => rw [e1] at e; cases e
    | no => rw [e1] at e; cases e
section
variable {X : Cx} {G : Gb} {k n : Nat} {f : Addr} {fd : FuncData} {ps ks : List Str} {x : Str} {p pos : Pos} {es : List Expr} {kws : List Keyword} {pm : List Nat} {g : List D → M D} {fs gs : List Ex}
theorem post_impE {α : Type} {σ : St} {H F H' F' : Hp} {m m' : List Addr} {o : Out α} {Q Q' : α → Store → Prop} (h : post G σ H F m o Q) (p : Step H F m H' F' m') (q : ∀ a S', o = .ok a S' → Q a S' → Q' a S') : post G σ H' F' m' o Q' := by
  cases o with
  | ok a S' => exact q _ _ rfl h
  | exc x S' => exact Xok.step h p
  | no => exact h
theorem ks_reads (hK : X.K = G.K) (hM : X.mg = G.mg) (hfl : fs.length = n) (hgl : gs.length = ks.length) (hpl : ∀ l : List V, l.length = n + ks.length → (perm pm l).length = ps.length) {σ : St} {H : Hp} {Q : VK} (h : tOf G (eCall (fun l => g (perm pm l)) (fs ++ gs)) σ H Q) :
    tKS (spOf X.K X.mg ps.length g) n ks.length pm (fun σ => WE G.W σ) (taOf G (eArgs fs)) (taOf G (eArgs gs)) σ H Q := by
  obtain ⟨Z, r, S, F, m, I, h⟩ := h
  have h := post_bind h
  rw [eArgs_app] at h
  refine ⟨Z, r, S, F, m, I, post_impE (post_bind h) (Step.refl _ _ _) fun l S1 el h1 vs H1 F1 m1 hi1 st1 rv1 => ?_⟩
  have I1 := I.step hi1 st1
  refine ⟨Z, r, S1, F1, m1, I1, post_impE (post_bind h1) st1 fun l2 S2 el2 h2 zs H2 F2 m2 hi2 st2 rv2 => ?_⟩
  have n1 := eArgs_len _ _ _ _ _ el
  have n2 := eArgs_len _ _ _ _ _ el2
  have n3 := rv1.length
  have n4 := rv2.length
  refine ⟨by omega, by omega, hpl _ (by rw [List.length_append]; omega), S2, F2, m2, perm pm (l ++ l2), ?_, ?_, ?_⟩
  · rw [hK]; exact hi2
  · rw [hK]; exact perm_rv ((rv1.step st2).append rv2)
  · have h : post G σ H F m (g (perm pm (l ++ l2)) S2) _ := h2
    have st12 := st1.trans st2
    cases eg : g (perm pm (l ++ l2)) S2 with
    | ok d S3 =>
      rw [eg] at h
      intro v H3 F3 m3 hi3 st3 rv3
      rw [hK] at hi3 rv3
      exact h v H3 F3 m3 hi3 (st12.trans st3) rv3
    | exc x S3 =>
      rw [eg] at h
      intro cls dd H3 F3 m3 hi3 st3 xr
      rw [hK] at hi3
      rw [hM] at xr
      exact h cls dd H3 F3 m3 hi3 (st12.trans st3) xr
    | no => rw [eg] at h; exact h
theorem se_callK (hK : X.K = G.K) (hM : X.mg = G.mg) (Fn : FnOk X.prog X.w X.K X.mg X.base (L2.CX X.prog X.w) k f fd ps (spOf X.K X.mg ps.length g)) (hr : Room k X.A) (hg : Gl X x) (hm : X.mg x = some (.ref f)) (hk : PySem.W.keepIn X.K (.ref f) = true) (hb : KOk X.K fd ps n ks pm) (tk : Takes X G.W)
    (hdb : (x == ("__debug__" : Str)) = false) (hps : ∀ e' ∈ es, plainArg e' = true) (hen : es.length = n) (hfl : fs.length = n) (hgl : gs.length = ks.length) (hpl : ∀ l : List V, l.length = n + ks.length → (perm pm l).length = ps.length) (hkn : kwNames kws = some ks) (ha : PA X es (taOf G (eArgs fs))) (hkw : PK X kws (taOf G (eArgs gs))) :
    PE X (.Call (.Name x p) es kws pos) (tOf G (eCall (fun l => g (perm pm l)) (fs ++ gs))) := by
  cases es with
  | cons e es => exact PE.imp (pe_ks (E := fun σ => WE G.W σ) Fn hr hg hm hk hb (fun σ => passAt tk σ) ha hps hkw hkn hdb) fun σ H Q h => ks_reads hK hM hfl hgl hpl h
  | nil =>
    obtain rfl : n = 0 := hen.symm
    refine PE.imp (pe_ks0 (E := fun σ => WE G.W σ) Fn hr hg hm hk hb (fun σ => passAt tk σ) hkw hkn hdb) fun σ H Q h => ?_
    have z := ks_reads (X := X) hK hM hfl hgl hpl h
    obtain rfl : fs = [] := List.length_eq_zero_iff.mp hfl
    obtain ⟨Z, r, S, F, m, I, h⟩ := z
    exact h [] H F m I.hi (Step.refl _ _ _) (by simp [RVs])
theorem sk_nil : PK X [] (taOf G (eArgs [])) := ⟨fun pos pins s σ H Q I h => by
  obtain ⟨Z, r, S, F, m, I', h⟩ := h
  exact pk_nil.run pos pins s σ H Q I (h [] H F m I'.hi (Step.refl _ _ _) (by simp [RVs]))⟩
theorem sk_cons {e : Expr} {fe : Ex} {nm : Option Str} {kpos : Pos} (he : PE X e (tOf G fe)) (hk : PK X kws (taOf G (eArgs gs))) : PK X (⟨nm, e, kpos⟩ :: kws) (taOf G (eArgs (fe :: gs))) := ⟨fun pos pins s σ H Q I h => by
  refine (pk_cons he hk).run pos pins s σ H Q I ?_
  obtain ⟨Z, r, S, F, m, I', h⟩ := h
  refine ⟨Z, r, S, F, m, I', post_mono (post_bind h) fun d S1 h1 v H1 F1 m1 hi1 st1 rv1 => ?_⟩
  refine ⟨Z, r, S1, F1, m1, I'.step hi1 st1, post_imp (post_bind h1) st1 fun ds S2 h2 vs H2 F2 m2 hi2 st2 rv2 => ?_⟩
  refine h2 (v :: vs) H2 F2 m2 hi2 (st1.trans st2) ?_
  simp only [RVs]
  exact ⟨_, _, rfl, rv1.step st2, rv2⟩⟩
end
end Pk
namespace Pk
open PySem PySem.Spec PyProof.Rows L2 PySem.W
/-! ### sorted(xs, key=f) -/
/-- the keys of things, f being asked of each and changing nothing -/
noncomputable def keysD (g : List D → M D) (S : Store) : List D → Option (List D)
  | [] => some []
  | d :: l => match g [d] S with
    | .ok k S' => if gd (S' = S) then (keysD g S l).map (k :: ·) else none
    | _ => none
noncomputable def sortK (ks l : List D) : List D := ((l.zip ks).mergeSort fun a b => dLe a.2 b.2).map (·.1)
noncomputable def oSortK (g : List D → M D) (S : Store) : D → Option (List D)
  | .lst l => (keysD g S l).bind fun ks => if okSort ks then some (sortK ks l) else none
  | .tup l => (keysD g S l).bind fun ks => if okSort ks then some (sortK ks l) else none
  | _ => none
noncomputable def lSortK (g : List D → M D) (fa : Ex) : Lx := fun r S => (fa r S).bind fun a S1 => Out.some? ((der a S1).bind (oSortK g S1)) S1
theorem keysD_get {g : List D → M D} {S : Store} : ∀ {l ks : List D}, keysD g S l = some ks → ks.length = l.length ∧ ∀ (i : Nat) d, l[i]? = some d → ∃ k, ks[i]? = some k ∧ g [d] S = .ok k S
  | [], ks, h => by
    cases h
    exact ⟨rfl, fun i d e => by simp at e⟩
  | d :: l, ks, h => by
    unfold keysD at h
    cases e : g [d] S with
    | ok k S' =>
      rw [e] at h
      simp only at h
      split at h
      · rename_i hg
        have hS := gd_iff.mp hg
        subst hS
        cases e2 : keysD g S' l with
        | none => rw [e2] at h; cases h
        | some ks' =>
          rw [e2] at h
          cases h
          obtain ⟨h1, h2⟩ := keysD_get e2
          refine ⟨by simp [h1], fun i d' e' => ?_⟩
          cases i with
          | zero => simp at e'; subst e'; exact ⟨k, by simp, e⟩
          | succ i =>
            obtain ⟨k', e3, e4⟩ := h2 i d' (by simpa using e')
            exact ⟨k', by simpa using e3, e4⟩
      · cases h
    | exc x S' => rw [e] at h; cases h
    | no => rw [e] at h; cases h
/-- a key's call -/
def KeyFn (X : Cx) (A : Around) (f : Value) (g : List D → M D) : Prop :=
  ∀ (pins : List (Addr × Obj)) (s : Shared) (σ : St) (H F : Hp) (m : List Addr) (S : Store) (d k : D) (x : V) (v : Value) (Q : VK), Inv X pins σ H s → HI X.K S H F m → RV X.K F m d x → RelV x v → g [d] S = .ok k S →
    (∀ y H' F', HI X.K S H' F' m → Step H F m H' F' m → RV X.K F' m k y → Q y H') → wpAny (model X.prog X.w) A (call f [v]) (EP X pins σ Q) (fun _ _ => False) s
section
variable {X : Cx} {pins : List (Addr × Obj)} {σ : St} {H : Hp} {s : Shared} {h' : Heap}
/-- records of ours have turned, one of them is known from now on -/
theorem turnedOwn {t' : Nat} {ch : List Addr} {T : Addr} {ob : HO} (I : Inv X pins σ H s) (k : ∀ b o, b ∉ ch → s.heap.get? b = some o → h'.get? b = some o) (hf : ∀ b ∈ ch, FpOk X pins H b) (hT : T ∈ ch)
    (new : ObjOk X.prog X.w (upd H T ob) h' T ob) : Inv X pins σ (upd H T ob) { s with heap := h', toks := t' } := by
  have hn : H T = none := (hf T hT).1
  have nit : ∀ b u, H b = some u → b ∉ ch := fun b u e z => by
    have q := (hf b z).1
    rw [q] at e; cases e
  refine I.step (g' := s.gens) (d' := s.drawn) (ch := ch) (fun b hb => ⟨(hf b hb).2.2.2.1, (hf b hb).2.1, (hf b hb).2.2.2.2.1, (hf b hb).2.2.2.2.2⟩) (fun b o _ _ hc e _ => k b o hc e) (fun b o _ _ hc e _ => ⟨o.slots, k b o hc e⟩)
    (fun b o hc e n => ?_) (fun b o hc e => ⟨o, k b o hc e⟩) (fun b xs e => ?_) (fun b o u e => ?_) (fun b ps e => ⟨#[], ?_⟩) (fun m hm => ?_) (fun b u e => ?_) I.bare
  · rw [upd_ne (fun z => hc (by rw [z]; exact hT))]; exact n
  · rw [upd_ne (ne_of_none e hn)]; exact e
  · rw [upd_ne (ne_of_none e hn)]; exact e
  · rw [upd_ne (ne_of_none e hn), e]; simp
  · obtain ⟨o, es, ep, ho, r⟩ := hm
    exact ⟨o, es, ep, k _ o (fun z => (hf _ z).2.1 rfl) ho, r⟩
  · by_cases hb : b = T
    · subst hb
      rw [upd_same] at e
      cases e
      exact new
    · rw [upd_ne hb] at e
      refine (I.hok b u e).stay (fun c v hc q => k c v ?_ q) (fun c q => by rw [upd_ne (ne_of_none q hn)]; exact q) fun c xs q => by rw [upd_ne (ne_of_none q hn)]; exact q
      rcases hc with z | z
      · rw [z]; exact nit b u e
      · exact nit c _ z
end
section
variable {X : Cx}
theorem rvs_take_snoc {K : PySem.W.Frag} {F : Hp} {m : List Addr} {ks : List D} {xs : List V} {j : Nat} {k : D} {y : V} (h : RVs K F m (ks.take j) xs) (e : ks[j]? = some k) (r : RV K F m k y) : RVs K F m (ks.take (j + 1)) (xs ++ [y]) := by
  have ek : ks.take (j + 1) = ks.take j ++ [k] := by rw [List.take_add_one, e]; simp
  rw [ek]
  exact RVs.append h (RVs.one r)
theorem each_keys {K : PySem.W.Frag} {F : Hp} {m : List Addr} : ∀ {l ks : List D} {xs : List V} {us : List Value}, ks.length = l.length → RVs K F m l xs → Vals xs us → EachIs (fun (v : Value) (p : (D × V) × D) => RelV p.1.2 v ∧ RV K F m p.1.1 p.1.2) us ((l.zip xs).zip ks)
  | [], ks, xs, us, hl, h, r => by
    simp only [RVs] at h; subst h; cases r
    cases ks with
    | nil => exact .nil
    | cons k ks => simp at hl
  | d :: l, ks, xs, us, hl, h, r => by
    simp only [RVs] at h
    obtain ⟨y, ys, rfl, h1, h2⟩ := h
    cases ks with
    | nil => simp at hl
    | cons k ks =>
      cases r with
      | cons r1 r2 => exact .cons ⟨r1, h1⟩ (each_keys (by simpa using hl) h2 r2)
theorem each_back3 {K : PySem.W.Frag} {F : Hp} {m : List Addr} : ∀ {ps : List ((D × V) × D)} {us : List Value}, EachIs (fun (v : Value) (p : (D × V) × D) => RelV p.1.2 v ∧ RV K F m p.1.1 p.1.2) us ps → Vals (ps.map (·.1.2)) us ∧ RVs K F m (ps.map (·.1.1)) (ps.map (·.1.2))
  | _, _, .nil => ⟨.nil, by simp [RVs]⟩
  | _, _, .cons h t => by
    obtain ⟨h1, h2⟩ := each_back3 t
    refine ⟨.cons h.1 h1, ?_⟩
    simp only [List.map_cons, RVs]
    exact ⟨_, _, rfl, h.2, h2⟩
theorem each_reads {pins : List (Addr × Obj)} {s : Shared} {σ : St} {H F : Hp} {m : List Addr} {S : Store} (I : Inv X pins σ H s) (hi : HI X.K S H F m) : ∀ {ks : List D} {xs : List V} {us : List Value}, (∀ d ∈ ks, small d = true) → RVs X.K F m ks xs → Vals xs us → EachIs (fun (v : Value) (k : PyData) => ∃ as, Reads s.heap v k as) us (ks.map py)
  | [], xs, us, _, h, r => by simp only [RVs] at h; subst h; cases r; exact .nil
  | d :: l, xs, us, hs, h, r => by
    simp only [RVs] at h
    obtain ⟨y, ys, rfl, h1, h2⟩ := h
    cases r with
    | cons r1 r2 =>
      have hd := hs d List.mem_cons_self
      unfold small at hd
      rw [Bool.and_eq_true] at hd
      exact .cons (Dp.reads I (py d) y _ (RV.dp hi.sub d y hd.1 h1).1 r1) (each_reads I hi (fun d' h' => hs d' (List.mem_cons_of_mem _ h')) h2 r2)
theorem zip3 : ∀ {l ks : List D} {xs : List V}, ks.length = l.length → xs.length = l.length → l.zip ks = ((l.zip xs).zip ks).map fun p => (p.1.1, p.2)
  | [], _, _, _, _ => by simp
  | d :: l, [], _, h, _ => by simp at h
  | d :: l, k :: ks, [], _, h => by simp at h
  | d :: l, k :: ks, x :: xs, h, h' => by simp [zip3 (l := l) (ks := ks) (xs := xs) (by simpa using h) (by simpa using h')]
theorem fp_new {pins : List (Addr × Obj)} {s : Shared} {σ : St} {H : Hp} {g : Heap} {b : Addr} (I : Inv X pins σ H s) (k : ∀ b u, s.heap.get? b = some u → g.get? b = some u) (hb : g.objs.size ≤ b) : FpOk X pins H b := by
  have no : ∀ {c : Addr} {u : Obj}, s.heap.get? c = some u → c ≠ b := fun e z => by
    have := Heap.lt_size (k _ _ e)
    rw [z] at this
    exact absurd this (Nat.not_lt.mpr hb)
  have hlt : X.env.locals < b := by
    obtain ⟨m', ⟨o', _, _, ho', _⟩, _⟩ := I.loc
    exact Nat.lt_of_lt_of_le (Heap.lt_size (k _ _ ho')) hb
  refine ⟨?_, Nat.ne_of_gt hlt, fun z => ?_, .inr (Nat.le_trans I.ok.above (Nat.le_of_lt hlt)), fun x c e z => ?_, fun p hp z => ?_⟩
  · cases q : H b with
    | none => rfl
    | some u =>
      obtain ⟨ob, hx⟩ := objEx (I.hok b u q)
      exact (no hx rfl).elim
  · obtain ⟨_, o, ho, _⟩ := I.ok.funs.mem z
    obtain ⟨o', ho'⟩ := I.base.there b o ho (fun y => I.ok.exfs b y z)
    exact no ho' rfl
  · obtain ⟨v, o, ho, _⟩ := I.cell x c e
    exact no ho z
  · exact no (I.pin p hp).1 z
set_option maxHeartbeats 1000000 in
theorem sortk_core {pins : List (Addr × Obj)} {s : Shared} {σ : St} {H F : Hp} {m : List Addr} {S : Store} {Q : VK} {l ks : List D} {a : Addr} {xs : List V} {its : List Value} {T : String} {o : Obj} {n : Nat} {f : Value} {g : List D → M D} {kw : List (Str × Value)} (hu : X.A.units + 65 < cLine)
    (hf : KeyFn X X.A.in1.in1 f g) (I : Inv X pins σ H s) (hi : HI X.K S H F m) (hT : T = "list" ∨ T = "tuple") (ho : s.heap.get? a = some o) (hc : o.cls = .type T) (hd : o.data = .seq its.toArray n)
    (ha1 : argsOk "sorted" ⟨[.ref a], kw⟩) (ha2 : ∀ x, argsOk "list.sort" ⟨[.ref x], kw⟩) (ht : ∀ x, Builtin.«list.sort» ⟨[.ref x], kw⟩ = ksk_tree x f false)
    (rv : RVs X.K F m l xs) (r : Vals xs its) (hz : l.length ≤ sizeLine) (hk : keysD g S l = some ks) (hs : okSort ks = true) (q : ∀ v H' F', HI X.K S H' F' m → Step H F m H' F' m → New X.K (sortK ks l) v H' F' m H → Q v H') : wpAny (model X.prog X.w) X.A (call (.builtin "sorted") [.ref a] kw) (EP X pins σ Q) X.xe s := by
  obtain ⟨h1, h2, h3⟩ := okSort_all hs
  obtain ⟨hkl, hkg⟩ := keysD_get hk
  have hl := rv.length
  have hrl := r.length
  have hL : its.length ≤ sizeLine := by omega
  refine call_function_entry_kw kind_sorted plain_sorted entry_sorted ha1 ?_
  unfold Builtin.«sorted»
  refine wpAny_bind (m := checkCount "sorted" 1 1 _) (wpAny_pure ?_)
  refine wpAny_bind (wpAny_collect_seq a hT ho hc hd (fun g1 k1 => ?_) (by rw [List.size_toArray]; exact hL))
  rw [List.toList_toArray]
  refine wpAny_bind (wpAny_newList ?_ hL)
  show wpAny _ _ _ _ _ { s with heap := g1.push (seqObj "list" its.toArray 0) }
  have k2 : ∀ b u, s.heap.get? b = some u → (g1.push (seqObj "list" its.toArray 0)).get? b = some u := fun b u q => Heap.get?_push_of_some _ (k1 b u q)
  have a2 : (g1.push (seqObj "list" its.toArray 0)).get? g1.objs.size = some (seqObj "list" its.toArray 0) := Heap.get?_push_size _ rfl
  have fpL : FpOk X pins H g1.objs.size := fp_new I k1 (Nat.le_refl _)
  have fpK : FpOk X pins H (g1.objs.size + 2) := fp_new I k1 (Nat.le_add_right _ 2)
  have szL : (g1.push (seqObj "list" its.toArray 0)).objs.size = g1.objs.size + 1 := size_push' _ _
  generalize g1.objs.size = L at a2 fpL fpK szL ⊢
  generalize g1.push (seqObj "list" its.toArray 0) = g2 at a2 k2 szL ⊢
  refine wpAny_bind (wpAny_holding (wpAny_call_entry_kw slot_list_sort ⟨_, a2, rfl⟩ entry_list_sort ?body (ha2 _)))
  case body =>
    show wpAny (model X.prog X.w) X.A.in1.in1 (Builtin.«list.sort» ⟨[.ref L], kw⟩) _ _ _
    rw [ht]
    obtain ⟨e1, ho1⟩ : ∃ e1, (g2.update L (Obj.mapSeq fun _ => (#[] : Array Value))).get? L = some (seqObj "list" #[] e1) := ⟨_, get?_update_seq a2 fun _ => #[]⟩
    have hkS : ((g2.update L (Obj.mapSeq fun _ => (#[] : Array Value))).push (seqObj "tuple" its.toArray 0)).objs.size = L + 2 := by rw [size_push', Heap.size_update, szL]
    unfold ksk_tree
    refine wpAny_bind (listItems_at a2 rfl ?_)
    refine wpAny_bind (listUpdate_at a2 rfl ?_ (by rw [List.size_toArray]; exact hL) (Nat.zero_le _))
    refine wpAny_bind (seqEpoch_at ho1 rfl ?_)
    refine wpAny_bind (wpAny_newTuple ?_ (by show its.length ≤ _; exact hL))
    refine wpAny_bind (wpAny_newList ?_ (Nat.zero_le _))
    refine wpAny_holding ?_
    rw [hkS]
    have k3 : ∀ b u, b ≠ L → s.heap.get? b = some u → (((g2.update L (Obj.mapSeq fun _ => (#[] : Array Value))).push (seqObj "tuple" its.toArray 0)).push (seqObj "list" #[] 0)).get? b = some u := fun b u hb e =>
      Heap.get?_push_of_some _ (Heap.get?_push_of_some _ ((Heap.get?_update_ne _ _ _ _ hb).trans (k2 b u e)))
    have nk : (((g2.update L (Obj.mapSeq fun _ => (#[] : Array Value))).push (seqObj "tuple" its.toArray 0)).push (seqObj "list" #[] 0)).get? (L + 2) = some (seqObj "list" #[] 0) := by
      rw [← hkS]; exact Heap.get?_push_size _ rfl
    have na : (((g2.update L (Obj.mapSeq fun _ => (#[] : Array Value))).push (seqObj "tuple" its.toArray 0)).push (seqObj "list" #[] 0)).get? L = some (seqObj "list" #[] e1) := Heap.get?_push_of_some _ (Heap.get?_push_of_some _ ho1)
    show wpAny _ _ _ _ _ { s with heap := ((g2.update L (Obj.mapSeq fun _ => (#[] : Array Value))).push (seqObj "tuple" its.toArray 0)).push (seqObj "list" #[] 0) }
    generalize ((g2.update L (Obj.mapSeq fun _ => (#[] : Array Value))).push (seqObj "tuple" its.toArray 0)).push (seqObj "list" #[] 0) = g3 at k3 nk na ⊢
    have hLK : L + 2 ≠ L := by omega
    have I3 : Inv X pins σ H { s with heap := g3 } := I.turnedL (t' := s.toks) (ch := [L]) (fun b u hb e => k3 b u (fun z => hb (by simp [z])) e) fun b hb => by
      have e : b = L := by simpa using hb
      rw [e]; exact fpL
    unfold ksk_rest
    refine wpAny_bind (wpAny_rule ?_)
    first
      | rw [List.forIn_toArray]
      | (rw [← Array.forIn_toList]; simp only [List.toList_toArray])
      | rw [← Array.forIn_toList]
    refine wpAny_bind (ksk_fold (fun i s' => ∃ H' F' xsK kA e, Inv X pins σ H' s' ∧ HI X.K S H' F' m ∧ Step H F m H' F' m ∧ FpOk X pins H' L ∧ FpOk X pins H' (L + 2) ∧ s'.heap.get? (L + 2) = some (seqObj "list" kA e) ∧ s'.heap.get? L = some (seqObj "list" #[] e1) ∧ RVs X.K F' m (ks.take i) xsK ∧ Vals xsK kA.toList) its 0 _
      ⟨H, F, [], #[], 0, I3, hi, Step.refl _ _ _, fpL, fpK, nk, na, by simp [RVs], .nil⟩ ?step ?done)
    case step =>
      rintro j x s' hx ⟨H', F', xsK, kA, e, I', hi', st', fL', fK', nk', na', rk, rvK⟩
      simp only [Nat.zero_add] at rk ⊢
      have hj : j < its.length := (List.getElem?_eq_some_iff.mp hx).1
      obtain ⟨y, hy⟩ : ∃ y, xs[j]? = some y := ⟨_, List.getElem?_eq_getElem (by omega)⟩
      obtain ⟨d, hdj⟩ : ∃ d, l[j]? = some d := ⟨_, List.getElem?_eq_getElem (by omega)⟩
      obtain ⟨k, hkj, hgk⟩ := hkg j d hdj
      obtain ⟨y', hy', rvd⟩ := rv.get hdj
      rw [hy] at hy'; cases hy'
      obtain ⟨x', hx', rel⟩ := r.get hy
      rw [hx] at hx'; cases hx'
      have hsz : kA.size ≤ its.length := by
        have q1 := rk.length
        have q2 := rvK.length
        rw [List.length_take] at q1
        have q3 : kA.toList.length = kA.size := Array.length_toList
        omega
      have IP : Inv X ((L + 2, seqObj "list" kA e) :: (L, seqObj "list" #[] e1) :: pins) σ H' s' := I'.pins_of fun p hp => by
        rcases List.mem_cons.mp hp with rfl | hp
        · exact ⟨nk', fK'.1, fK'.2.1, fK'.2.2.1, fun v z => by cases z⟩
        · rcases List.mem_cons.mp hp with rfl | hp
          · exact ⟨na', fL'.1, fL'.2.1, fL'.2.2.1, fun v z => by cases z⟩
          · exact I'.pin p (List.mem_append_right _ hp)
      refine wpAny_bind (wpAny_attempt (wpAny_mono (hf _ s' σ H' F' m S d k y x _ IP hi' (rvd.step st') rel hgk fun z H2 F2 hi2 st2 rvz => (⟨F2, hi2, st2, rvz⟩ : (fun (z : V) (H2 : Hp) => ∃ F2, HI X.K S H2 F2 m ∧ Step H' F' m H2 F2 m ∧ RV X.K F2 m k z) z H2)) (fun v s'' he => ?_) fun _ _ hF => hF.elim))
      obtain ⟨z, H2, I2, rz, F2, hi2, st2, rvz⟩ := he
      try dsimp only
      have p1 := I2.pin (L + 2, seqObj "list" kA e) (List.mem_append_right _ List.mem_cons_self)
      have p2 := I2.pin (L, seqObj "list" #[] e1) (List.mem_append_right _ (List.mem_cons_of_mem _ List.mem_cons_self))
      have fL2 : FpOk X pins H2 L := ⟨p2.2.1, fL'.2⟩
      have fK2 : FpOk X pins H2 (L + 2) := ⟨p1.2.1, fK'.2⟩
      have I2' : Inv X pins σ H2 s'' := I2.pins_of fun p hp => I2.pin p (List.mem_append_right _ (List.mem_cons_of_mem _ (List.mem_cons_of_mem _ hp)))
      have s1 := Heap.SameBut.update s''.heap (L + 2) (Obj.mapSeq (·.push v))
      obtain ⟨c2, hc2⟩ : ∃ c2, (s''.heap.update (L + 2) (Obj.mapSeq (·.push v))).get? (L + 2) = some (seqObj "list" (kA.push v) c2) := ⟨_, get?_update_seq p1.1 (·.push v)⟩
      refine wpAny_bind (listUpdate_at p1.1 rfl ?_ (Nat.le_trans hsz hL) (Nat.le_trans (Nat.le_of_eq (Array.size_push ..)) (Nat.succ_le_succ (Nat.le_trans hsz hL))))
      refine wpAny_pure ⟨rfl, H2, F2, xsK ++ [z], kA.push v, c2, I2'.turnedL (t' := s''.toks) (ch := [L + 2]) (fun b u hb e => (s1.2 b (fun z => hb (by simp [z]))).trans e) (fun b hb => ?_), hi2, st'.trans st2, fL2, fK2, hc2, (s1.2 L hLK.symm).trans p2.1, rvs_take_snoc (rk.step st2) hkj rvz, ?_⟩
      · have e : b = L + 2 := by simpa using hb
        rw [e]; exact fK2
      · rw [Array.toList_push]
        exact rvK.append (.cons rz .nil)
    case done =>
      rintro s' ⟨H', F', xsK, kA, e, I', hi', st', fL', fK', nk', na', rk, rvK⟩
      have e3 : ks.take (0 + its.length) = ks := List.take_of_length_le (by omega)
      rw [e3] at rk
      have hsz : kA.size = its.length := by
        have q1 := rk.length
        have q2 := rvK.length
        have q3 : kA.toList.length = kA.size := Array.length_toList
        omega
      have hk' : EachIs (fun v k => ∃ as, Reads s'.heap v k as) kA.toList (ks.map py) := each_reads I' hi' (fun d hd => (h2 d hd).1) rk rvK
      try dsimp only
      refine wpAny_bind (listItems_at nk' rfl ?_)
      refine keyH_end (κ := dataKind s'.heap (ks.map py)) (h₁ := hideAll s'.heap [L + 2]) (fun b o hb e => of_hideAll _ e) (hideAll_none _ (by simp)) nk' na' hLK (sorts_any hk' h1 h3 fun d hd => ?_) hsz hL fun h' tk c kp hn => ?_
      · obtain ⟨d', hd', rfl⟩ := List.mem_map.mp hd
        have := (h2 d' hd').2
        show X.A.units + 1 + 1 + (py d').depth < cLine
        omega
      · have e4 : ((l.zip xs).zip ks).map (fun p => py p.2) = ks.map py := by
          rw [show (fun p : (D × V) × D => py p.2) = py ∘ (·.2) from rfl, ← List.map_map, List.map_snd_zip (by rw [List.length_zip]; omega)]
        have ko : KeyedOut false (((l.zip xs).zip ks).map fun p => py p.2) its (sortVals (dataKind s'.heap (ks.map py)) false kA.toList its) := by
          rw [e4]; exact ⟨s'.heap, kA.toList, h1, rfl, hk'⟩
        have eo := keyedOut_each (R := fun (v : Value) (p : (D × V) × D) => RelV p.1.2 v ∧ RV X.K F' m p.1.1 p.1.2) (fun p : (D × V) × D => py p.2) ko (each_keys hkl (rv.step st') r)
        obtain ⟨v1, v2⟩ := each_back3 eo
        have em : (((l.zip xs).zip ks).mergeSort (dataLe false fun p : (D × V) × D => py p.2)).map (·.1.1) = sortK ks l := by
          unfold sortK
          have e5 := zip3 hkl hl
          rw [e5, ← List.map_mergeSort (r := dataLe false fun p : (D × V) × D => py p.2) (s := fun a b : D × D => dLe a.2 b.2) (f := fun p : (D × V) × D => (p.1.1, p.2)) (fun _ _ _ _ => rfl), List.map_map]; rfl
        rw [em] at v2
        have hlen2 : (List.map (fun x : (D × V) × D => x.1.2) (((l.zip xs).zip ks).mergeSort (dataLe false fun p : (D × V) × D => py p.2))).length = l.length := by
          rw [List.length_map, List.length_mergeSort, List.length_zip, List.length_zip]; omega
        have hml : (sortK ks l).length ≤ sizeLine := by
          have := v2.length
          rw [hlen2] at this
          omega
        refine ⟨_, rfl, wpAny_pure ⟨_, rfl, ?_⟩⟩
        have kp2 : ∀ b u, b ∉ [L, L + 2] → s'.heap.get? b = some u → h'.get? b = some u := fun b u hb e => kp b u (fun z => hb (by simp [z])) (hideAll_get _ e (fun z => hb (by simp at z; simp [z])))
        obtain ⟨hi4, st4⟩ := hi'.loose (o := .lst (List.map (fun x : (D × V) × D => x.1.2) (((l.zip xs).zip ks).mergeSort (dataLe false fun p : (D × V) × D => py p.2)))) fL'.1
        refine ⟨.ref L, upd H' L (.lst _), turnedOwn (t' := tk) (ch := [L, L + 2]) I' kp2 (fun b hb => ?_) (by simp) ⟨by rw [hlen2]; exact hz, _, c, v1, hn⟩, rfl, q _ _ _ hi4 (st'.trans st4) ⟨L, _, rfl, fpL.1, upd_same, hi'.fF fL'.1, hi'.notin fL'.1, hml, v2⟩⟩
        simp only [List.mem_cons, List.not_mem_nil, or_false] at hb
        rcases hb with rfl | rfl
        · exact fL'
        · exact fK'
theorem cx_no {P : Program} {w : World} {outer : List PySem.Env} {H : Hp} {s s' : Shared} {e : Value} (h : L2.CX P w outer H s (fun _ _ _ => False) e s') : False := by
  obtain ⟨_, _, _, _, _, _, _, _, _, _, _, _, h⟩ := h
  exact h
theorem pre_eq {m m' : List Addr} (hl : m'.length = m.length) (pre : ∀ (n : Nat) a, m[n]? = some a → m'[n]? = some a) : m' = m := by
  refine List.ext_getElem? fun n => ?_
  cases e : m[n]? with
  | some a => exact pre n a e
  | none =>
    rw [List.getElem?_eq_none_iff] at e ⊢
    omega
theorem keyFn_def {k : Nat} {f : Addr} {fd : FuncData} {ps : List Str} {g : List D → M D} (Fn : FnOk X.prog X.w X.K X.mg X.base (L2.CX X.prog X.w) k f fd ps (spOf X.K X.mg ps.length g)) (hr : Room (k + 2) X.A) (hb : Binds X.K fd ps []) (hp : ps.length = 1) : KeyFn X X.A.in1.in1 (.ref f) g := by
  intro pins s σ H F m S d kd x v Q I hi rv rel hg q
  have hbd := hb s [v] I.kIn (by simp [hp])
  simp only [List.append_nil] at hbd
  refine wpAny_call (codeAny_mono (Fn.run X.A.in1.in1 X.stack s H ⟨[v], []⟩ [v] [x] Q (fun _ _ _ => False) hr.in1.in1 I.env0.in1.in1 hbd (.cons rel .nil) ⟨by simp [hp], S, F, m, [d], hi, RVs.one rv, ?_⟩) fun r s' hq => ?_)
  · rw [hg]
    intro y H' F' m' hi' st' rv'
    have hm : m' = m := pre_eq (by rw [hi'.len, hi.len]) st'.pre
    subst hm
    exact q y H' F' hi' st' rv'
  · cases r with
    | error e => exact (cx_no hq).elim
    | ok fl =>
      cases fl with
      | ret u => exact I.after hq
      | next => exact False.elim hq
      | brk => exact False.elim hq
      | cont => exact False.elim hq
/-- what sorted(x, key=f) asks -/
def rSK (K : PySem.W.Frag) (g : List D → M D) (fv : V) : List V → List V → Hp → VK → Prop := fun xs zs H Q => ∃ x, xs = [x] ∧ zs = [fv] ∧ ∃ S F m a l, HI K S H F m ∧ Vw K H F m a x ∧ oSortK g S a = some l ∧ ∀ v H' F', HI K S H' F' m → Step H F m H' F' m → New K l v H' F' m H → Q v H'
theorem c_sortedK {f : Addr} {g : List D → M D} (hu : X.A.units + 65 < cLine) (hf : KeyFn X X.A.in1.in1 (.ref f) g) : CallRK X (.builtin "sorted") [Str.ofString "key"] (rSK X.K g (.ref f)) := by
  intro pins s σ H vs zs us ws Q I r rz h
  obtain ⟨x, rfl, rfl, S, F, m, d, l, hi, va, e1, q⟩ := h
  obtain ⟨w1, rfl, ew⟩ := vals1 rz
  obtain rfl : w1 = Value.ref f := ew
  cases r with
  | cons r0 r1 =>
    cases r1
    cases d with
    | lst l =>
      simp only [oSortK] at e1
      obtain ⟨ks, hk, e2⟩ := Option.bind_eq_some_iff.mp e1
      split at e2
      · cases e2
        rename_i hs
        obtain ⟨z, p, ys, rfl, s1, r1⟩ := va.sq hi
        cases r0
        obtain ⟨its, r, pl, _⟩ := I.list s1
        obtain ⟨o, ho, hc, n, hd⟩ := pl.isList
        exact sortk_core hu hf I hi (.inl rfl) ho hc hd (ksk_s1 _ _) (fun _ => ksk_l1 _ _) (fun x => ksk_t1 f x) r1 r z hk hs q
      · cases e2
    | tup l =>
      simp only [oSortK] at e1
      obtain ⟨ks, hk, e2⟩ := Option.bind_eq_some_iff.mp e1
      split at e2
      · cases e2
        rename_i hs
        obtain ⟨z, p, ys, rfl, s1, r1⟩ := va.tup hi
        cases r0
        obtain ⟨its, r, ⟨o, ho, hc, n, hd⟩, _⟩ := I.tuple s1
        exact sortk_core hu hf I hi (.inr rfl) ho hc hd (ksk_s1 _ _) (fun _ => ksk_l1 _ _) (fun x => ksk_t1 f x) r1 r z hk hs q
      · cases e2
    | _ => cases e1
theorem lk_reads {G : Gb} {g : List D → M D} {fa : Ex} {fv : V} {σ : St} {H : Hp} {Q : VK} (h : tlOf G (lSortK g fa) σ H Q) : rOf G fa σ H fun x H1 => rSK G.K g fv [x] [fv] H1 Q := by
  obtain ⟨Z, r, S, F, m, I, h⟩ := h
  refine ⟨Z, r, S, F, m, I, post_mono (post_bind h) fun d S1 h1 v H1 F1 m1 hi1 st1 rv1 => ?_⟩
  obtain ⟨d3, e3, h3⟩ := post_some h1
  cases ea : der d S1 with
  | none => rw [ea] at e3; cases e3
  | some a' =>
    rw [ea] at e3
    refine ⟨v, rfl, rfl, S1, F1, m1, a', d3, hi1, view hi1 rv1 ea, e3, fun v3 H3 F3 hi3 st3 hn => h3 v3 H3 F3 m1 hi3 (st1.trans st3) ?_⟩
    obtain ⟨p, xs, e, hp, r⟩ := hn
    exact ⟨p, xs, e, st1.dom p hp, r⟩
theorem sl_sortk {G : Gb} {g : List D → M D} {fa : Ex} {f : Addr} {a : Expr} {y : Str} {p yp kp pos : Pos} (hK : X.K = G.K) (hu : X.A.units + 65 < cLine) (hf : KeyFn X X.A.in1.in1 (.ref f) g) (hg : Gl X "sorted") (hm : X.mg "sorted" = none) (hp : plainArg a = true)
    (hgy : Gl X y) (hmy : X.mg y = some (.ref f)) (hdy : (y == ("__debug__" : Str)) = false) (ha : PE X a (rOf G fa)) : PE X (.Call (.Name "sorted" p) [a] [⟨some "key", .Name y yp, kp⟩] pos) (tlOf G (lSortK g fa)) :=
  PE.imp (pe_callBK (c_sortedK hu hf) hg hm (by decide +kernel) (pa_cons ha pa_nil (star_cons hp _ _)) (pk_cons (pe_glob hgy hmy (v := .ref f) rfl hdy) pk_nil) (by decide) (by decide) (by rw [star_cons hp]; rfl) (bk0 hp _ _)) fun σ H Q h => by
    rw [hK]
    exact Ev_mono (lk_reads h) fun x H1 z => z
end
end Pk
namespace Pk
open PySem PySem.Spec PyProof.Rows L2

/-! ### what a def's body is worth, read off its text -/
structure Fnc where
  ps : List Str
  dfl : List D
  g : List D → M D
  kws : List ((Nat × List Str) × List Nat) := []
structure Ctx where
  N : List Str
  nm : List (Str × NameKind)
  fnm : Option (List (Str × NameKind))
  gl : List (Str × D)
  fns : List (Str × Fnc)
  bl : List Str
  ow : List Nat
  ce : List Nat
  fz : List (Nat × List Nat)
  /-- the lists that it hands back are shared -/
  rc : Bool := false
  /-- the dicts of its own, and whether their keys are tuples -/
  dt : List (Nat × Bool) := []
def okName (x : Str) : Bool := !(x == ("__debug__" : Str)) && !(x == ("__classdict__" : Str)) && !(x == ("__name__" : Str))
def slotOf (c : Ctx) (x : Str) : Option Nat := if okName x then (match c.nm.lookup x with
  | some .local => c.N.idxOf? x
  | some .cell => c.N.idxOf? x
  | some .free => c.N.idxOf? x
  | _ => none) else none
/-- a name that may be stored -/
def setSlot (c : Ctx) (x : Str) : Option Nat := if okName x then (match c.nm.lookup x with
  | some .local => c.N.idxOf? x
  | some .cell => (match c.fnm with
    | none => c.N.idxOf? x
    | some nms => if nms.lookup x = some .cell then c.N.idxOf? x else none)
  | _ => none) else none
def isGl (c : Ctx) (x : Str) : Bool := okName x && decide (c.nm.lookup x = some .globalImplicit)
def isBl (c : Ctx) (x : Str) : Bool := isGl c x && decide (x ∈ c.bl)
def notSet : Expr → Bool
  | .Set .. => false
  | _ => true
/-- the base of an attribute that is no call of super -/
def plainBase : Expr → Bool
  | .Call .. => false
  | _ => true
def relNames (sc : List (Str × NameKind)) (nm : List (Str × NameKind)) : List (Str × NameKind) := sc.map fun (n, k) => if (k == .free && ScopeKind.function == .function && nm.lookup n == some .cell) then (n, .cell) else (n, k)
def tgNames (c : Ctx) : List Expr → Option (List (Str × Nat))
  | [] => some []
  | .Name x _ :: es => (setSlot c x).bind fun i => (tgNames c es).map ((x, i) :: ·)
  | _ => none
def denTg (c : Ctx) : Expr → Option (List (Str × Nat) × Tg)
  | .Name x _ => (setSlot c x).map fun i => ([(x, i)], tgN i)
  | .Tuple es _ _ => (tgNames c es).map fun l => (l, tgT (l.map (·.2)))
  | _ => none
structure Den where
  e : Ctx → Expr → Option Ex
  l : Ctx → Expr → Option Lx
  t : Ctx → Expr → Option Tx
def Den.r (d : Den) (c : Ctx) (x : Expr) : Option Ex := match x with
  | .Name y _ => (match slotOf c y with
    | some i => some (eRd i)
    | none => d.e c x)
  | _ => d.e c x
def Den.a (d : Den) (c : Ctx) : List Expr → Option (List Ex)
  | [] => some []
  | x :: xs => if plainArg x then (d.e c x).bind fun f => (Den.a d c xs).map (f :: ·) else none
def Den.o (d : Den) (c : Ctx) : Option Expr → Option (Option Ex)
  | none => some none
  | some x => (d.e c x).map some
def isTupE : Expr → Bool
  | .Tuple .. => true
  | _ => false
noncomputable def Den.i (d : Den) (c : Ctx) (tup : Bool) (x : Expr) : Option Lx :=
  let other : Option Lx := if notSet x then (d.e c x).map itSeq else none
  match x with
  | .Call (.Name f _) [a] [] _ =>
    if (f == ("range" : Str)) && isBl c f then (d.a c [a]).map (itB oRng1)
    else if (f == ("enumerate" : Str)) && isBl c f then (if tup then (d.a c [a]).map (itB oEnum) else none)
    else other
  | .Call (.Name f _) [a, b] [] _ =>
    if (f == ("range" : Str)) && isBl c f then (d.a c [a, b]).map (itB oRng2)
    else if (f == ("zip" : Str)) && isBl c f then (if tup then (d.a c [a, b]).map (itB oZip) else none)
    else other
  | _ => other
/-- what a comprehension walks: a list of the frame's own, too -/
noncomputable def Den.ic (d : Den) (c : Ctx) (tup : Bool) (x : Expr) : Option Lx := match x with
  | .Name y _ => (match slotOf c y with
    | some i => some (itSeq (eRd i))
    | none => d.i c tup x)
  | _ => d.i c tup x
def Den.ts (d : Den) (c : Ctx) : List Expr → Option Tx
  | [] => some tYes
  | [x] => d.t c x
  | _ => none
/-- a comprehension -/
noncomputable def Den.lc (d : Den) (c : Ctx) (elt : Expr) (g : Comprehension) (scope : Scope) : Option Lx :=
  let c' : Ctx := { c with nm := relNames scope.names c.nm, fnm := some scope.names }
  if g.is_async = 0 ∧ notSet g.iter then
    (d.ic c (isTupE g.target) g.iter).bind fun it => (denTg c' g.target).bind fun (own, tg) =>
      if blkC c.N { kind := .function, names := c.nm, isGenerator := false, isCoroutine := false } scope own then
        (d.ts c' g.ifs).bind fun tt => (d.e c' elt).map fun te => lComp (own.map (·.2)) it tg tt te
      else none
  else none
def eFn (g : Fnc) (fs : List Ex) : Option Ex := if fs.length ≤ g.ps.length ∧ g.ps.length - fs.length ≤ g.dfl.length then
  (match g.dfl.drop (g.dfl.length - (g.ps.length - fs.length)) with
  | [] => some (eCall g.g fs)
  | dfl => some (eCall (fun l => g.g (l ++ dfl)) fs)) else none
def boolE (d : Den) (c : Ctx) (op : BoolOp) : List Expr → Option Ex
  | [] => none
  | [x] => d.e c x
  | x :: xs => (d.e c x).bind fun f => (boolE d c op xs).map fun g => (match op with | .And => eAnd f g | .Or => eOr f g)
def boolT (d : Den) (c : Ctx) (op : BoolOp) : List Expr → Option Tx
  | [] => none
  | [x] => d.t c x
  | x :: xs => (d.t c x).bind fun f => (boolT d c op xs).map fun g => (match op with | .And => tAnd f g | .Or => tOr f g)
def Den.cmp (d : Den) (c : Ctx) (a : Expr) (op : CmpOp) (b : Expr) : Option (Ex × Ex) := if notSet b then (d.r c a).bind fun f => (d.r c b).map fun g => (f, g) else none
noncomputable def stepL (d : Den) (c : Ctx) (x : Expr) : Option Lx := match x with
  | .List es _ => (d.a c es).map lLst
  | .ListComp elt [g] scope _ => d.lc c elt g scope
  | .BinOp a .Add b _ => (d.r c a).bind fun f => (d.r c b).map fun g => l2 oCat f g
  | .Subscript a (.Slice lo hi none _) _ => (d.r c a).bind fun f => (d.o c lo).bind fun l => (d.o c hi).map fun h => lCut f l h
  | .Subscript a (.Slice none none (some (.UnaryOp .USub (.Constant (.int 1) _ _) _)) _) _ => (d.r c a).map (l1 oRv)
  | .Call (.Name f _) [a] [] _ => if plainArg a then
      (if (f == ("sorted" : Str)) && isBl c f then (d.r c a).map (l1 oSort)
      else if (f == ("list" : Str)) && isBl c f then (d.r c a).map (l1 oList) else none) else none
  | .Call (.Name f _) [a] [⟨some kn, .Name y _, _⟩] _ => if plainArg a && (f == ("sorted" : Str)) && isBl c f && (kn == ("key" : Str)) && isGl c y then (match c.fns.lookup y with
      | some g => if g.ps.length = 1 then (d.r c a).map (lSortK g.g) else none
      | none => none) else none
  | .Call (.Attribute o m ap) [b] [] cp => if (m == ("split" : Str)) && plainBase o && plainArg b && (ap.endLine == cp.line) then (d.r c o).bind fun f => (d.r c b).map fun g => l2 oSplit (eStr f) g else none
  | _ => none
/-- a built-in of one argument -/
def bltE1 (d : Den) (c : Ctx) (f : Str) (a : Expr) : Option Ex :=
  if f == ("len" : Str) then (d.r c a).map (e1 oLen)
  else if f == ("all" : Str) then (d.r c a).map (e1 oAll)
  else if f == ("any" : Str) then (d.r c a).map (e1 oAny)
  else if f == ("tuple" : Str) then (d.r c a).map (e1 oTuple)
  else if f == ("int" : Str) then (d.r c a).map (e1 oInt)
  else none
def isiE (d : Den) (c : Ctx) (a : Expr) (t : Str) : Option Ex :=
  if t == ("str" : Str) then (d.r c a).map (e1 (oIsT "str"))
  else if t == ("tuple" : Str) then (d.r c a).map (e1 (oIsT "tuple"))
  else if t == ("list" : Str) then (d.r c a).map (e1 (oIsT "list"))
  else if t == ("int" : Str) then (d.r c a).map (e1 (oIsT "int"))
  else if t == ("bool" : Str) then (d.r c a).map (e1 (oIsT "bool"))
  else none
def isiN (d : Den) (c : Ctx) (f : Str) (a b : Expr) : Option Ex := match b with
  | .Name t _ => if (f == ("isinstance" : Str)) && isBl c t then isiE d c a t else none
  | _ => none
def bltE2 (d : Den) (c : Ctx) (f : Str) (a b : Expr) : Option Ex :=
  if f == ("max" : Str) then (d.r c a).bind fun g => (d.r c b).map fun h => e2 oMax g h
  else if f == ("min" : Str) then (d.r c a).bind fun g => (d.r c b).map fun h => e2 oMin g h
  else none
noncomputable def callE (d : Den) (c : Ctx) (f : Str) (args : List Expr) : Option Ex :=
  if isGl c f then (match c.fns.lookup f with
    | some g => (d.a c args).bind (eFn g)
    | none => none) else none
def Den.k (d : Den) (c : Ctx) : List Keyword → Option (List Ex)
  | [] => some []
  | ⟨_, x, _⟩ :: ks => (d.e c x).bind fun f => (Den.k d c ks).map (f :: ·)
noncomputable def kwE (d : Den) (c : Ctx) (f : Str) (args : List Expr) (kws : List Keyword) : Option Ex :=
  if isGl c f then (match c.fns.lookup f with
    | some g => (kwNames kws).bind fun ks => (g.kws.lookup (args.length, ks)).bind fun pm => (d.a c args).bind fun fs => (d.k c kws).bind fun gs =>
      if pm.length = g.ps.length ∧ (pm.all fun i => decide (i < args.length + ks.length)) = true then some (eCall (fun l => g.g (perm pm l)) (fs ++ gs)) else none
    | none => none) else none
noncomputable def methE (d : Den) (c : Ctx) (o : Expr) (m : Str) (b : Expr) : Option Ex :=
  if m == ("join" : Str) then (d.r c o).bind fun f => (d.r c b).map fun g => e2 oJoin (eStr f) g
  else if m == ("pop" : Str) then (d.e c o).bind fun f => (d.a c [b]).map fun g => eMt f mPop g
  else none
def Option.orE {α : Type} (a b : Option α) : Option α := match a with
  | some x => some x
  | none => b
noncomputable def stepE (d : Den) (c : Ctx) (x : Expr) : Option Ex := match x with
  | .Constant k _ _ => (conD k).map eCon
  | .Dict ks vs _ => (dspOf ks vs).map eCon
  | .Name y _ => (match slotOf c y with
    | some i => some (eVar i)
    | none => if isGl c y then (c.gl.lookup y).map eCon else none)
  | .BinOp a op b _ => if binOk op then (d.r c a).bind fun f => (d.r c b).map fun g => eBin op f g else none
  | .UnaryOp .USub a _ => (d.r c a).map eNeg
  | .UnaryOp .Not a _ => (d.e c a).map eNot
  | .BoolOp op es _ => boolE d c op es
  | .Compare a [op] [b] _ => (d.cmp c a op b).map fun (f, g) => eCmp op f g
  | .IfExp t a b _ => (d.t c t).bind fun f => (d.e c a).bind fun g => (d.e c b).map fun h => eIf f g h
  | .Tuple es _ _ => (d.a c es).map eTup
  | .Subscript a (.Slice lo hi none _) _ => (d.r c a).bind fun f => (d.o c lo).bind fun l => (d.o c hi).map fun h => eCut f l h
  | .Subscript a b _ => if plainIx b then (d.r c a).bind fun f => (d.r c b).map fun g => eIx f g else (stepL d c x).map eL
  | .List .. => (stepL d c x).map eL
  | .ListComp .. => (stepL d c x).map eL
  | .Call (.Name f _) (a :: args) [] _ => Option.orE (callE d c f (a :: args)) (if isBl c f then (match args with
      | [] => if plainArg a then Option.orE (bltE1 d c f a) ((stepL d c x).map eL) else none
      | [b] => if plainArg a && plainArg b then Option.orE (bltE2 d c f a b) (isiN d c f a b) else none
      | _ => none) else none)
  | .Call (.Name f _) args (kw :: kws) _ => Option.orE (kwE d c f args (kw :: kws)) ((stepL d c x).map eL)
  | .Call (.Attribute o m ap) [b] [] cp => if plainBase o && plainArg b && (ap.endLine == cp.line) then Option.orE (methE d c o m b) ((stepL d c x).map eL) else none
  | _ => none
noncomputable def stepT (d : Den) (c : Ctx) (x : Expr) : Option Tx := match x with
  | .UnaryOp .Not a _ => (d.t c a).map tNot
  | .BoolOp op es _ => boolT d c op es
  | .Compare a [op] [b] _ => (d.cmp c a op b).map fun (f, g) => tCmp op f g
  | _ => if tvOk x then (d.r c x).map tVal else none
noncomputable def den : Nat → Den
  | 0 => ⟨fun _ _ => none, fun _ _ => none, fun _ _ => none⟩
  | n + 1 => ⟨stepE (den n), stepL (den n), stepT (den n)⟩
end Pk
namespace Pk
open PySem PySem.Spec PyProof.Rows L2
/-- a def that may be called -/
structure FncOk (P : Program) (w : World) (K : PySem.W.Frag) (mg : Str → Option Value) (base : Heap) (k : Nat) (x : Str) (g : Fnc) : Prop where
  ex : ∃ f fd, mg x = some (.ref f) ∧ PySem.W.keepIn K (.ref f) = true ∧ FnOk P w K mg base (L2.CX P w) k f fd g.ps (spOf K mg g.ps.length g.g) ∧
    (∀ j, j ≤ g.dfl.length → ∃ ds dvs, Binds K fd g.ps ds ∧ Vals dvs ds ∧ dvs.length = j ∧ ∀ F m, RVs K F m (g.dfl.drop (g.dfl.length - j)) dvs) ∧ ∀ p ∈ g.kws, KOk K fd g.ps p.1.1 p.1.2 p.2
structure CtxOk (c : Ctx) (X : Cx) (G : Gb) (k : Nat) : Prop where
  hK : X.K = G.K
  hM : X.mg = G.mg
  hN : X.N = c.N
  nd : c.N.Nodup
  nm : X.env.scope.names = c.nm
  kind : X.env.scope.kind = .function
  calm : X.calm = true
  room : Room (k + 2) X.A
  tk : Takes X G.W
  fn : match c.fnm with
    | none => ∀ x, X.fn x = true
    | some nms => X.fn = fun x => nms.lookup x == some .cell
  bl : ∀ x ∈ c.bl, X.mg x = none
  gl : ∀ x d, c.gl.lookup x = some d → ∃ u v, X.mg x = some u ∧ RelV v u ∧ ∀ F m, RV X.K F m d v
  fns : ∀ x g, c.fns.lookup x = some g → FncOk X.prog X.w X.K X.mg X.base k x g
def Den.Ok (d : Den) : Prop := ∀ c X G k, CtxOk c X G k → (∀ x f, d.e c x = some f → PE X x (tOf G f)) ∧ (∀ x f, d.l c x = some f → PE X x (tlOf G f)) ∧ (∀ x f, d.t c x = some f → PT X x (ttOf G f))
section
variable {c : Ctx} {X : Cx} {G : Gb} {k : Nat} {d : Den}
theorem okName_of {x : Str} (h : okName x = true) : (x == ("__debug__" : Str)) = false ∧ (x == ("__classdict__" : Str)) = false ∧ x ≠ "__name__" := by
  unfold okName at h
  simp only [Bool.and_eq_true, Bool.not_eq_true', beq_eq_false_iff_ne, ne_eq] at h
  exact ⟨by simpa using h.1.1, by simpa using h.1.2, h.2⟩
theorem idx_get {l : List Str} {x : Str} {i : Nat} (h : l.idxOf? x = some i) : l[i]? = some x := by
  unfold List.idxOf? at h
  obtain ⟨h1, h2, _⟩ := List.findIdx?_eq_some_iff_getElem.mp h
  rw [List.getElem?_eq_getElem h1]
  have : l[i] = x := by simpa using h2
  rw [this]
theorem slot_of {x : Str} {i : Nat} (C : CtxOk c X G k) (h : slotOf c x = some i) : X.N[i]? = some x ∧ Vis X.env.scope x ∧ (x == ("__debug__" : Str)) = false ∧ (x == ("__classdict__" : Str)) = false := by
  unfold slotOf at h
  split at h
  · rename_i ho
    obtain ⟨o1, o2, _⟩ := okName_of ho
    unfold Vis
    rw [C.hN, C.nm]
    split at h
    · rename_i e; exact ⟨idx_get h, .inl e, o1, o2⟩
    · rename_i e; exact ⟨idx_get h, .inr (.inl e), o1, o2⟩
    · rename_i e; exact ⟨idx_get h, .inr (.inr e), o1, o2⟩
    · cases h
  · cases h
theorem set_of {x : Str} {i : Nat} (C : CtxOk c X G k) (h : setSlot c x = some i) : X.N.Nodup ∧ X.N[i]? = some x ∧ L2.Loc X.env.scope x ∧ (X.fn x = true ∨ X.env.scope.names.lookup x = some .local) := by
  unfold setSlot at h
  split at h
  · unfold L2.Loc
    have hf := C.fn
    rw [C.hN, C.nm]
    split at h
    · rename_i e; exact ⟨C.nd, idx_get h, .inl e, .inr e⟩
    · rename_i e
      split at h
      · rename_i e2
        rw [e2] at hf
        exact ⟨C.nd, idx_get h, .inr e, .inl (hf x)⟩
      · rename_i nms e2
        rw [e2] at hf
        split at h
        · rename_i e3
          refine ⟨C.nd, idx_get h, .inr e, .inl ?_⟩
          simp only at hf
          rw [hf]
          simp [e3]
        · cases h
    · cases h
  · cases h
theorem gl_of {x : Str} (C : CtxOk c X G k) (h : isGl c x = true) : Gl X x ∧ (x == ("__debug__" : Str)) = false ∧ x ≠ "__name__" := by
  unfold isGl at h
  rw [Bool.and_eq_true] at h
  obtain ⟨o1, o2, o3⟩ := okName_of h.1
  refine ⟨?_, o1, o3⟩
  show X.env.scope.names.lookup x = _
  rw [C.nm]
  exact of_decide_eq_true h.2
theorem bl_of {x : Str} (C : CtxOk c X G k) (h : isBl c x = true) : Gl X x ∧ X.mg x = none ∧ (x == ("__debug__" : Str)) = false ∧ x ≠ "__name__" := by
  unfold isBl at h
  rw [Bool.and_eq_true] at h
  obtain ⟨g1, g2, g3⟩ := gl_of C h.1
  exact ⟨g1, C.bl x (of_decide_eq_true h.2), g2, g3⟩
theorem CtxOk.units (C : CtxOk c X G k) : X.A.units + 65 < cLine := by
  have := C.room.un
  omega
theorem some_of_bind {α β : Type} {o : Option α} {f : α → Option β} {b : β} (h : o.bind f = some b) : ∃ a, o = some a ∧ f a = some b := Option.bind_eq_some_iff.mp h
theorem some_of_map {α β : Type} {o : Option α} {f : α → β} {b : β} (h : o.map f = some b) : ∃ a, o = some a ∧ f a = b := Option.map_eq_some_iff.mp h
/-! ### parts -/
theorem den_r (C : CtxOk c X G k) (he : ∀ x f, d.e c x = some f → PE X x (tOf G f)) {x : Expr} {f : Ex} (h : d.r c x = some f) : PE X x (rOf G f) := by
  unfold Den.r at h
  split at h
  · split at h
    · rename_i i e
      cases h
      obtain ⟨s1, s2, s3, s4⟩ := slot_of C e
      exact se_rd s1 s2 s3 s4
    · exact pe_r (he _ _ h)
  · exact pe_r (he _ _ h)
theorem den_a (he : ∀ x f, d.e c x = some f → PE X x (tOf G f)) : ∀ {es : List Expr} {fs : List Ex}, d.a c es = some fs → PA X es (taOf G (eArgs fs)) ∧ (∀ e ∈ es, plainArg e = true) ∧ fs.length = es.length
  | [], fs, h => by
    cases h
    exact ⟨sa_nil, (fun e h => by cases h), rfl⟩
  | x :: xs, fs, h => by
    unfold Den.a at h
    split at h
    · rename_i hp
      obtain ⟨f, e1, h⟩ := some_of_bind h
      obtain ⟨fs', e2, rfl⟩ := some_of_map h
      obtain ⟨h1, h2, h3⟩ := den_a he e2
      refine ⟨sa_cons hp (he _ _ e1) h1, fun e hm => ?_, by simp [h3]⟩
      rcases List.mem_cons.mp hm with rfl | hm
      · exact hp
      · exact h2 e hm
    · cases h
theorem den_o (he : ∀ x f, d.e c x = some f → PE X x (tOf G f)) {x : Option Expr} {f : Option Ex} (h : d.o c x = some f) : PO X x (poOf G f) := by
  cases x with
  | none => cases h; exact so_none
  | some x =>
    obtain ⟨f', e, rfl⟩ := some_of_map h
    exact so_some (he _ _ e)
theorem notSet_ne {b : Expr} (h : notSet b = true) : ∀ es k p, b ≠ .Set es k p := fun es k p z => by subst z; cases h
theorem folded_of {iter : Expr} (h : notSet iter = true) (env : PySem.Env) : ∀ x, foldedSetIterable iter env x = pure x := fun x => by
  cases iter <;> first | rfl | cases h
theorem names_ne {es : List Expr} {l : List (Str × Nat)} (h : tgNames c es = some l) : allNames es = true ∧ es.length = l.length := by
  induction es generalizing l with
  | nil => cases h; exact ⟨rfl, rfl⟩
  | cons e es ih =>
    cases e with
    | Name x p =>
      unfold tgNames at h
      obtain ⟨i, _, h⟩ := some_of_bind h
      obtain ⟨l', e2, rfl⟩ := some_of_map h
      obtain ⟨h1, h2⟩ := ih e2
      exact ⟨h1, by simp [h2]⟩
    | _ => simp [tgNames] at h
theorem den_gs (C : CtxOk c X G k) : ∀ {es : List Expr} {l : List (Str × Nat)}, tgNames c es = some l → PGs X es (gsOf G (l.map (·.2)))
  | [], l, h => by cases h; exact sgs_nil
  | e :: es, l, h => by
    cases e with
    | Name x p =>
      unfold tgNames at h
      obtain ⟨i, e1, h⟩ := some_of_bind h
      obtain ⟨l', e2, rfl⟩ := some_of_map h
      obtain ⟨s1, s2, s3, s4⟩ := set_of C e1
      exact sgs_cons s1 s2 s3 s4 (den_gs C e2)
    | _ => simp [tgNames] at h
theorem den_tg (C : CtxOk c X G k) {x : Expr} {own : List (Str × Nat)} {tg : Tg} (h : denTg c x = some (own, tg)) : PG X x (gOf G (own.map (·.2)) tg) := by
  unfold denTg at h
  split at h
  · obtain ⟨i, e1, h⟩ := some_of_map h
    cases h
    obtain ⟨s1, s2, s3, s4⟩ := set_of C e1
    exact sg_name s1 s2 s3 s4
  · obtain ⟨l, e1, h⟩ := some_of_map h
    cases h
    obtain ⟨n1, n2⟩ := names_ne e1
    exact sg_tup C.hK C.calm (by simpa using n2) n1 (den_gs C e1)
  · cases h
theorem tupE {x : Expr} (h : isTupE x = true) : ∃ es k p, x = .Tuple es k p := by
  cases x <;> first | exact ⟨_, _, _, rfl⟩ | cases h
theorem den_i (C : CtxOk c X G k) (he : ∀ x f, d.e c x = some f → PE X x (tOf G f)) {tge x : Expr} {it : Lx} (h : d.i c (isTupE tge) x = some it) (hn : notSet x = true) : PI X tge x (iOf G it) := by
  have other : ∀ {it : Lx}, (if notSet x then (d.e c x).map itSeq else none) = some it → PI X tge x (iOf G it) := fun {it} h => by
    rw [if_pos hn] at h
    obtain ⟨f, e, rfl⟩ := some_of_map h
    exact si_seq C.hK (he _ _ e)
  unfold Den.i at h
  simp only at h
  split at h
  · rename_i f p a pos
    split at h
    · rename_i hb
      rw [Bool.and_eq_true] at hb
      obtain ⟨fs, e, rfl⟩ := some_of_map h
      obtain ⟨h1, h2, h3⟩ := den_a he e
      obtain ⟨g1, g2, _⟩ := bl_of C hb.2
      have hf : f = "range" := by simpa using hb.1
      subst hf
      match fs, h3 with
      | [fa], _ => exact si_rng1 g1 g2 (h2 _ List.mem_cons_self) h1
    · split at h
      · rename_i hb
        rw [Bool.and_eq_true] at hb
        split at h
        · rename_i ht
          obtain ⟨fs, e, rfl⟩ := some_of_map h
          obtain ⟨h1, h2, h3⟩ := den_a he e
          obtain ⟨g1, g2, _⟩ := bl_of C hb.2
          have hf : f = "enumerate" := by simpa using hb.1
          subst hf
          obtain ⟨es, kk, tp, rfl⟩ := tupE ht
          match fs, h3 with
          | [fa], _ => exact si_enum C.hK g1 g2 (h2 _ List.mem_cons_self) h1
        · cases h
      · exact other h
  · rename_i f p a b pos
    split at h
    · rename_i hb
      rw [Bool.and_eq_true] at hb
      obtain ⟨fs, e, rfl⟩ := some_of_map h
      obtain ⟨h1, h2, h3⟩ := den_a he e
      obtain ⟨g1, g2, _⟩ := bl_of C hb.2
      have hf : f = "range" := by simpa using hb.1
      subst hf
      match fs, h3 with
      | [fa, fb], _ => exact si_rng2 g1 g2 (h2 _ List.mem_cons_self) (h2 _ (List.mem_cons_of_mem _ List.mem_cons_self)) h1
    · split at h
      · rename_i hb
        rw [Bool.and_eq_true] at hb
        split at h
        · rename_i ht
          obtain ⟨fs, e, rfl⟩ := some_of_map h
          obtain ⟨h1, h2, h3⟩ := den_a he e
          obtain ⟨g1, g2, _⟩ := bl_of C hb.2
          have hf : f = "zip" := by simpa using hb.1
          subst hf
          obtain ⟨es, kk, tp, rfl⟩ := tupE ht
          match fs, h3 with
          | [fa, fb], _ => exact si_zip C.hK g1 g2 (h2 _ List.mem_cons_self) (h2 _ (List.mem_cons_of_mem _ List.mem_cons_self)) h1
        · cases h
      · exact other h
  · exact other h
theorem den_ic (C : CtxOk c X G k) (he : ∀ x f, d.e c x = some f → PE X x (tOf G f)) {tge x : Expr} {it : Lx} (h : d.ic c (isTupE tge) x = some it) (hn : notSet x = true) : PI X tge x (iOfC G it) := by
  unfold Den.ic at h
  split at h
  · split at h
    · rename_i i e
      cases h
      obtain ⟨s1, s2, s3, s4⟩ := slot_of C e
      exact si_seqR C.hK (se_rd s1 s2 s3 s4)
    · exact pi_c (den_i C he h hn)
  · exact pi_c (den_i C he h hn)
/-! ### comprehensions -/
theorem rel_names (scope : Scope) (env : PySem.Env) (hk : env.scope.kind = .function) {nm : List (Str × NameKind)} (hn : env.scope.names = nm) (C : Addr) (cl : List (Str × Addr)) : (compEnvC scope cl C env).scope.names = relNames scope.names nm := by
  show (scope.names.map fun (n, k) => if (k == NameKind.free && env.scope.kind == ScopeKind.function && env.scope.names.lookup n == some NameKind.cell) then (n, NameKind.cell) else (n, k)) = _
  rw [hk, hn]
  rfl
theorem CtxOk.blk (C : CtxOk c X G k) {scope : Scope} (hk : scope.kind = .function) (s : Shared) (H : Hp) (Ca : Addr) (cl : List (Str × Addr)) (fp : List Addr) : CtxOk { c with nm := relNames scope.names c.nm, fnm := some scope.names } (X.blk s H scope (compEnvC scope cl Ca X.env) fp) G.blk k where
  hK := C.hK
  hM := C.hM
  hN := C.hN
  nd := C.nd
  nm := rel_names scope X.env C.kind C.nm Ca cl
  kind := hk
  calm := C.calm
  room := C.room
  tk := fun u s' x => by
    obtain ⟨_, _, _, _, _, _, _, _, _, _, _, _, _, _, _, _, z⟩ := x
    exact z.elim
  fn := rfl
  bl := C.bl
  gl := C.gl
  fns := C.fns
theorem den_ts (ht : ∀ x f, d.t c x = some f → PT X x (ttOf G f)) {ifs : List Expr} {tt : Tx} (h : d.ts c ifs = some tt) : PTs X ifs (ttOf G tt) := by
  unfold Den.ts at h
  split at h
  · cases h
    exact ⟨fun pins s σ H Q I z => (pts_nil (X := X)).run pins s σ H Q I (by
      obtain ⟨Z, r, S, F, m, I', h⟩ := z
      exact h true H F m I'.hi (Step.refl _ _ _) rfl)⟩
  · exact pts_one (ht _ _ h)
  · cases h
theorem blk_names {N : List Str} {sc sc' scope : Scope} {own : List (Str × Nat)} (h : BlkOk N sc scope own) (e : sc.names = sc'.names) : BlkOk N sc' scope own := ⟨h.kind, h.uniq, h.ix, fun y hy z => by rw [← e]; exact h.free y hy z, h.own⟩
theorem den_lc (ok : d.Ok) (C : CtxOk c X G k) {elt : Expr} {g : Comprehension} {scope : Scope} {f : Lx} (h : d.lc c elt g scope = some f) : ∃ wi gt tt te own, PI X g.target g.iter wi ∧ BlkOk X.N X.env.scope scope own ∧
    (∀ (s : Shared) (H : Hp) (Ca : Addr) (cl : List (Str × Addr)) (fp : List Addr), PG (X.blk s H scope (compEnvC scope cl Ca X.env) fp) g.target gt) ∧ (∀ (s : Shared) (H : Hp) (Ca : Addr) (cl : List (Str × Addr)) (fp : List Addr), PTs (X.blk s H scope (compEnvC scope cl Ca X.env) fp) g.ifs tt) ∧
    (∀ (s : Shared) (H : Hp) (Ca : Addr) (cl : List (Str × Addr)) (fp : List Addr), PE (X.blk s H scope (compEnvC scope cl Ca X.env) fp) elt te) ∧ g.is_async = 0 ∧ (∀ x, foldedSetIterable g.iter X.env x = pure x) ∧ ∀ σ H Q, tlOf G f σ H Q → tLc wi gt tt te (own.map (·.2)) σ H Q := by
  unfold Den.lc at h
  simp only at h
  split at h
  · rename_i h0
    obtain ⟨it, e1, h⟩ := some_of_bind h
    obtain ⟨⟨own, tg⟩, e2, h⟩ := some_of_bind h
    simp only at h
    split at h
    · rename_i hb
      obtain ⟨tt, e3, h⟩ := some_of_bind h
      obtain ⟨te, e4, rfl⟩ := some_of_map h
      have hblk := blkOk_by hb
      have cb := fun s H Ca cl fp => C.blk hblk.kind s H Ca cl fp
      refine ⟨iOfC G it, gOf G.blk (own.map (·.2)) tg, ttOf G.blk tt, tOf G.blk te, own, den_ic C (ok c X G k C).1 e1 h0.2, by rw [C.hN]; exact blk_names hblk C.nm.symm, fun s H Ca cl fp => den_tg (cb s H Ca cl fp) e2, fun s H Ca cl fp => den_ts (ok _ _ _ k (cb s H Ca cl fp)).2.2 e3, fun s H Ca cl fp => (ok _ _ _ k (cb s H Ca cl fp)).1 _ _ e4, h0.1, folded_of h0.2 _, fun σ H Q z => comp_reads z⟩
    · cases h
  · cases h
/-! ### the steps are sound -/
theorem base_of {o : Expr} {m : Str} (h : plainBase o = true) (env : PySem.Env) (whole : Sem Value) : attributeBase o m env whole = whole := by
  cases o <;> first | rfl | cases h
theorem step_l (ok : d.Ok) (C : CtxOk c X G k) {x : Expr} {f : Lx} (h : stepL d c x = some f) : PE X x (tlOf G f) := by
  have he := (ok c X G k C).1
  unfold stepL at h
  split at h
  · obtain ⟨fs, e, rfl⟩ := some_of_map h
    exact sl_lst (den_a he e).1
  · rename_i elt g scope pos
    obtain ⟨wi, gt, tt, te, own, h1, h2, h3, h4, h5, h6, h7, h8⟩ := den_lc ok C h
    obtain ⟨tg, iter, ifs, as⟩ := g
    simp only at h6
    subst h6
    exact PE.imp (pe_lc C.calm (by rw [C.hN]; exact C.nd) h1 h2 h3 h4 h5 h7) h8
  · obtain ⟨f1, e1, h⟩ := some_of_bind h
    obtain ⟨f2, e2, rfl⟩ := some_of_map h
    exact sl_cat C.hK (den_r C he e1) (den_r C he e2)
  · obtain ⟨f1, e1, h⟩ := some_of_bind h
    obtain ⟨fl, e2, h⟩ := some_of_bind h
    obtain ⟨fh, e3, rfl⟩ := some_of_map h
    exact sl_cut C.hK (den_r C he e1) (den_o he e2) (den_o he e3)
  · obtain ⟨f1, e1, rfl⟩ := some_of_map h
    exact sl_rev C.hK (den_r C he e1)
  · split at h
    · rename_i hp
      split at h
      · rename_i hb
        rw [Bool.and_eq_true] at hb
        obtain ⟨f1, e1, rfl⟩ := some_of_map h
        obtain ⟨g1, g2, g3, g4⟩ := bl_of C hb.2
        have hf := eq_of_beq hb.1
        subst hf
        exact sl_b1 C.hK (c_sorted C.units) g1 g2 (by decide +kernel) g4 g3 hp (den_r C he e1)
      · split at h
        · rename_i hb
          rw [Bool.and_eq_true] at hb
          obtain ⟨f1, e1, rfl⟩ := some_of_map h
          obtain ⟨g1, g2, g3, g4⟩ := bl_of C hb.2
          have hf := eq_of_beq hb.1
          subst hf
          exact sl_t1 C.hK (c_list C.calm) g1 g2 (by decide +kernel) g4 g3 hp (den_r C he e1)
        · cases h
    · cases h
  · split at h
    · rename_i hb
      simp only [Bool.and_eq_true] at hb
      split at h
      · rename_i g hg
        split at h
        · rename_i hps
          obtain ⟨f1, e1, rfl⟩ := some_of_map h
          have hf := eq_of_beq hb.1.1.1.2
          subst hf
          have hk := eq_of_beq hb.1.2
          subst hk
          obtain ⟨b1, b2, b3, b4⟩ := bl_of C hb.1.1.2
          obtain ⟨g1, g2, g3⟩ := gl_of C hb.2
          obtain ⟨fa, fd, m1, m2, m3, m4, _⟩ := (C.fns _ g hg).ex
          obtain ⟨ds, dvs, d1, d2, d3, d4⟩ := m4 0 (Nat.zero_le _)
          have hdv : dvs = [] := List.length_eq_zero_iff.mp d3
          subst hdv
          cases d2
          exact sl_sortk C.hK C.units (keyFn_def m3 C.room d1 hps) b1 b2 hb.1.1.1.1 g1 m1 g2 (den_r C he e1)
        · cases h
      · cases h
    · cases h
  · split at h
    · rename_i hb
      simp only [Bool.and_eq_true] at hb
      obtain ⟨f1, e1, h⟩ := some_of_bind h
      obtain ⟨f2, e2, rfl⟩ := some_of_map h
      have hf := eq_of_beq hb.1.1.1
      subst hf
      exact sl_split hb.1.2 (base_of hb.1.1.2 _ _) hb.2 (den_r C he e1) (den_r C he e2)
    · cases h
  · cases h
theorem bool_e (he : ∀ x f, d.e c x = some f → PE X x (tOf G f)) (op : BoolOp) (pos : Pos) : ∀ {es : List Expr} {f : Ex}, boolE d c op es = some f → PE X (.BoolOp op es pos) (tOf G f)
  | [], f, h => by cases h
  | [x], f, h => pe_one (he _ _ h)
  | x :: y :: xs, f, h => by
    unfold boolE at h
    obtain ⟨f1, e1, h⟩ := some_of_bind h
    obtain ⟨f2, e2, rfl⟩ := some_of_map h
    cases op with
    | And => exact se_and (he _ _ e1) (bool_e he .And pos e2)
    | Or => exact se_or (he _ _ e1) (bool_e he .Or pos e2)
theorem bool_t (ht : ∀ x f, d.t c x = some f → PT X x (ttOf G f)) (op : BoolOp) (pos : Pos) : ∀ {es : List Expr} {f : Tx}, boolT d c op es = some f → PW X (.BoolOp op es pos) (ttOf G f)
  | [], f, h => by cases h
  | [x], f, h => by
    cases op with
    | And => exact sw_and1 (ht _ _ h)
    | Or => exact sw_or1 (ht _ _ h)
  | x :: y :: xs, f, h => by
    unfold boolT at h
    obtain ⟨f1, e1, h⟩ := some_of_bind h
    obtain ⟨f2, e2, rfl⟩ := some_of_map h
    cases op with
    | And => exact sw_and (ht _ _ e1) (bool_t ht .And pos e2)
    | Or => exact sw_or (ht _ _ e1) (bool_t ht .Or pos e2)
theorem cmp_of (C : CtxOk c X G k) (he : ∀ x f, d.e c x = some f → PE X x (tOf G f)) {a b : Expr} {op : CmpOp} {f g : Ex} (h : d.cmp c a op b = some (f, g)) : PE X a (rOf G f) ∧ PE X b (rOf G g) ∧ ∀ es k p, b ≠ .Set es k p := by
  unfold Den.cmp at h
  split at h
  · rename_i hn
    obtain ⟨f1, e1, h⟩ := some_of_bind h
    obtain ⟨f2, e2, h⟩ := some_of_map h
    cases h
    exact ⟨den_r C he e1, den_r C he e2, notSet_ne hn⟩
  · cases h
theorem step_t (ok : d.Ok) (C : CtxOk c X G k) {x : Expr} {f : Tx} (h : stepT d c x = some f) : PT X x (ttOf G f) := by
  have he := (ok c X G k C).1
  have ht := (ok c X G k C).2.2
  unfold stepT at h
  split at h
  · obtain ⟨f1, e1, rfl⟩ := some_of_map h
    exact st_not (ht _ _ e1)
  · exact (bool_t ht _ _ h).pt
  · obtain ⟨⟨f1, f2⟩, e1, rfl⟩ := some_of_map h
    obtain ⟨h1, h2, h3⟩ := cmp_of C he e1
    exact st_cmp C.hK C.units h3 h1 h2
  · split at h
    · rename_i hp
      obtain ⟨f1, e1, rfl⟩ := some_of_map h
      exact st_val C.hK hp (den_r C he e1)
    · cases h
theorem call_of (C : CtxOk c X G k) {x : Str} {g : Fnc} {a : Expr} {es : List Expr} {fs : List Ex} {f : Ex} {p pos : Pos} (hg : isGl c x = true) (hx : c.fns.lookup x = some g) (ha : PA X (a :: es) (taOf G (eArgs fs))) (hp : ∀ e ∈ a :: es, plainArg e = true) (hl : fs.length = (a :: es).length) (h : eFn g fs = some f) : PE X (.Call (.Name x p) (a :: es) [] pos) (tOf G f) := by
  obtain ⟨g1, g2, g3⟩ := gl_of C hg
  obtain ⟨fa, fd, m1, m2, m3, m4, _⟩ := (C.fns x g hx).ex
  unfold eFn at h
  split at h
  · rename_i hh
    obtain ⟨ds, dvs, b1, b2, b3, b4⟩ := m4 (g.ps.length - fs.length) hh.2
    have key := se_call (p := p) (pos := pos) (ffs := fs) (dfl := g.dfl.drop (g.dfl.length - (g.ps.length - fs.length))) C.hK C.hM m3 (C.room.mono (by omega)) g1 m1 m2 b1 b2 b4 C.tk g2 (hp a List.mem_cons_self) (fun e he => hp e (List.mem_cons_of_mem _ he)) (by omega) hl ha
    split at h
    · rename_i e0
      cases h
      rw [e0] at key
      simpa using key
    · cases h
      exact key
  · cases h
theorem lk_mem {α β : Type} [BEq β] [LawfulBEq β] {y : β} {g : α} : ∀ {l : List (β × α)}, l.lookup y = some g → (y, g) ∈ l
  | [], h => by cases h
  | (z, a) :: l, h => by
    rw [List.lookup_cons] at h
    split at h
    · rename_i e
      cases h
      have := eq_of_beq e
      subst this
      exact List.mem_cons_self
    · exact List.mem_cons_of_mem _ (lk_mem h)
theorem den_k (he : ∀ x f, d.e c x = some f → PE X x (tOf G f)) : ∀ {ks : List Keyword} {gs : List Ex}, d.k c ks = some gs → PK X ks (taOf G (eArgs gs))
  | [], gs, h => by cases h; exact sk_nil
  | ⟨nm, x, kp⟩ :: ks, gs, h => by
    unfold Den.k at h
    obtain ⟨f, e1, h⟩ := some_of_bind h
    obtain ⟨gs', e2, rfl⟩ := some_of_map h
    exact sk_cons (he _ _ e1) (den_k he e2)
theorem kn_len : ∀ {kws : List Keyword} {ks : List Str}, kwNames kws = some ks → ks.length = kws.length
  | [], ks, h => by cases h; rfl
  | ⟨none, _, _⟩ :: kws, ks, h => by cases h
  | ⟨some x, _, _⟩ :: kws, ks, h => by
    unfold kwNames at h
    obtain ⟨ks', e, rfl⟩ := some_of_map h
    simp [kn_len e]
theorem dk_len : ∀ {kws : List Keyword} {gs : List Ex}, d.k c kws = some gs → gs.length = kws.length
  | [], ks, h => by cases h; rfl
  | ⟨_, x, _⟩ :: kws, gs, h => by
    unfold Den.k at h
    obtain ⟨f, e1, h⟩ := some_of_bind h
    obtain ⟨gs', e2, rfl⟩ := some_of_map h
    simp [dk_len e2]
theorem perm_len {α : Type} {pm : List Nat} {l : List α} {n : Nat} (h : (pm.all fun i => decide (i < n)) = true) (hl : l.length = n) : (perm pm l).length = pm.length := by
  induction pm with
  | nil => rfl
  | cons i pm ih =>
    rw [List.all_cons, Bool.and_eq_true] at h
    rw [perm_cons, List.getElem?_eq_getElem (by rw [hl]; exact of_decide_eq_true h.1)]
    simp [ih h.2]
theorem kwE_of (C : CtxOk c X G k) (he : ∀ x f, d.e c x = some f → PE X x (tOf G f)) {x : Str} {args : List Expr} {kws : List Keyword} {fx : Ex} {p pos : Pos} (h : kwE d c x args kws = some fx) : PE X (.Call (.Name x p) args kws pos) (tOf G fx) := by
  unfold kwE at h
  split at h
  · rename_i hgl
    split at h
    · rename_i g hg
      obtain ⟨ks, e1, h⟩ := some_of_bind h
      obtain ⟨pm, e2, h⟩ := some_of_bind h
      obtain ⟨fs, e3, h⟩ := some_of_bind h
      obtain ⟨gs, e4, h⟩ := some_of_bind h
      split at h
      · rename_i hh
        cases h
        obtain ⟨g1, g2, g3⟩ := gl_of C hgl
        obtain ⟨fa, fd, m1, m2, m3, m4, m5⟩ := (C.fns x g hg).ex
        have kb := m5 _ (lk_mem e2)
        obtain ⟨h1, h2, h3⟩ := den_a he e3
        refine se_callK C.hK C.hM m3 (C.room.mono (by omega)) g1 m1 m2 kb C.tk g2 h2 rfl h3 ?_ (fun l hl => ?_) e1 h1 (den_k he e4)
        · rw [dk_len e4, kn_len e1]
        · rw [perm_len hh.2 hl, hh.1]
      · cases h
    · cases h
  · cases h
theorem orE_of {α : Type} {a b : Option α} {x : α} (h : Option.orE a b = some x) : a = some x ∨ b = some x := by
  unfold Option.orE at h
  split at h
  · exact .inl h
  · exact .inr h
theorem blt1_of (C : CtxOk c X G k) (he : ∀ x f, d.e c x = some f → PE X x (tOf G f)) {f : Str} {a : Expr} {fx : Ex} {p pos : Pos} (hb : isBl c f = true) (hp : plainArg a = true) (h : bltE1 d c f a = some fx) : PE X (.Call (.Name f p) [a] [] pos) (tOf G fx) := by
  obtain ⟨g1, g2, g3, g4⟩ := bl_of C hb
  unfold bltE1 at h
  split at h
  · rename_i hf
    have hf := eq_of_beq hf
    subst hf
    obtain ⟨f1, e1, rfl⟩ := some_of_map h
    exact se_b1 C.hK c_len g1 g2 (by decide +kernel) g4 g3 hp (den_r C he e1)
  · split at h
    · rename_i hf
      have hf := eq_of_beq hf
      subst hf
      obtain ⟨f1, e1, rfl⟩ := some_of_map h
      exact se_b1 C.hK (c_all C.calm) g1 g2 (by decide +kernel) g4 g3 hp (den_r C he e1)
    · split at h
      · rename_i hf
        have hf := eq_of_beq hf
        subst hf
        obtain ⟨f1, e1, rfl⟩ := some_of_map h
        exact se_b1 C.hK (c_any C.calm) g1 g2 (by decide +kernel) g4 g3 hp (den_r C he e1)
      · split at h
        · rename_i hf
          have hf := eq_of_beq hf
          subst hf
          obtain ⟨f1, e1, rfl⟩ := some_of_map h
          exact se_t1 C.hK c_tuple g1 g2 (by decide +kernel) g4 g3 hp (den_r C he e1)
        · split at h
          · rename_i hf
            have hf := eq_of_beq hf
            subst hf
            obtain ⟨f1, e1, rfl⟩ := some_of_map h
            exact se_t1 C.hK c_int g1 g2 (by decide +kernel) g4 g3 hp (den_r C he e1)
          · cases h
theorem blt2_of (C : CtxOk c X G k) (he : ∀ x f, d.e c x = some f → PE X x (tOf G f)) {f : Str} {a b : Expr} {fx : Ex} {p pos : Pos} (hb : isBl c f = true) (hp : plainArg a = true) (hp' : plainArg b = true) (h : bltE2 d c f a b = some fx) : PE X (.Call (.Name f p) [a, b] [] pos) (tOf G fx) := by
  obtain ⟨g1, g2, g3, g4⟩ := bl_of C hb
  unfold bltE2 at h
  split at h
  · rename_i hf
    have hf := eq_of_beq hf
    subst hf
    obtain ⟨f1, e1, h⟩ := some_of_bind h
    obtain ⟨f2, e2, rfl⟩ := some_of_map h
    exact se_b2 C.hK (c_max C.calm) g1 g2 (by decide +kernel) g4 g3 hp hp' (den_r C he e1) (den_r C he e2)
  · split at h
    · rename_i hf
      have hf := eq_of_beq hf
      subst hf
      obtain ⟨f1, e1, h⟩ := some_of_bind h
      obtain ⟨f2, e2, rfl⟩ := some_of_map h
      exact se_b2 C.hK (c_min C.calm) g1 g2 (by decide +kernel) g4 g3 hp hp' (den_r C he e1) (den_r C he e2)
    · cases h
theorem isi_of (C : CtxOk c X G k) (he : ∀ x f, d.e c x = some f → PE X x (tOf G f)) {t : Str} {a : Expr} {fx : Ex} {p pos tp : Pos} (hb : isBl c "isinstance" = true) (hbt : isBl c t = true) (hp : plainArg a = true) (h : isiE d c a t = some fx) : PE X (.Call (.Name "isinstance" p) [a, .Name t tp] [] pos) (tOf G fx) := by
  obtain ⟨g1, g2, g3, g4⟩ := bl_of C hb
  obtain ⟨t1, t2, t3, t4⟩ := bl_of C hbt
  have isi : ∀ (T : String), t = (T : Str) → T ∈ isiNames → bootBuiltins (T : Str) = some (.type T) → ∀ {f : Ex}, (d.r c a).map (e1 (oIsT T)) = some f → PE X (.Call (.Name "isinstance" p) [a, .Name t tp] [] pos) (tOf G f) := fun T hT hm hv {f} h => by
    obtain ⟨f1, e1, rfl⟩ := some_of_map h
    exact se_isT C.hK hm g1 g2 t1 t2 (by rw [hT]; exact hv) t4 t3 hp (den_r C he e1)
  unfold isiE at h
  split at h
  · rename_i hf; exact isi "str" (eq_of_beq hf) (by decide) (by decide +kernel) h
  · split at h
    · rename_i hf; exact isi "tuple" (eq_of_beq hf) (by decide) (by decide +kernel) h
    · split at h
      · rename_i hf; exact isi "list" (eq_of_beq hf) (by decide) (by decide +kernel) h
      · split at h
        · rename_i hf; exact isi "int" (eq_of_beq hf) (by decide) (by decide +kernel) h
        · split at h
          · rename_i hf; exact isi "bool" (eq_of_beq hf) (by decide) (by decide +kernel) h
          · cases h
theorem isin_of (C : CtxOk c X G k) (he : ∀ x f, d.e c x = some f → PE X x (tOf G f)) {f : Str} {a b : Expr} {fx : Ex} {p pos : Pos} (hb : isBl c f = true) (hp : plainArg a = true) (h : isiN d c f a b = some fx) : PE X (.Call (.Name f p) [a, b] [] pos) (tOf G fx) := by
  unfold isiN at h
  split at h
  · split at h
    · next hf =>
      rw [Bool.and_eq_true] at hf
      have hff := eq_of_beq hf.1
      subst hff
      exact isi_of C he hb hf.2 hp h
    · cases h
  · cases h
theorem meth_of (C : CtxOk c X G k) (he : ∀ x f, d.e c x = some f → PE X x (tOf G f)) {m : Str} {o b : Expr} {fx : Ex} {ap cp : Pos} (hb : plainBase o = true) (hp : plainArg b = true) (hl : (ap.endLine == cp.line) = true) (h : methE d c o m b = some fx) : PE X (.Call (.Attribute o m ap) [b] [] cp) (tOf G fx) := by
  unfold methE at h
  split at h
  · rename_i hf
    have hf := eq_of_beq hf
    subst hf
    obtain ⟨f1, e1, h⟩ := some_of_bind h
    obtain ⟨f2, e2, rfl⟩ := some_of_map h
    exact se_join C.hK hp (base_of hb _ _) hl (den_r C he e1) (den_r C he e2)
  · split at h
    · rename_i hf
      have hf := eq_of_beq hf
      subst hf
      obtain ⟨f1, e1, h⟩ := some_of_bind h
      obtain ⟨fs, e2, rfl⟩ := some_of_map h
      obtain ⟨h1, h2, h3⟩ := den_a he e2
      exact se_mt C.hK PySem.F.slot_list_pop PySem.F.type_list_pop m_pop (he _ _ e1) (base_of hb _ _) h2 (by show 1 < 30; decide) hl h1
    · cases h
theorem callE_of (C : CtxOk c X G k) (he : ∀ x f, d.e c x = some f → PE X x (tOf G f)) {f : Str} {a : Expr} {args : List Expr} {fx : Ex} {p pos : Pos} (h : callE d c f (a :: args) = some fx) : PE X (.Call (.Name f p) (a :: args) [] pos) (tOf G fx) := by
  unfold callE at h
  split at h
  · rename_i hgl
    split at h
    · rename_i g hg
      obtain ⟨fs, e1, h⟩ := some_of_bind h
      obtain ⟨h1, h2, h3⟩ := den_a he e1
      exact call_of C hgl hg h1 h2 h3 h
    · cases h
  · cases h
set_option maxHeartbeats 1000000 in
theorem step_e (ok : d.Ok) (C : CtxOk c X G k) {x : Expr} {f : Ex} (h : stepE d c x = some f) : PE X x (tOf G f) := by
  have he := (ok c X G k C).1
  have ht := (ok c X G k C).2.2
  have hl : ∀ {f : Ex}, (stepL d c x).map eL = some f → PE X x (tOf G f) := fun {f} h => by
    obtain ⟨f1, e1, rfl⟩ := some_of_map h
    exact se_l (step_l ok C e1)
  unfold stepE at h
  split at h
  · obtain ⟨f1, e1, rfl⟩ := some_of_map h
    exact se_con e1
  · obtain ⟨f1, e1, rfl⟩ := some_of_map h
    exact se_dsp e1
  · split at h
    · rename_i i e
      cases h
      obtain ⟨s1, s2, s3, s4⟩ := slot_of C e
      exact se_var s1 s2 s3 s4
    · split at h
      · rename_i hg
        obtain ⟨dd, e1, rfl⟩ := some_of_map h
        obtain ⟨g1, g2, g3⟩ := gl_of C hg
        obtain ⟨u, v, m1, m2, m3⟩ := C.gl _ _ e1
        refine PE.imp (pe_glob g1 m1 m2 g2) fun σ H Q h => ?_
        obtain ⟨Z, r, S, F, m, I, h⟩ := h
        exact h v H F m I.hi (Step.refl _ _ _) (by rw [← C.hK]; exact m3 F m)
      · cases h
  · split at h
    · rename_i hb
      obtain ⟨f1, e1, h⟩ := some_of_bind h
      obtain ⟨f2, e2, rfl⟩ := some_of_map h
      exact se_bin C.hK (op_bin_V hb) (den_r C he e1) (den_r C he e2)
    · cases h
  · obtain ⟨f1, e1, rfl⟩ := some_of_map h
    exact se_neg C.hK (den_r C he e1)
  · obtain ⟨f1, e1, rfl⟩ := some_of_map h
    exact se_not (he _ _ e1)
  · exact bool_e he _ _ h
  · obtain ⟨⟨f1, f2⟩, e1, rfl⟩ := some_of_map h
    obtain ⟨h1, h2, h3⟩ := cmp_of C he e1
    exact se_cmp C.hK C.units h3 h1 h2
  · obtain ⟨f1, e1, h⟩ := some_of_bind h
    obtain ⟨f2, e2, h⟩ := some_of_bind h
    obtain ⟨f3, e3, rfl⟩ := some_of_map h
    exact se_if (ht _ _ e1) (he _ _ e2) (he _ _ e3)
  · obtain ⟨fs, e, rfl⟩ := some_of_map h
    exact se_tup (den_a he e).1
  · obtain ⟨f1, e1, h⟩ := some_of_bind h
    obtain ⟨fl, e2, h⟩ := some_of_bind h
    obtain ⟨fh, e3, rfl⟩ := some_of_map h
    exact se_cut C.hK (den_r C he e1) (den_o he e2) (den_o he e3)
  · split at h
    · rename_i hb
      obtain ⟨f1, e1, h⟩ := some_of_bind h
      obtain ⟨f2, e2, rfl⟩ := some_of_map h
      exact se_ix C.hK C.units hb (den_r C he e1) (den_r C he e2)
    · exact hl h
  · exact hl h
  · exact hl h
  · rcases orE_of h with h | h
    · exact callE_of C he h
    · split at h
      · rename_i hb
        split at h
        · split at h
          · rename_i hp
            rcases orE_of h with h | h
            · exact blt1_of C he hb hp h
            · exact hl h
          · cases h
        · split at h
          · rename_i hp
            rw [Bool.and_eq_true] at hp
            rcases orE_of h with h | h
            · exact blt2_of C he hb hp.1 hp.2 h
            · exact isin_of C he hb hp.1 h
          · cases h
        · cases h
      · cases h
  · rcases orE_of h with h | h
    · exact kwE_of C he h
    · exact hl h
  · split at h
    · rename_i hb
      simp only [Bool.and_eq_true] at hb
      rcases orE_of h with h | h
      · exact meth_of C he hb.1.1 hb.1.2 hb.2 h
      · exact hl h
    · cases h
  · cases h
theorem den_ok : ∀ n, (den n).Ok
  | 0 => fun c X G k C => ⟨(fun x f h => by cases h), (fun x f h => by cases h), (fun x f h => by cases h)⟩
  | n + 1 => fun c X G k C => ⟨fun x f h => step_e (den_ok n) C h, fun x f h => step_l (den_ok n) C h, fun x f h => step_t (den_ok n) C h⟩
end
end Pk
namespace Pk
open PySem PySem.Spec PyProof.Rows L2
/-! ### statements -/
def sNo : Sx := fun _ _ => .no
def notComp : Expr → Bool
  | .ListComp .. => false
  | .SetComp .. => false
  | .DictComp .. => false
  | _ => true
noncomputable def lvE (d : Den) (c : Ctx) (a : Expr) : Option Lx := match a with
  | .ListComp elt [g] scope _ => d.lc c elt g scope
  | a => if notComp a then d.l c a else none
noncomputable def evE (d : Den) (c : Ctx) (a : Expr) : Option Ex := if notComp a then d.e c a else (lvE d c a).map eL
def isD0 : Expr → Bool
  | .Dict [] [] _ => true
  | _ => false
noncomputable def asgN (d : Den) (c : Ctx) (i : Nat) (a : Expr) : Option Sx :=
  if isD0 a then (c.dt.lookup i).map (sDnew i) else if i ∈ c.ow then (lvE d c a).map (sOwn i) else if i ∈ c.ce then (lvE d c a).map fun f => sSet i (eCell f) else (evE d c a).map (sSet i)
/-- the values of a parallel assignment -/
def parA (d : Den) (c : Ctx) : List Nat → List Expr → Option (List Ex)
  | [], [] => some []
  | i :: is, x :: xs => if plainArg x then (if i ∈ c.ce then (d.l c x).map eCell else d.e c x).bind fun f => (parA d c is xs).map (f :: ·) else none
  | _, _ => none
def isStar : Expr → Bool
  | .Starred .. => true
  | _ => false
def parN (lk : Str → Option NameKind) (line : Nat) : Expr → Option Str
  | .Name id pos => if lk id == some .local && pos.line == line then some id else none
  | _ => none
def parNs (lk : Str → Option NameKind) (ts : List Expr) : List Str := ts.filterMap (parN lk ((ts.head?.map (·.pos.line)).getD 0))
def nmOf (c : Ctx) (x : Str) : Option NameKind := c.nm.lookup x
def parOk (c : Ctx) (ts vs : List Expr) : Bool := (ts.length == 2 || ts.length == 3) && vs.length == ts.length && !(vs.any isStar) && decide ((parNs (nmOf c) ts).length = ts.length) && decide ((parNs (nmOf c) ts).eraseDups.length = (parNs (nmOf c) ts).length) && decide (parNs (nmOf c) ts).Nodup && !(vs.all (foldedForSure 8)) && !(vs.all (constantsAlone 8))
def foldOk (vs : List Expr) : Bool := vs.all (foldedForSure 8)
noncomputable def asgT (d : Den) (c : Ctx) (ts : List Expr) (a : Expr) : Option Sx :=
  (tgNames c ts).bind fun l => match a with
    | .Tuple vs _ _ => if parOk c ts vs then (parA d c (l.map (·.2)) vs).map fun fs => sAsg (tgT (l.map (·.2))) (eTup fs)
      else if (ts.length ≠ 2 ∧ ts.length ≠ 3) ∨ foldOk vs = true ∨ (parNs (nmOf c) ts).length ≠ ts.length then (d.e c a).map (sAsg (tgT (l.map (·.2)))) else none
    | _ => (d.e c a).map (sAsg (tgT (l.map (·.2))))
def augOk : Operator → Bool
  | .Add => true
  | .Sub => true
  | .FloorDiv => true
  | _ => false
def stLine : Stmt → Nat
  | .Return _ p => p.line
  | .Assign _ _ p => p.line
  | .AugAssign _ _ _ p => p.line
  | .For _ _ _ _ p => p.line
  | .While _ _ _ p => p.line
  | .If _ _ _ p => p.line
  | .Expr _ p => p.line
  | .Raise _ _ p => p.line
  | .Try _ _ _ _ p => p.line
  | .Pass p => p.line
  | .Break p => p.line
  | .Continue p => p.line
  | _ => 0
noncomputable def mtS (d : Den) (c : Ctx) (x : Str) (name : Str) (args : List Expr) : Option Sx := (slotOf c x).bind fun i => match args with
  | [] => if name == ("pop" : Str) then some (sMt i mPop0 []) else if name == ("reverse" : Str) then some (sMt i mReverse []) else if name == ("clear" : Str) then some (sMt i mClear []) else none
  | [_] => if name == ("append" : Str) then (d.a c args).map (sMt i mAppend) else if name == ("pop" : Str) then (d.a c args).map (sMt i mPop) else if name == ("remove" : Str) then (d.a c args).map (sMt i mRemove) else none
  | [_, _] => if name == ("insert" : Str) then (d.a c args).map (sMt i mInsert) else none
  | _ => none
noncomputable def exprS (d : Den) (c : Ctx) (x : Expr) : Option Sx :=
  Option.orE (match x with
    | .Constant (.str _) _ _ => some sNil
    | .Call (.Attribute (.Name x _) name ap) args [] cp => if ap.endLine == cp.line then mtS d c x name args else none
    | _ => none) (if notComp x then (d.r c x).map sDrop else none)
noncomputable def retS (d : Den) (c : Ctx) (x : Option Expr) : Option Sx := match x with
  | none => some sRetN
  | some x => if c.rc then (d.l c x).map fun f => sRet (eCell f) else (d.r c x).map sRet
noncomputable def asgS (d : Den) (c : Ctx) (t a : Expr) : Option Sx := match t with
  | .Name x _ => (setSlot c x).bind fun i => asgN d c i a
  | .Tuple ts _ _ => asgT d c ts a
  | .Subscript (.Name x _) i' _ => if plainIx i' then (slotOf c x).bind fun i => (d.e c i').bind fun fi => (d.e c a).map fun fe => if (c.dt.lookup i).isSome then sPutD i fi fe else sPut i fi fe else none
  | _ => none
noncomputable def augS (d : Den) (c : Ctx) (t : Expr) (op : Operator) (a : Expr) : Option Sx := if augOk op then (match t with
  | .Name x _ => (setSlot c x).bind fun i => if i ∈ c.ow then (match op with | .Add => (d.l c a).map (sExt i) | _ => none) else (d.e c a).map fun f => sAug i op f
  | .Subscript (.Name x _) i' _ => if plainIx i' then (slotOf c x).bind fun i => (d.e c i').bind fun fi => (d.e c a).map fun fe => sAugIx i fi op fe else none
  | _ => none) else none
/-- a statement, over what the blocks in it are worth -/
noncomputable def stS (d : Den) (c : Ctx) (bs : List Stmt → Sx) (st : Stmt) : Option Sx := match st with
  | .Assign [t] a _ => asgS d c t a
  | .AugAssign t op a _ => augS d c t op a
  | .Expr x _ => exprS d c x
  | .Return x _ => retS d c x
  | .If t a b _ => (d.t c t).map fun f => sIf f (bs a) (bs b)
  | .For t i b [] _ => if notSet i then (d.i c (isTupE t) i).bind fun it => (denTg c t).map fun (_, tg) => sFor it tg (bs b) else none
  | .While t b [] _ => (d.t c t).map fun f => sWhile f (bs b)
  | .Pass _ => some sNil
  | .Break _ => some sBk
  | .Continue _ => some sCt
  | _ => none
def frzS (c : Ctx) (st : Stmt) (f : Sx) : Sx := match c.fz.lookup (stLine st) with
  | some is => sSeq (sFrz is) f
  | none => f
noncomputable def denB (d : Den) (c : Ctx) : Nat → List Stmt → Sx
  | 0, _ => sNo
  | _ + 1, [] => sNil
  | n + 1, [st] => frzS c st ((stS d c (denB d c n) st).getD sNo)
  | n + 1, st :: rest => frzS c st (sSeq ((stS d c (denB d c n) st).getD sNo) (denB d c n rest))
end Pk
namespace Pk
open PySem PySem.Spec PyProof.Rows L2
section
variable {c : Ctx} {X : Cx} {G : Gb} {k : Nat} {d : Den} {pos : Pos}
theorem ss_no {st : Stmt} : PS X st (tsOf G sNo) := ⟨fun pins s σ H D I h => by
  obtain ⟨Z, r, S, F, m, I, h⟩ := h
  exact h.elim⟩
theorem sss_no {sts : List Stmt} : PSs X sts (tsOf G sNo) := ⟨fun pins s σ H D I h => by
  obtain ⟨Z, r, S, F, m, I, h⟩ := h
  exact h.elim⟩
theorem swaps_plain {a : Expr} (h : notComp a = true) (t : Option Expr) (l : Nat) (env : PySem.Env) : swapsWith a t l env = pure false := by
  cases a <;> first | rfl | cases h
theorem l_imp {f : Lx} {σ : St} {H : Hp} {Q : VK} (h : tOf G (eL f) σ H Q) : tlOf G f σ H Q := by
  obtain ⟨Z, r, S, F, m, I, h⟩ := h
  refine ⟨Z, r, S, F, m, I, post_mono (post_bind h) fun l S1 h1 v H1 F1 m1 hi1 st1 hn => ?_⟩
  obtain ⟨p, xs, rfl, hp, hp1, hF, hm, z, rv⟩ := hn
  refine h1 _ H1 (upd F1 p (.lst xs)) m1 (hi1.freeze hp1 hF hm) ⟨fun b o e => same_upd hF b o (st1.sub b o e), st1.keep, fun b o e => ?_, st1.out, st1.pre, st1.dom⟩ ?_
  · by_cases hb : b = p
    · subst hb; exact .inr (.inl hp)
    · rw [upd_ne hb] at e; exact st1.newF b o e
  · unfold RV
    exact ⟨z, p, xs, rfl, .inl (.inl upd_same), RVs.mono (same_upd hF) (fun _ _ z => z) _ _ rv⟩
theorem cell_imp {f : Lx} {σ : St} {H : Hp} {Q : VK} (h : tOf G (eCell f) σ H Q) : tlOf G f σ H Q := by
  obtain ⟨Z, r, S, F, m, I, h⟩ := h
  refine ⟨Z, r, S, F, m, I, post_mono (post_bind h) fun l S1 h1 v H1 F1 m1 hi1 st1 hn => ?_⟩
  obtain ⟨p, xs, rfl, hp, hp1, hF, hm, z, rv⟩ := hn
  refine h1 _ H1 F1 (m1 ++ [p]) (hi1.newC hp1 hF hm z rv) ⟨st1.sub, st1.keep, st1.newF, fun b hb => ?_, fun n b hb => ?_, st1.dom⟩ ?_
  · rcases List.mem_append.mp hb with h | h
    · exact st1.out b h
    · have : b = p := by simpa using h
      subst this; exact .inr hp
  · have := st1.pre n b hb
    obtain ⟨hlt, _⟩ := List.getElem?_eq_some_iff.mp this
    rw [List.getElem?_append_left hlt]; exact this
  · simp only [RV]
    refine ⟨p, rfl, ?_⟩
    rw [← hi1.len, List.getElem?_append_right (Nat.le_refl _), Nat.sub_self]; rfl
theorem lv_of (ok : d.Ok) (C : CtxOk c X G k) {x : Str} {i : Nat} {a : Expr} {f : Lx} {p : Pos} (hi : setSlot c x = some i) (h : lvE d c a = some f) : PS X (.Assign [.Name x p] a pos) (tAsg (tlOf G f) (gName i)) := by
  obtain ⟨s1, s2, s3, s4⟩ := set_of C hi
  unfold lvE at h
  split at h
  · rename_i elt g scope p2
    obtain ⟨wi, gt, tt, te, own, h1, h2, h3, h4, h5, h6, h7, h8⟩ := den_lc ok C h
    obtain ⟨tg, iter, ifs, as⟩ := g
    simp only at h6
    subst h6
    by_cases hs : (decide (X.env.scope.names.lookup x = some .local) && (p.line == p2.line) && !(scope.names.any fun (n, k) => n == x && (k == .local || k == .cell))) = true
    · rw [Bool.and_eq_true, Bool.and_eq_true] at hs
      have hl := of_decide_eq_true hs.1.1
      exact asg_imp (ps_setLc C.calm s1 s2 hl (sw_true C.kind hl hs.1.2 (by simpa using hs.2)) h1 h2 h3 h4 h5 h7) h8
    · refine asg_imp (ps_set s1 s2 s3 (pe_lc C.calm s1 h1 h2 h3 h4 h5 h7) ?_ s4) h8
      unfold swapsWith
      have hb : X.env.blockKind = .function := by unfold PySem.Env.blockKind; rw [C.kind]; rfl
      show (pure (X.env.blockKind == .function && X.env.kindOf x == some .local && p.line == p2.line && !(scope.names.any fun (n, k) => n == x && (k == .local || k == .cell))) : Sem Bool) = pure false
      rw [hb]
      congr 1
      have e : (X.env.kindOf x == some .local) = decide (X.env.scope.names.lookup x = some .local) := by
        show (X.env.scope.names.lookup x == some .local) = _
        cases X.env.scope.names.lookup x with
        | none => rfl
        | some k => cases k <;> rfl
      rw [e]
      simp only [beq_self_eq_true, Bool.true_and]
      exact Bool.eq_false_iff.mpr hs
  · split at h
    · rename_i hn
      exact ps_set s1 s2 s3 ((ok c X G k C).2.1 _ _ h) (swaps_plain hn _ _ _) s4
    · cases h
theorem asgN_of (ok : d.Ok) (C : CtxOk c X G k) {x : Str} {i : Nat} {a : Expr} {f : Sx} {p : Pos} (hi : setSlot c x = some i) (h : asgN d c i a = some f) : PS X (.Assign [.Name x p] a pos) (tsOf G f) := by
  unfold asgN at h
  by_cases hd : isD0 a = true
  · rw [if_pos hd] at h
    obtain ⟨t, e, rfl⟩ := some_of_map h
    obtain ⟨s1, s2, s3, s4⟩ := set_of C hi
    match a, hd with
    | .Dict [] [] p2, _ => exact ss_dnew t s1 s2 s3 rfl s4
  rw [if_neg hd] at h
  split at h
  · obtain ⟨l, e, rfl⟩ := some_of_map h
    exact ss_ownA (lv_of ok C hi e)
  · split at h
    · obtain ⟨l, e, rfl⟩ := some_of_map h
      exact ss_setA (asg_imp (lv_of ok C hi e) fun σ H Q z => cell_imp z)
    · obtain ⟨l, e, rfl⟩ := some_of_map h
      unfold evE at e
      split at e
      · rename_i hn
        obtain ⟨s1, s2, s3, s4⟩ := set_of C hi
        exact ss_set s1 s2 s3 ((ok c X G k C).1 _ _ e) (swaps_plain hn _ _ _) s4
      · obtain ⟨l, e', rfl⟩ := some_of_map e
        exact ss_setA (asg_imp (lv_of ok C hi e') fun σ H Q z => l_imp z)
theorem parA_of (ok : d.Ok) (C : CtxOk c X G k) : ∀ {is : List Nat} {es : List Expr} {fs : List Ex}, parA d c is es = some fs → PA X es (taOf G (eArgs fs))
  | [], [], fs, h => by cases h; exact sa_nil
  | i :: is, x :: xs, fs, h => by
    unfold parA at h
    split at h
    · rename_i hp
      obtain ⟨f, e1, h⟩ := some_of_bind h
      obtain ⟨fs', e2, rfl⟩ := some_of_map h
      refine sa_cons hp ?_ (parA_of ok C e2)
      split at e1
      · obtain ⟨l, e, rfl⟩ := some_of_map e1
        exact se_cell ((ok c X G k C).2.1 _ _ e)
      · exact (ok c X G k C).1 _ _ e1
    · cases h
  | [], x :: xs, fs, h => by cases h
  | i :: is, [], fs, h => by cases h
theorem names_at (C : CtxOk c X G k) : ∀ {ts : List Expr} {l : List (Str × Nat)}, tgNames c ts = some l → ∃ ps : List Pos, ts = (l.zip ps).map (fun q => Expr.Name q.1.1 q.2) ∧ ps.length = l.length ∧ ∀ q ∈ l, X.N[q.2]? = some q.1
  | [], l, h => by cases h; exact ⟨[], rfl, rfl, fun q h => by cases h⟩
  | e :: es, l, h => by
    cases e with
    | Name x p =>
      unfold tgNames at h
      obtain ⟨i, e1, h⟩ := some_of_bind h
      obtain ⟨l', e2, rfl⟩ := some_of_map h
      obtain ⟨ps, h1, h2, h3⟩ := names_at C e2
      refine ⟨p :: ps, by simp [h1], by simp [h2], fun q hq => ?_⟩
      rcases List.mem_cons.mp hq with rfl | hq
      · exact (set_of C e1).2.1
      · exact h3 q hq
    | _ => simp [tgNames] at h
theorem idx_ne {X : Cx} {i j : Nat} {x y : Str} (hi : X.N[i]? = some x) (hj : X.N[j]? = some y) (h : x ≠ y) : i ≠ j := fun z => by
  subst z
  rw [hi] at hj
  cases hj
  exact h rfl
theorem sw_eq {ts vs : List Expr} {kt k2 : Nat} {pt pt2 : Pos} {env : PySem.Env} : swappedStores [.Tuple ts kt pt] (.Tuple vs k2 pt2) env = (if !(ts.length == 2 || ts.length == 3) || vs.length != ts.length || env.blockKind != .function then pure none else if vs.any isStar then pure none
    else if (parNs env.kindOf ts).length != ts.length || (parNs env.kindOf ts).eraseDups.length != (parNs env.kindOf ts).length then pure none else if vs.all (foldedForSure 8) then pure none
    else if vs.all (constantsAlone 8) then (do unsupported "assign.tuple-of-constant-expressions:order-of-the-stores"; pure (some (parNs env.kindOf ts))) else pure (some (parNs env.kindOf ts))) := rfl
theorem parN_of {lk : Str → Option NameKind} {line : Nat} {x z : Str} {p : Pos} (h : parN lk line (.Name x p) = some z) : z = x ∧ lk x = some .local := by
  have h : (if lk x == some .local && p.line == line then some x else none) = some z := h
  split at h
  · rename_i hh
    rw [Bool.and_eq_true] at hh
    cases h
    exact ⟨rfl, eq_of_beq hh.1⟩
  · cases h
theorem fm_len {α β : Type} {f : α → Option β} : ∀ {l : List α}, (l.filterMap f).length = l.length → ∃ r, l.map f = r.map some ∧ l.filterMap f = r
  | [], _ => ⟨[], rfl, rfl⟩
  | a :: l, h => by
    have hle : (l.filterMap f).length ≤ l.length := List.length_filterMap_le f l
    cases e : f a with
    | none => simp [List.filterMap_cons, e] at h; omega
    | some b =>
      rw [List.filterMap_cons_some e, List.length_cons, List.length_cons] at h
      obtain ⟨r, h1, h2⟩ := fm_len (f := f) (l := l) (by omega)
      exact ⟨b :: r, by simp [e, h1], by simp [List.filterMap_cons, e, h2]⟩
theorem par_of (C : CtxOk c X G k) {ts vs : List Expr} {kt k2 : Nat} {pt pt2 : Pos} {l : List (Str × Nat)} {fs : List Ex} (hn : tgNames c ts = some l) (h : parOk c ts vs = true) (ha : PA X vs (taOf G (eArgs fs))) :
    PS X (.Assign [.Tuple ts kt pt] (.Tuple vs k2 pt2) pos) (tsOf G (sAsg (tgT (l.map (·.2))) (eTup fs))) := by
  obtain ⟨ps, h1, h2, h3⟩ := names_at C hn
  have hb : X.env.blockKind = .function := by unfold PySem.Env.blockKind; rw [C.kind]; rfl
  have nm : X.env.kindOf = nmOf c := by
    show (fun x => X.env.scope.names.lookup x) = _
    rw [C.nm]; rfl
  unfold parOk at h
  simp only [Bool.and_eq_true, Bool.not_eq_true', beq_iff_eq, Bool.or_eq_true, decide_eq_true_eq] at h
  obtain ⟨⟨⟨⟨⟨⟨⟨hlen, hvl⟩, hst⟩, hnm⟩, hdup⟩, hnd⟩, hfold⟩, hcon⟩ := h
  have sw : swappedStores [.Tuple ts kt pt] (.Tuple vs k2 pt2) X.env = pure (some (parNs (nmOf c) ts)) := by
    rw [sw_eq, nm, hb, hst, hfold, hcon, hdup, hnm, hvl]
    rcases hlen with z | z <;> simp [z]
  have lk : ∀ x, X.env.scope.names.lookup x = nmOf c x := fun x => by rw [C.nm]; rfl
  obtain ⟨r, e1, e2⟩ := fm_len hnm
  have e2 : parNs (nmOf c) ts = r := e2
  rw [e2] at sw hnd
  have hl2 : l.length = ts.length := by rw [h1]; simp [h2]
  rcases hlen with z | z
  · rw [z] at hl2; rw [z] at hvl
    match l, ps, vs, hl2, h2, hvl with
    | [(x, i), (y, j)], [p1, p2], [a, b], _, _, _ =>
      simp at h1
      subst h1
      have hr := congrArg List.length e1
      simp at hr
      match r, e1, hnd, hr with
      | [u, v], e1, hnd, _ =>
        simp at e1
        obtain ⟨e1, e2⟩ := e1
        obtain ⟨rfl, f1⟩ := parN_of e1
        obtain ⟨rfl, f2⟩ := parN_of e2
        have n1 := h3 (u, i) (by simp)
        have n2 := h3 (v, j) (by simp)
        exact ss_par C.calm (by rw [C.hN]; exact C.nd) n1 n2 (idx_ne n1 n2 (by simp at hnd; exact hnd)) (by rw [lk]; exact f1) (by rw [lk]; exact f2) ha sw
  · rw [z] at hl2; rw [z] at hvl
    match l, ps, vs, hl2, h2, hvl with
    | [(x, i), (y, j), (w, q)], [p1, p2, p3], [a, b, e], _, _, _ =>
      simp at h1
      subst h1
      have hr := congrArg List.length e1
      simp at hr
      match r, e1, hnd, hr with
      | [u, v, t], e1, hnd, _ =>
        simp at e1
        obtain ⟨e1, e2, e3⟩ := e1
        obtain ⟨rfl, f1⟩ := parN_of e1
        obtain ⟨rfl, f2⟩ := parN_of e2
        obtain ⟨rfl, f3⟩ := parN_of e3
        have n1 := h3 (u, i) (by simp)
        have n2 := h3 (v, j) (by simp)
        have n3 := h3 (t, q) (by simp)
        simp at hnd
        exact ss_par3 C.calm (by rw [C.hN]; exact C.nd) n1 n2 n3 (idx_ne n1 n2 hnd.1.1) (idx_ne n1 n3 hnd.1.2) (idx_ne n2 n3 hnd.2) (by rw [lk]; exact f1) (by rw [lk]; exact f2) (by rw [lk]; exact f3) ha sw
theorem asgT_of (ok : d.Ok) (C : CtxOk c X G k) {ts : List Expr} {a : Expr} {kt : Nat} {pt : Pos} {f : Sx} (h : asgT d c ts a = some f) : PS X (.Assign [.Tuple ts kt pt] a pos) (tsOf G f) := by
  unfold asgT at h
  obtain ⟨l, e1, h⟩ := some_of_bind h
  have tgp : PG X (.Tuple ts kt pt) (gOf G (l.map (·.2)) (tgT (l.map (·.2)))) := by
    have := den_tg (x := .Tuple ts kt pt) (own := l) (tg := tgT (l.map (·.2))) C (by show Option.map _ (tgNames c ts) = _; rw [e1]; rfl)
    exact this
  have hsw : ∀ a, swapsWithSole [.Tuple ts kt pt] a pos.line X.env = pure false := fun a => by cases a <;> rfl
  have plain : ∀ {a : Expr} {f : Ex}, d.e c a = some f → swappedStores [.Tuple ts kt pt] a X.env = pure none → PS X (.Assign [.Tuple ts kt pt] a pos) (tsOf G (sAsg (tgT (l.map (·.2))) f)) := fun {a f} e hw => ss_asg ((ok c X G k C).1 _ _ e) tgp (hsw a) hw rfl
  split at h
  · rename_i vs k2 pt2
    split at h
    · rename_i hp
      obtain ⟨fs, e2, rfl⟩ := some_of_map h
      exact par_of C e1 hp (parA_of ok C e2)
    · split at h
      · rename_i hp
        obtain ⟨fe, e2, rfl⟩ := some_of_map h
        refine plain e2 ?_
        rw [sw_eq]
        rcases hp with ⟨z1, z2⟩ | z | z
        · rw [if_pos (by simp [z1, z2])]
        · unfold foldOk at z
          rw [z]
          simp only [if_true, ite_self]
        · have nm : X.env.kindOf = nmOf c := by
            show (fun x => X.env.scope.names.lookup x) = _
            rw [C.nm]; rfl
          have hz : ((parNs (nmOf c) ts).length != ts.length) = true := by simpa using z
          rw [nm, hz]
          simp only [Bool.true_or, if_true, ite_self]
      · cases h
  · rename_i hne
    obtain ⟨fe, e2, rfl⟩ := some_of_map h
    refine plain e2 ?_
    cases a <;> first | rfl | exact (hne _ _ _ rfl).elim
theorem aug_op {op : Operator} (h : augOk op = true) : op = .Add ∨ op = .Sub ∨ op = .FloorDiv := by
  cases op <;> first | exact .inl rfl | exact .inr (.inl rfl) | exact .inr (.inr rfl) | cases h
theorem mtS_of (ok : d.Ok) (C : CtxOk c X G k) {x name : Str} {args : List Expr} {p ap cp : Pos} {f : Sx} (hl : (ap.endLine == cp.line) = true) (h : mtS d c x name args = some f) : PS X (.Expr (.Call (.Attribute (.Name x p) name ap) args [] cp) pos) (tsOf G f) := by
  unfold mtS at h
  obtain ⟨i, e1, h0⟩ := some_of_bind h
  clear h
  have h := h0
  clear h0
  obtain ⟨s1, s2, s3, s4⟩ := slot_of C e1
  have he := (ok c X G k C).1
  split at h
  · split at h
    · rename_i hf; have hf := eq_of_beq hf; subst hf; cases h
      exact ss_mt0 C.hK PySem.F.slot_list_pop PySem.F.type_list_pop m_pop0 s1 s2 s3 s4 hl
    · split at h
      · rename_i hf; have hf := eq_of_beq hf; subst hf; cases h
        exact ss_mt0 C.hK PySem.F.slot_list_reverse PySem.F.type_list_reverse m_reverse s1 s2 s3 s4 hl
      · split at h
        · rename_i hf; have hf := eq_of_beq hf; subst hf; cases h
          exact ss_mt0 C.hK PySem.F.slot_list_clear PySem.F.type_list_clear m_clear s1 s2 s3 s4 hl
        · cases h
  · split at h
    · rename_i hf; have hf := eq_of_beq hf; subst hf
      obtain ⟨fs, e2, rfl⟩ := some_of_map h
      obtain ⟨h1, h2, h3⟩ := den_a he e2
      exact ss_mt C.hK PySem.F.slot_list_append PySem.F.type_list_append m_append s1 s2 s3 s4 h2 (by show 1 < 30; decide) hl h1
    · split at h
      · rename_i hf; have hf := eq_of_beq hf; subst hf
        obtain ⟨fs, e2, rfl⟩ := some_of_map h
        obtain ⟨h1, h2, h3⟩ := den_a he e2
        exact ss_mt C.hK PySem.F.slot_list_pop PySem.F.type_list_pop m_pop s1 s2 s3 s4 h2 (by show 1 < 30; decide) hl h1
      · split at h
        · rename_i hf; have hf := eq_of_beq hf; subst hf
          obtain ⟨fs, e2, rfl⟩ := some_of_map h
          obtain ⟨h1, h2, h3⟩ := den_a he e2
          exact ss_mt C.hK PySem.F.slot_list_remove PySem.F.type_list_remove (m_remove C.units) s1 s2 s3 s4 h2 (by show 1 < 30; decide) hl h1
        · cases h
  · split at h
    · rename_i hf; have hf := eq_of_beq hf; subst hf
      obtain ⟨fs, e2, rfl⟩ := some_of_map h
      obtain ⟨h1, h2, h3⟩ := den_a he e2
      exact ss_mt C.hK PySem.F.slot_list_insert PySem.F.type_list_insert m_insert s1 s2 s3 s4 h2 (by show 2 < 30; decide) hl h1
    · cases h
  · cases h
theorem asgS_of (ok : d.Ok) (C : CtxOk c X G k) {t a : Expr} {f : Sx} (h : asgS d c t a = some f) : PS X (.Assign [t] a pos) (tsOf G f) := by
  have he := (ok c X G k C).1
  unfold asgS at h
  split at h
  · obtain ⟨i, e1, h⟩ := some_of_bind h
    exact asgN_of ok C e1 h
  · exact asgT_of ok C h
  · split at h
    · rename_i hp
      obtain ⟨i, e1, h⟩ := some_of_bind h
      obtain ⟨fi, e2, h⟩ := some_of_bind h
      obtain ⟨fe, e3, rfl⟩ := some_of_map h
      obtain ⟨s1, s2, s3, s4⟩ := slot_of C e1
      split
      · exact ss_putD C.units s1 s2 s3 s4 (he _ _ e2) (he _ _ e3) (by cases a <;> rfl)
      · exact ss_put s1 s2 s3 s4 hp (he _ _ e2) (he _ _ e3) (by cases a <;> rfl) rfl
    · cases h
  · cases h
theorem augS_of (ok : d.Ok) (C : CtxOk c X G k) {t a : Expr} {op : Operator} {f : Sx} (h : augS d c t op a = some f) : PS X (.AugAssign t op a pos) (tsOf G f) := by
  have he := (ok c X G k C).1
  unfold augS at h
  split at h
  · rename_i ho
    split at h
    · obtain ⟨i, e1, h⟩ := some_of_bind h
      obtain ⟨s1, s2, s3, s4⟩ := set_of C e1
      split at h
      · split at h
        · obtain ⟨fl, e3, rfl⟩ := some_of_map h
          exact ss_ext s1 s2 s3 s4 ((ok c X G k C).2.1 _ _ e3)
        · cases h
      obtain ⟨fe, e3, rfl⟩ := some_of_map h
      exact ss_aug C.hK (aug_op ho) s1 s2 s3 s4 (he _ _ e3)
    · split at h
      · rename_i hp
        obtain ⟨i, e1, h⟩ := some_of_bind h
        obtain ⟨fi, e2, h⟩ := some_of_bind h
        obtain ⟨fe, e3, rfl⟩ := some_of_map h
        obtain ⟨s1, s2, s3, s4⟩ := slot_of C e1
        exact ss_augix C.hK (aug_op ho) s1 s2 s3 s4 hp (he _ _ e2) (he _ _ e3)
      · cases h
    · cases h
  · cases h
theorem exprS_of (ok : d.Ok) (C : CtxOk c X G k) {x : Expr} {f : Sx} (h : exprS d c x = some f) : PS X (.Expr x pos) (tsOf G f) := by
  have he := (ok c X G k C).1
  unfold exprS at h
  rcases orE_of h with h | h
  · split at h
    · cases h; exact ss_doc
    · split at h
      · rename_i hl
        exact mtS_of ok C hl h
      · cases h
    · cases h
  · split at h
    · rename_i hn
      obtain ⟨fe, e, rfl⟩ := some_of_map h
      exact ss_drop (den_r C he e) (swaps_plain hn _ _ _)
    · cases h
theorem retS_of (ok : d.Ok) (C : CtxOk c X G k) {x : Option Expr} {f : Sx} (h : retS d c x = some f) : PS X (.Return x pos) (tsOf G f) := by
  have he := (ok c X G k C).1
  unfold retS at h
  split at h
  · cases h; exact ss_retN
  · split at h
    · obtain ⟨fl, e, rfl⟩ := some_of_map h
      exact ss_ret (se_cell ((ok c X G k C).2.1 _ _ e))
    · obtain ⟨fe, e, rfl⟩ := some_of_map h
      unfold Den.r at e
      split at e
      · split at e
        · rename_i i e1
          cases e
          obtain ⟨s1, s2, s3, s4⟩ := slot_of C e1
          exact ss_retV s1 s2 s3 s4
        · exact ss_ret (he _ _ e)
      · exact ss_ret (he _ _ e)
theorem stS_of (ok : d.Ok) (C : CtxOk c X G k) (hp : PassesOwn (model X.prog X.w) X.A X.env X.xe) {bs : List Stmt → Sx} (hb : ∀ sts, PSs X sts (tsOf G (bs sts))) {st : Stmt} {f : Sx} (h : stS d c bs st = some f) : PS X st (tsOf G f) := by
  have he := (ok c X G k C).1
  have ht := (ok c X G k C).2.2
  unfold stS at h
  split at h
  · exact asgS_of ok C h
  · exact augS_of ok C h
  · exact exprS_of ok C h
  · exact retS_of ok C h
  · obtain ⟨ft, e, rfl⟩ := some_of_map h
    exact ss_if (ht _ _ e) (hb _) (hb _)
  · split at h
    · rename_i hn
      obtain ⟨it, e1, h⟩ := some_of_bind h
      obtain ⟨⟨own, tg⟩, e2, rfl⟩ := some_of_map h
      exact ss_for hp C.calm (den_i C he e1 hn) (den_tg C e2) (hb _) (folded_of hn _)
    · cases h
  · obtain ⟨ft, e, rfl⟩ := some_of_map h
    exact ss_while hp (ht _ _ e) (hb _)
  · cases h; exact ss_pass
  · cases h; exact ss_bk
  · cases h; exact ss_ct
  · cases h
theorem stD_of (ok : d.Ok) (C : CtxOk c X G k) (hp : PassesOwn (model X.prog X.w) X.A X.env X.xe) {bs : List Stmt → Sx} (hb : ∀ sts, PSs X sts (tsOf G (bs sts))) (st : Stmt) : PS X st (tsOf G ((stS d c bs st).getD sNo)) := by
  cases e : stS d c bs st with
  | none => exact ss_no
  | some f => exact stS_of ok C hp hb e
theorem frzS_of {st : Stmt} {sts : List Stmt} {f : Sx} (h : PSs X sts (tsOf G f)) : PSs X sts (tsOf G (frzS c st f)) := by
  unfold frzS
  split
  · exact ss_frz h
  · exact h
theorem denB_of (ok : d.Ok) (C : CtxOk c X G k) (hp : PassesOwn (model X.prog X.w) X.A X.env X.xe) : ∀ (n : Nat) (sts : List Stmt), PSs X sts (tsOf G (denB d c n sts))
  | 0, _ => sss_no
  | n + 1, [] => ss_nil
  | n + 1, [st] => frzS_of (ss_one (stD_of ok C hp (denB_of ok C hp n) st))
  | n + 1, st :: s2 :: rest => frzS_of (ss_cons (stD_of ok C hp (denB_of ok C hp n) st) (denB_of ok C hp n (s2 :: rest)))
end
end Pk
namespace Pk
open PySem PySem.Spec PyProof.Rows L2
/-- what the top has written of a def -/
def DefAt (K : PySem.W.Frag) (x : Str) (st : Stmt) : Prop := ∃ f fd, PySem.W.nsIn K mainGlobals x = some (some (.ref f)) ∧ Fun K x x st f fd
theorem defAt_mk {K : PySem.W.Frag} {x : Str} {st : Stmt} {f : Addr} {oc : Value} {od an : Option Addr} {osl : Array (Option Value)} {kV doc pm cdv ct : Value} (a : PySem.W.nsIn K mainGlobals x = some (some (.ref f))) (l : K.lookup f = some ⟨oc, od, .func (PySem.W.fnOf x x (defArgs st) (defBody st) (defScope st) .none kV doc pm an cdv ct), osl⟩)
    (c : PySem.W.codeIn K cdv x = true) (k : PySem.W.keepIn K (.ref f) = true) : DefAt K x st := ⟨f, _, a, fun_mk l c k⟩
/-- a constant of the module's -/
def GlAt (K : PySem.W.Frag) (x : Str) (d : D) : Prop := ∃ u v, PySem.W.nsIn K mainGlobals x = some (some u) ∧ RelV v u ∧ ∀ F m, RV K F m d v
theorem GlAt.mg {K : PySem.W.Frag} {h : Heap} {mg : Str → Option Value} {x : Str} {d : D} (g : GlAt K x d) (KX : K.In h) (G : h.Ns mainGlobals mg) : ∃ u v, mg x = some u ∧ RelV v u ∧ ∀ F m, RV K F m d v := by
  obtain ⟨u, v, a, b⟩ := g
  exact ⟨u, v, PySem.W.mg_of KX G a, b⟩
/-- how its calls by keywords bind -/
def KwAll (x : Str) (st : Stmt) (ps : List Str) (kws : List ((Nat × List Str) × List Nat)) : Prop := ∀ p ∈ kws, ∀ (kV doc pm : Value) (an : Option Addr) (cdv ct : Value) (us ws : List Value), us.length = p.1.1 → ws.length = p.1.2.length → bindArgs (PySem.W.fnOf x x (defArgs st) (defBody st) (defScope st) .none kV doc pm an cdv ct) ⟨us, p.1.2.zip ws⟩ = pure (ps.zip (perm p.2 (us ++ ws)))
def BindsAll (x : Str) (st : Stmt) (ps : List Str) : Prop := ∀ (kV doc pm : Value) (an : Option Addr) (cdv ct : Value) (us : List Value), us.length = ps.length → bindArgs (PySem.W.fnOf x x (defArgs st) (defBody st) (defScope st) .none kV doc pm an cdv ct) ⟨us, []⟩ = pure (ps.zip us)
section
variable {P : Program} {w : World} {K : PySem.W.Frag} {mg : Str → Option Value} {base h : Heap} {k : Nat}
theorem FncOk.mono {j : Nat} {x : Str} {g : Fnc} (F : FncOk P w K mg base j x g) (hj : j ≤ k) : FncOk P w K mg base k x g := by
  obtain ⟨f, fd, h1, h2, h3, h4⟩ := F.ex
  exact ⟨f, fd, h1, h2, h3.mono hj, h4⟩
/-- a def keeps to what its text is worth -/
theorem def_fn {x : Str} {st : Stmt} {ps : List Str} {f : Addr} {fd : FuncData} (c : Ctx) (KX : K.In h) (G : h.Ns mainGlobals mg) (D : Fun K x x st f fd) (Sc : FnScope c.N ps (defScope st)) (hN : ps.length ≤ c.N.length) (hc : (defScope st).names = c.nm) (hf : c.fnm = none)
    (hbl : ∀ y ∈ c.bl, PySem.W.nsIn K mainGlobals y = some none) (hgl : ∀ p ∈ c.gl, ∃ u v, mg p.1 = some u ∧ RelV v u ∧ ∀ F m, RV K F m p.2 v) (hfns : ∀ p ∈ c.fns, FncOk P w K mg base k p.1 p.2) {n m : Nat} {b : Sx} (e : denB (den n) c m (defBody st) = b) :
    FnOk P w K mg base (L2.CX P w) (k + 3) f fd ps (spOf K mg ps.length (fnOf c.N.length ps.length b)) := by
  subst e
  refine fn_sound D Sc hN fun cdv A outer s H E hr => ?_
  refine denB_of (k := k) (den_ok n) ⟨rfl, rfl, rfl, Sc.nd, hc, Sc.kind, rfl, hr, takes_of rfl rfl rfl rfl, ?_, fun y hy => PySem.W.mg_none_of KX G (hbl y hy), fun y d hy => hgl (y, d) (lk_mem hy), fun y g hy => hfns (y, g) (lk_mem hy)⟩ (passes_of rfl) m _
  rw [hf]; exact fun _ => rfl
theorem def_ok {x : Str} {st : Stmt} {ps : List Str} (c : Ctx) (KX : K.In h) (G : h.Ns mainGlobals mg) (D : DefAt K x st) (Sc : FnScope c.N ps (defScope st)) (hN : ps.length ≤ c.N.length) (hc : (defScope st).names = c.nm) (hf : c.fnm = none)
    (hbl : ∀ y ∈ c.bl, PySem.W.nsIn K mainGlobals y = some none) (hgl : ∀ p ∈ c.gl, ∃ u v, mg p.1 = some u ∧ RelV v u ∧ ∀ F m, RV K F m p.2 v) (hfns : ∀ p ∈ c.fns, FncOk P w K mg base k p.1 p.2) (hb : BindsAll x st ps) {kws : List ((Nat × List Str) × List Nat)} (hkw : KwAll x st ps kws) {n m : Nat} {b : Sx} (e : denB (den n) c m (defBody st) = b) :
    FncOk P w K mg base (k + 3) x ⟨ps, [], fnOf c.N.length ps.length b, kws⟩ := by
  obtain ⟨f, fd, h1, h2⟩ := D
  refine ⟨f, fd, PySem.W.mg_of KX G h1, h2.kp, def_fn c KX G h2 Sc hN hc hf hbl hgl hfns e, fun j hj => ?_, fun p hp => ?_⟩
  · obtain rfl : j = 0 := Nat.le_zero.mp hj
    exact ⟨[], [], h2.binds hb, .nil, rfl, fun F m => by simp [RVs]⟩
  · obtain ⟨oc, od, kV, doc, pm, an, cdv, ct, osl, rfl, lk, hcd⟩ := h2.ex
    exact fun s us ws _ l1 l2 => .of_eq (hkw p hp _ _ _ _ _ _ us ws l1 l2)
def spAll (K : PySem.W.Frag) (g : List D → M D) : Sp := fun vs H Q E => ∀ mg, spOf K mg 1 g vs H Q E
theorem law_ok {x v : Str} {st : Stmt} {fa : Addr} (c : Ctx) (KX : K.In h) (G : h.Ns mainGlobals mg) (hfa : mg x = some (.ref fa)) (D : DefAt K x st) (Sc : FnScope c.N [v] (defScope st)) (hN : 1 ≤ c.N.length) (hc : (defScope st).names = c.nm) (hf : c.fnm = none)
    (hbl : ∀ y ∈ c.bl, PySem.W.nsIn K mainGlobals y = some none) (hgl : ∀ p ∈ c.gl, ∃ u v, mg p.1 = some u ∧ RelV v u ∧ ∀ F m, RV K F m p.2 v) (hfns : ∀ base : Heap, K.In base → base.Ns mainGlobals mg → ∀ p ∈ c.fns, FncOk P w K mg base k p.1 p.2) (hb : BindsAll x st [v]) {n m : Nat} {b : Sx} (e : denB (den n) c m (defBody st) = b) :
    ∃ fd : FuncData, (∀ (s : Shared) (u : Value), BindsTo s fd ⟨[u], []⟩ [(v, u)]) ∧ ∀ base : Heap, K.In base → base.Ns mainGlobals mg → FnOk P w K mg base (L2.CX P w) (k + 3) fa fd [v] (spAll K (fnOf c.N.length 1 b)) := by
  obtain ⟨f, fd, h1, h2⟩ := D
  have := hfa.symm.trans (PySem.W.mg_of KX G h1)
  cases this
  refine ⟨fd, fun s u => ?_, fun base kb gb => (def_fn (ps := [v]) c KX G h2 Sc hN hc hf hbl hgl (hfns base kb gb) e).imp fun vs H Q E z => z mg⟩
  obtain ⟨oc, od, kV, doc, pm, an, cdv, ct, osl, rfl, lk, hcd⟩ := h2.ex
  exact .of_eq (hb _ _ _ _ _ _ [u] rfl)
theorem cx_false {H : Hp} {s s' : Shared} {e : Value} (h : L2.CX P w [] H s (fun _ _ _ => False) e s') : False := by
  obtain ⟨_, _, _, _, _, _, _, _, _, _, _, _, h⟩ := h
  exact h
theorem walk_law {l : PySem.W.OpenLaw} {n k : Nat} {q : Program} {loose : List Str} {XP : (Str → Option Value) → Heap → Prop} {YP : World → Heap → Prop} {d : DefRec} {K : Params → PySem.W.Frag} {x : Str} {g : List D → M D}
    (hn : l.most = some n) (hn2 : n ≤ sizeLine) (hdf : d.params.defaults = []) (hr : Room k callerA)
    (hY : ∀ (w : World) (h : Heap), YP w h → (K w.params).In h)
    (hg : ∀ ns : List Int, ns.length ≤ n → ∃ S', g [.lst (ns.map D.int)] [] = .ok (.bl true) S')
    (F : ∀ (w : World) (mg : Str → Option Value) (fa : Addr) (h : Heap), (K w.params).In h → h.Ns mainGlobals mg → mg d.name = some (.ref fa) →
      ∃ fd : FuncData, (∀ (s : Shared) (u : Value), BindsTo s fd ⟨[u], []⟩ [(x, u)]) ∧
        ∀ base : Heap, (K w.params).In base → base.Ns mainGlobals mg → FnOk l.prog w (K w.params) mg base (L2.CX l.prog w) k fa fd [x] (spAll (K w.params) g)) :
    PySem.W.WalkO q loose XP YP l.row.toRowW d [] (fun f vs => PySem.call f vs) :=
  L2.walk_of (K := K) (CX := fun w => L2.CX l.prog w) (sp := fun w => spAll (K w.params) g) hn hn2 hdf hr hY F (fun w H a ns hl hO hS mg => law_sp (n := 0) hO hS (Nat.le_trans hl hn2) (hg ns hl)) (fun w H s e s' h => cx_false h)
end
end Pk
namespace Pk
open PySem L2
/-! ### what comes of a term, by what is asked of it -/
def wE {α : Type} (o : Out α) (Q : α → Store → Prop) : Prop := match o with
  | .ok a S => Q a S
  | _ => False
structure wS (o : SO) (Q : SO → Prop) : Prop where
  h : Q o
def wO {α : Type} (o : Option α) (Q : α → Prop) : Prop := match o with
  | some a => Q a
  | none => False
section
variable {α β : Type} {S : Store} {r : Pk.Env}
theorem wE_iff {o : Out α} {Q : α → Store → Prop} : wE o Q ↔ ∃ a S, o = .ok a S ∧ Q a S := by
  constructor
  · intro h
    cases o with
    | ok a S => exact ⟨a, S, rfl, h⟩
    | _ => exact h.elim
  · rintro ⟨a, S, rfl, h⟩
    exact h
theorem wE_ex {o : Out α} {Q : α → Store → Prop} (h : wE o Q) : ∃ a S, o = .ok a S ∧ Q a S := wE_iff.mp h
theorem wE_mono {o : Out α} {Q Q' : α → Store → Prop} (h : wE o Q) (q : ∀ a S, Q a S → Q' a S) : wE o Q' := by
  cases o with
  | ok a S => exact q _ _ h
  | _ => exact h
theorem wE_bind {o : Out α} {f : α → Store → Out β} {Q : β → Store → Prop} : wE (o.bind f) Q = wE o fun a S => wE (f a S) Q := by cases o <;> rfl
theorem wE_some {o : Option α} {Q : α → Store → Prop} : wE (Out.some? o S) Q = wO o fun a => Q a S := by cases o <;> rfl
theorem wO_some {a : α} {Q : α → Prop} : wO (some a) Q = Q a := rfl
theorem wO_none {Q : α → Prop} : wO none Q = False := rfl
theorem wO_bind {o : Option α} {f : α → Option β} {Q : β → Prop} : wO (o.bind f) Q = wO o fun a => wO (f a) Q := by cases o <;> rfl
theorem wO_map {o : Option α} {f : α → β} {Q : β → Prop} : wO (o.map f) Q = wO o fun a => Q (f a) := by cases o <;> rfl
theorem wO_gd {c : Prop} [Decidable c] {a : Option α} {Q : α → Prop} : wO (if c then a else none) Q = (c ∧ wO a Q) := by
  split
  · rename_i h; simp [h]
  · rename_i h; simp [h, wO]
theorem wO_ex {o : Option α} {Q : α → Prop} (h : wO o Q) : ∃ a, o = some a ∧ Q a := by
  cases o with
  | none => exact h.elim
  | some a => exact ⟨a, rfl, h⟩
/-! expressions -/
variable {Q : D → Store → Prop} {fa fb fc : Ex}
theorem w_con {d : D} : wE (eCon d r S) Q = Q d S := rfl
theorem w_var {i : Nat} : wE (eVar i r S) Q = (match r[i]? with | some (.val d) => Q d S | _ => False) := by
  unfold eVar; split <;> simp_all [wE]
theorem w_rd {i : Nat} : wE (eRd i r S) Q = (match r[i]? with | some (.val d) => Q d S | some (.own l) => Q (.lst l) S | some (.ownd t l) => Q (.dct t l) S | _ => False) := by
  unfold eRd; split <;> simp_all [wE]
theorem w_e1 {p : D → Option D} : wE (e1 p fa r S) Q = wE (fa r S) fun a S1 => wO (der a S1) fun a' => wO (p a') fun d => Q d S1 := by
  unfold e1; simp only [wE_bind, wE_some, wO_bind]
theorem w_e2 {p : D → D → Option D} : wE (e2 p fa fb r S) Q = wE (fa r S) fun a S1 => wE (fb r S1) fun b S2 => wO (der a S2) fun a' => wO (der b S2) fun b' => wO (p a' b') fun d => Q d S2 := by
  unfold e2; simp only [wE_bind, wE_some, wO_bind]
theorem w_bin {op : Operator} : wE (eBin op fa fb r S) Q = wE (fa r S) fun a S1 => wE (fb r S1) fun b S2 => wO (der a S2) fun a' => wO (der b S2) fun b' => wO (oBin op a' b') fun d => Q d S2 := w_e2
theorem w_cmp {op : CmpOp} : wE (eCmp op fa fb r S) Q = wE (fa r S) fun a S1 => wE (fb r S1) fun b S2 => wO (der a S2) fun a' => wO (der b S2) fun b' => wO (oCmp op a' b') fun d => Q (.bl d) S2 := by
  unfold eCmp; rw [w_e2]; simp only [wO_map]
theorem w_ix : wE (eIx fa fb r S) Q = wE (fa r S) fun a S1 => wE (fb r S1) fun b S2 => wO (der a S2) fun a' => wO (der b S2) fun b' => wO (oIx a' b') fun d => Q d S2 := w_e2
theorem w_neg : wE (eNeg fa r S) Q = wE (fa r S) fun a S1 => wO (der a S1) fun a' => wO (oNeg a') fun d => Q d S1 := w_e1
theorem w_not : wE (eNot fa r S) Q = wE (fa r S) fun a S1 => wO (oBl a) fun b => Q (.bl (!b)) S1 := by
  unfold eNot; simp only [wE_bind, wE_some, wO_map]
theorem w_and : wE (eAnd fa fb r S) Q = wE (fa r S) fun a S1 => wO (oBl a) fun k => if k then wE (fb r S1) Q else Q (.bl false) S1 := by
  unfold eAnd
  rw [wE_bind]
  congr 1
  funext a S1
  cases a with
  | bl b => cases b <;> rfl
  | _ => rfl
theorem w_or : wE (eOr fa fb r S) Q = wE (fa r S) fun a S1 => wO (oBl a) fun k => if k then Q (.bl true) S1 else wE (fb r S1) Q := by
  unfold eOr
  rw [wE_bind]
  congr 1
  funext a S1
  cases a with
  | bl b => cases b <;> rfl
  | _ => rfl
theorem w_if {ft : Tx} : wE (eIf ft fa fb r S) Q = wE (ft r S) fun b S1 => if b then wE (fa r S1) Q else wE (fb r S1) Q := by
  unfold eIf
  rw [wE_bind]
  congr 1
  funext b S1
  split <;> rfl
theorem w_args0 {Q : List D → Store → Prop} : wE (eArgs [] r S) Q = Q [] S := rfl
theorem w_args {f : Ex} {fs : List Ex} {Q : List D → Store → Prop} : wE (eArgs (f :: fs) r S) Q = wE (f r S) fun d S1 => wE (eArgs fs r S1) fun ds S2 => Q (d :: ds) S2 := by
  rw [eArgs, wE_bind]; simp only [wE_bind]; rfl
theorem w_tup {fs : List Ex} : wE (eTup fs r S) Q = wE (eArgs fs r S) fun ds S1 => ds.length ≤ sizeLine ∧ Q (.tup ds) S1 := by
  unfold eTup guardLen
  rw [wE_bind]
  congr 1
  funext ds S1
  split
  · rename_i h; simp [h, wE, Out.bind]
  · rename_i h; simp [h, wE, Out.bind]
theorem w_lst {fs : List Ex} {Q : List D → Store → Prop} : wE (lLst fs r S) Q = wE (eArgs fs r S) fun ds S1 => ds.length ≤ sizeLine ∧ Q ds S1 := by
  unfold lLst guardLen
  rw [wE_bind]
  congr 1
  funext ds S1
  split
  · rename_i h; simp [h, wE]
  · rename_i h; simp [h, wE]
theorem w_L {f : Lx} : wE (eL f r S) Q = wE (f r S) fun l S1 => Q (.lst l) S1 := by unfold eL; rw [wE_bind]; rfl
theorem w_cell {f : Lx} : wE (eCell f r S) Q = wE (f r S) fun l S1 => Q (.ref S1.length) (S1 ++ [.lst l]) := by unfold eCell; rw [wE_bind]; rfl
theorem w_call {g : List D → M D} {fs : List Ex} : wE (eCall g fs r S) Q = wE (eArgs fs r S) fun ds S1 => wE (g ds S1) Q := by unfold eCall; rw [wE_bind]
theorem w_l1 {p : D → Option (List D)} {Q : List D → Store → Prop} : wE (l1 p fa r S) Q = wE (fa r S) fun a S1 => wO (der a S1) fun a' => wO (p a') fun d => Q d S1 := by
  unfold l1; simp only [wE_bind, wE_some, wO_bind]
theorem w_sortk {g : List D → M D} {Q : List D → Store → Prop} : wE (lSortK g fa r S) Q = wE (fa r S) fun a S1 => wO (der a S1) fun a' => wO (oSortK g S1 a') fun d => Q d S1 := by
  unfold lSortK; simp only [wE_bind, wE_some, wO_bind]
theorem w_l2 {p : D → D → Option (List D)} {Q : List D → Store → Prop} : wE (l2 p fa fb r S) Q = wE (fa r S) fun a S1 => wE (fb r S1) fun b S2 => wO (der a S2) fun a' => wO (der b S2) fun b' => wO (p a' b') fun d => Q d S2 := by
  unfold l2; simp only [wE_bind, wE_some, wO_bind]
theorem w_str : wE (eStr fa r S) Q = wE (fa r S) fun a S1 => match a with | .str x => Q (.str x) S1 | _ => False := by
  unfold eStr
  rw [wE_bind]
  congr 1
  funext a S1
  cases a <;> rfl
theorem w_part0 {Q : Option Int → Store → Prop} : wE (ePart none r S) Q = Q none S := rfl
theorem w_part {f : Ex} {Q : Option Int → Store → Prop} : wE (ePart (some f) r S) Q = wE (f r S) fun d S1 => match d with | .int i => Q (some i) S1 | _ => False := by
  unfold ePart
  rw [wE_bind]
  congr 1
  funext a S1
  cases a <;> rfl
theorem w_cut {lo hi : Option Ex} : wE (eCut fa lo hi r S) Q = wE (fa r S) fun a S1 => wE (ePart lo r S1) fun l S2 => wE (ePart hi r S2) fun h S3 => wO (der a S3) fun a' => wO (oCut a' l h) fun d => Q d S3 := by
  unfold eCut; simp only [wE_bind, wE_some, wO_bind]
theorem w_lcut {lo hi : Option Ex} {Q : List D → Store → Prop} : wE (lCut fa lo hi r S) Q = wE (fa r S) fun a S1 => wE (ePart lo r S1) fun l S2 => wE (ePart hi r S2) fun h S3 => wO (der a S3) fun a' => wO (match a' with | .lst k => some (cutD k l h) | _ => none) fun d => Q d S3 := by
  unfold lCut; simp only [wE_bind, wE_some, wO_bind]; try rfl
/-! tests -/
variable {t u : Tx} {P : Bool → Store → Prop}
theorem w_tval : wE (tVal fa r S) P = wE (fa r S) fun a S1 => wO (der a S1) fun a' => wO (oTru a') fun b => P b S1 := by
  unfold tVal; simp only [wE_bind, wE_some, wO_bind]
theorem w_tcmp {op : CmpOp} : wE (tCmp op fa fb r S) P = wE (fa r S) fun a S1 => wE (fb r S1) fun b S2 => wO (der a S2) fun a' => wO (der b S2) fun b' => wO (oCmp op a' b') fun k => P k S2 := by
  unfold tCmp; simp only [wE_bind, wE_some, wO_bind]
theorem w_tnot : wE (tNot t r S) P = wE (t r S) fun b S1 => P (!b) S1 := by unfold tNot; rw [wE_bind]; rfl
theorem w_tand : wE (tAnd t u r S) P = wE (t r S) fun b S1 => if b then wE (u r S1) P else P false S1 := by
  unfold tAnd; rw [wE_bind]; congr 1; funext b S1; cases b <;> rfl
theorem w_tor : wE (tOr t u r S) P = wE (t r S) fun b S1 => if b then P true S1 else wE (u r S1) P := by
  unfold tOr; rw [wE_bind]; congr 1; funext b S1; cases b <;> rfl
theorem w_tyes : wE (tYes r S) P = P true S := rfl
/-! walks -/
theorem w_seq {Q : List D → Store → Prop} : wE (itSeq fa r S) Q = wE (fa r S) fun a S1 => match a with | .lst l => Q l S1 | .tup l => Q l S1 | .str x => Q (x.cps.toList.map fun c => .str ⟨#[c]⟩) S1 | _ => False := by
  unfold itSeq; rw [wE_bind]; congr 1; funext a S1; cases a <;> rfl
theorem w_itB {p : List D → Option (List D)} {fs : List Ex} {Q : List D → Store → Prop} : wE (itB p fs r S) Q = wE (eArgs fs r S) fun ds S1 => wO (p ds) fun l => Q l S1 := by
  unfold itB; simp only [wE_bind, wE_some]
theorem w_comp {vs : List Nat} {it : Lx} {tg : Tg} {tt : Tx} {te : Ex} {Q : List D → Store → Prop} : wE (lComp vs it tg tt te r S) Q = wE (it r S) fun ds S1 => wE (compD tg tt te (wipeS r vs) ds S1) Q := by
  unfold lComp; rw [wE_bind]
/-! statements -/
variable {a b : Sx} {R : SO → Prop} {f : Ex}
theorem so_w {o : Out α} {k : α → Store → SO} (h : wE o fun a S => wS (k a S) R) : wS (o.so k) R := by
  cases o with
  | ok a S => exact h
  | _ => exact h.elim
theorem x_seq (h : wS (a r S) fun o => match o with | .nx r' S' => wS (b r' S') R | o => R o) : wS (sSeq a b r S) R := by
  unfold sSeq
  obtain ⟨h⟩ := h
  cases e : a r S <;> (rw [e] at h; first | exact h | exact ⟨h⟩)
theorem x_nil (h : R (.nx r S)) : wS (sNil r S) R := ⟨h⟩
theorem x_set {i : Nat} (h : wE (f r S) fun d S1 => R (.nx (r.set i (.val d)) S1)) : wS (sSet i f r S) R := so_w (wE_mono h fun _ _ z => ⟨z⟩)
theorem x_own {i : Nat} {f : Lx} (h : wE (f r S) fun d S1 => R (.nx (r.set i (.own d)) S1)) : wS (sOwn i f r S) R := so_w (wE_mono h fun _ _ z => ⟨z⟩)
theorem x_asg {tg : Tg} (h : wE (f r S) fun d S1 => wO (tg d r) fun r1 => R (.nx r1 S1)) : wS (sAsg tg f r S) R := so_w (wE_mono h fun d S1 z => by
  obtain ⟨r1, e, z⟩ := wO_ex z
  rw [e]; exact ⟨z⟩)
theorem x_drop (h : wE (f r S) fun d S1 => R (.nx r S1)) : wS (sDrop f r S) R := so_w (wE_mono h fun _ _ z => ⟨z⟩)
theorem x_ret (h : wE (f r S) fun d S1 => R (.rt d S1)) : wS (sRet f r S) R := so_w (wE_mono h fun _ _ z => ⟨z⟩)
theorem x_if {t : Tx} (h : wE (t r S) fun k S1 => if k then wS (a r S1) R else wS (b r S1) R) : wS (sIf t a b r S) R := so_w (wE_mono h fun k S1 z => by cases k <;> exact z)
theorem x_for {it : Lx} {tg : Tg} (h : wE (it r S) fun ds S1 => wS (forD tg b ds r S1) R) : wS (sFor it tg b r S) R := so_w h
theorem x_mt {i : Nat} {p : Mt} {fs : List Ex} {l : List D} (h0 : listAt r i S = some l) (h : wE (eArgs fs r S) fun ds S1 => wO (listAt r i S1) fun l => wO (p l ds) fun q => R (putAt r i S1 q.2)) : wS (sMt i p fs r S) R := by
  unfold sMt
  rw [h0]
  refine so_w (wE_mono h fun ds S1 z => ?_)
  obtain ⟨l, e, z⟩ := wO_ex z
  obtain ⟨q, e2, z⟩ := wO_ex z
  rw [e]
  simp only [Option.bind_some, e2]
  exact ⟨z⟩
theorem x_put {i : Nat} {fi fe : Ex} (h : wE (fe r S) fun d S1 => wO (listAt r i S1) fun _ => wE (fi r S1) fun k S2 => wO (listAt r i S2) fun l => wO (setAtI l k d) fun l' => R (putAt r i S2 l')) : wS (sPut i fi fe r S) R := by
  unfold sPut
  refine so_w (wE_mono h fun d S1 z => ?_)
  obtain ⟨l, e, z⟩ := wO_ex z
  rw [e]
  refine so_w (wE_mono z fun k S2 z => ?_)
  obtain ⟨l, e, z⟩ := wO_ex z
  obtain ⟨q, e2, z⟩ := wO_ex z
  rw [e]
  simp only [Option.bind_some, e2]
  exact ⟨z⟩
theorem x_dnew {i : Nat} {t : Bool} (h : R (.nx (r.set i (.ownd t [])) S)) : wS (sDnew i t r S) R := ⟨h⟩
theorem x_putd {i : Nat} {t : Bool} {l : List (D × D)} {fi fe : Ex} (h0 : r[i]? = some (.ownd t l)) (h : wE (fe r S) fun v S1 => wE (fi r S1) fun d S2 => wO (kOf t d) fun k => l.length < sizeLine ∧ R (.nx (r.set i (.ownd t (dPut t l d k v))) S2)) : wS (sPutD i fi fe r S) R := by
  unfold sPutD
  refine so_w (wE_mono h fun v S1 z => ?_)
  rw [h0]
  refine so_w (wE_mono z fun d S2 z => ?_)
  obtain ⟨k, e, h1, h2⟩ := wO_ex z
  rw [e]
  simp only [if_pos h1]
  exact ⟨h2⟩
theorem x_augix {i : Nat} {fi fe : Ex} {op : Operator} (h : wO (listAt r i S) fun _ => wE (fi r S) fun k S1 => wO (listAt r i S1) fun l => wO (getAtI l k) fun x => wE (fe r S1) fun y S2 => wO (listAt r i S2) fun l => wO (oIp op x y) fun z => wO (setAtI l k z) fun l' => R (putAt r i S2 l')) : wS (sAugIx i fi op fe r S) R := by
  unfold sAugIx
  obtain ⟨l, e, z⟩ := wO_ex h
  rw [e]
  refine so_w (wE_mono z fun k S1 z => ?_)
  obtain ⟨l, e, z⟩ := wO_ex z
  obtain ⟨x, e2, z⟩ := wO_ex z
  rw [e]
  simp only [Option.bind_some, e2]
  refine so_w (wE_mono z fun y S2 z => ?_)
  obtain ⟨l, e, z⟩ := wO_ex z
  obtain ⟨w, e2, z⟩ := wO_ex z
  obtain ⟨l', e3, z⟩ := wO_ex z
  rw [e]
  simp only [Option.bind_some, e2, e3]
  exact ⟨z⟩
theorem x_aug {i : Nat} {op : Operator} {x : D} (h0 : r[i]? = some (.val x)) (h : wE (f r S) fun y S1 => wO (oIp op x y) fun z => R (.nx (r.set i (.val z)) S1)) : wS (sAug i op f r S) R := by
  unfold sAug
  rw [h0]
  refine so_w (wE_mono h fun y S1 z => ?_)
  obtain ⟨w, e, z⟩ := wO_ex z
  simp only [e]
  exact ⟨z⟩
theorem x_ext {i : Nat} {f : Lx} {l : List D} (h0 : r[i]? = some (.own l)) (h : wE (f r S) fun k S1 => l.length + k.length ≤ sizeLine ∧ R (.nx (r.set i (.own (l ++ k))) S1)) : wS (sExt i f r S) R := by
  unfold sExt
  rw [h0]
  refine so_w (wE_mono h fun k S1 z => ?_)
  rw [if_pos z.1]
  exact ⟨z.2⟩
theorem x_ct (h : R (.ct r S)) : wS (sCt r S) R := ⟨h⟩
theorem x_bk (h : R (.bk r S)) : wS (sBk r S) R := ⟨h⟩
theorem x_retN (h : R (.rt .non S)) : wS (sRetN r S) R := ⟨h⟩
theorem x_frz {is : List Nat} (h : R (.nx (is.foldl frz1 r) S)) : wS (sFrz is r S) R := ⟨h⟩
theorem w_fn {n np : Nat} {ds : List D} (hl : ds.length = np) (h : wS (b (ds.map Slot.val ++ List.replicate (n - np) Slot.emp) S) fun o => match o with | .rt d S' => Q d S' | .nx _ S' => Q .non S' | _ => False) : wE (fnOf n np b ds S) Q := by
  unfold fnOf
  rw [if_pos hl]
  obtain ⟨h⟩ := h
  cases e : b (ds.map Slot.val ++ List.replicate (n - np) Slot.emp) S <;> (rw [e] at h; first | exact h | exact h.elim)
end
end Pk
namespace Pk
open PySem L2
theorem atI_nat' {α : Type} {l : List α} {k : Nat} : atI l (k : Int) = l[k]? := by
  unfold atI ixN
  by_cases h : k < l.length
  · simp [h, List.getElem?_eq_getElem]
  · simp [h]
theorem atI_0 {α : Type} {a : α} {l : List α} : atI (a :: l) 0 = some a := atI_nat' (k := 0)
theorem atI_1 {α : Type} {a b : α} {l : List α} : atI (a :: b :: l) 1 = some b := atI_nat' (k := 1)
theorem ixN_20 : ixN 2 0 = some 0 := rfl
theorem ixN_21 : ixN 2 1 = some 1 := rfl
theorem der_non (S : Store) : der .non S = some .non := rfl
theorem der_bl (b : Bool) (S : Store) : der (.bl b) S = some (.bl b) := rfl
theorem der_int (i : Int) (S : Store) : der (.int i) S = some (.int i) := rfl
theorem der_str (x : Str) (S : Store) : der (.str x) S = some (.str x) := rfl
theorem der_tup (l : List D) (S : Store) : der (.tup l) S = some (.tup l) := rfl
theorem der_lst (l : List D) (S : Store) : der (.lst l) S = some (.lst l) := rfl
theorem der_dct (t : Bool) (l : List (D × D)) (S : Store) : der (.dct t l) S = some (.dct t l) := rfl
theorem der_ref (n : Nat) (S : Store) : der (.ref n) S = (match S[n]? with | some (.lst l) => some (.lst l) | some (.dct t l) => some (.dct t l) | _ => none) := rfl
end Pk
namespace Pk
open PySem L2
section
variable {α : Type} {S : Store} {r : Pk.Env} {R : SO → Prop} {b : Sx} {tg : Tg} {tt : Tx} {te : Ex}
/-- how a turn may end -/
def Turn (R : SO → Prop) (N : Pk.Env → Store → Prop) : SO → Prop
  | .nx r S => N r S
  | .ct r S => N r S
  | .bk r S => R (.nx r S)
  | .rt d S => R (.rt d S)
  | _ => False
/-- a walk over a list of known things: I tells what is left -/
theorem forD_map (e : α → D) (I : List α → Pk.Env → Store → Prop) (hnil : ∀ r S, I [] r S → R (.nx r S)) (hcons : ∀ x xs r S, I (x :: xs) r S → wO (tg (e x) r) fun r1 => wS (b r1 S) (Turn R (I xs))) : ∀ (xs : List α) (r : Pk.Env) (S : Store), I xs r S → wS (forD tg b (xs.map e) r S) R
  | [], r, S, h => ⟨hnil r S h⟩
  | x :: xs, r, S, h => by
    have z := hcons x xs r S h
    obtain ⟨r1, e', z⟩ := wO_ex z
    rw [List.map_cons]
    unfold forD
    rw [e']
    show wS ((b r1 S).loop (forD tg b (xs.map e))) R
    have z : Turn R (I xs) (b r1 S) := z.h
    cases e2 : b r1 S with
    | nx r' S' => rw [e2] at z; exact forD_map e I hnil hcons xs r' S' z
    | ct r' S' => rw [e2] at z; exact forD_map e I hnil hcons xs r' S' z
    | bk r' S' => rw [e2] at z; exact ⟨z⟩
    | rt d' S' => rw [e2] at z; exact ⟨z⟩
    | exc x S' => rw [e2] at z; exact z.elim
    | no => rw [e2] at z; exact z.elim
theorem while_I {c : Tx} (I : Nat → Pk.Env → Store → Prop) (step : ∀ k r S, I k r S → wE (c r S) fun t S1 => if t then wS (b r S1) (Turn (fun o => o ≠ .no ∧ R o) fun r' S' => ∃ k', k' < k ∧ I k' r' S') else R (.nx r S1)) {k : Nat} {r : Pk.Env} {S : Store} (h : I k r S) : wS (sWhile c b r S) R := by
  have key : ∀ (k : Nat) (r : Pk.Env) (S : Store), I k r S → ∃ N, whileN c b N r S ≠ .no ∧ R (whileN c b N r S) := by
    intro k
    induction k using Nat.strongRecOn with
    | _ k ih =>
      intro r S h
      obtain ⟨t, S1, e1, z⟩ := wE_ex (step k r S h)
      cases t with
      | false =>
        refine ⟨1, ?_, ?_⟩
        · rw [whileN_succ, e1]; simp [Out.so]
        · rw [whileN_succ, e1]; exact z
      | true =>
        have z : Turn (fun o => o ≠ .no ∧ R o) (fun r' S' => ∃ k', k' < k ∧ I k' r' S') (b r S1) := wS.h z
        have go : ∀ r' S', (b r S1 = .nx r' S' ∨ b r S1 = .ct r' S') → (∃ k', k' < k ∧ I k' r' S') → ∃ N, whileN c b N r S ≠ .no ∧ R (whileN c b N r S) := by
          rintro r' S' e2 ⟨k', hk, hI⟩
          obtain ⟨N, h1, h2⟩ := ih k' hk r' S' hI
          have : whileN c b (N + 1) r S = whileN c b N r' S' := by
            rw [whileN_succ, e1]
            rcases e2 with e2 | e2 <;> simp [Out.so, e2, SO.loop]
          exact ⟨N + 1, by rw [this]; exact h1, by rw [this]; exact h2⟩
        cases e2 : b r S1 with
        | nx r' S' => rw [e2] at z; exact go r' S' (.inl e2) z
        | ct r' S' => rw [e2] at z; exact go r' S' (.inr e2) z
        | bk r' S' =>
          rw [e2] at z
          have : whileN c b 1 r S = .nx r' S' := by rw [whileN_succ, e1]; simp [Out.so, e2, SO.loop]
          exact ⟨1, by rw [this]; exact z.1, by rw [this]; exact z.2⟩
        | rt d' S' =>
          rw [e2] at z
          have : whileN c b 1 r S = .rt d' S' := by rw [whileN_succ, e1]; simp [Out.so, e2, SO.loop]
          exact ⟨1, by rw [this]; exact z.1, by rw [this]; exact z.2⟩
        | exc x S' => rw [e2] at z; exact z.elim
        | no => rw [e2] at z; exact z.elim
  obtain ⟨N, h1, h2⟩ := key k r S h
  rw [sWhile_of h1]
  exact ⟨h2⟩
theorem compD_I {Q : List D → Store → Prop} (I : List D → List D → Store → Prop) (hcons : ∀ d ds acc S, I (d :: ds) acc S → wO (tg d r) fun r1 => wE (tt r1 S) fun k S1 => if k then wE (te r1 S1) fun x S2 => I ds (acc ++ [x]) S2 else I ds acc S1) (q : ∀ acc S, I [] acc S → Q acc S) : ∀ (ds : List D) (S : Store), I ds [] S → wE (compD tg tt te r ds S) Q := by
  have key : ∀ (ds acc : List D) (S : Store), I ds acc S → wE (compD tg tt te r ds S) fun l S' => Q (acc ++ l) S' := by
    intro ds
    induction ds with
    | nil => intro acc S h; show Q (acc ++ []) S; rw [List.append_nil]; exact q acc S h
    | cons d ds ih =>
      intro acc S h
      obtain ⟨r1, e1, z⟩ := wO_ex (hcons d ds acc S h)
      obtain ⟨k, S1, e2, z⟩ := wE_ex z
      unfold compD
      rw [e1]
      simp only [e2]
      cases k with
      | false => exact ih acc S1 z
      | true =>
        obtain ⟨x, S2, e3, z⟩ := wE_ex (show wE (te r1 S1) _ from z)
        obtain ⟨l, S3, e4, z⟩ := wE_ex (ih _ S2 z)
        simp only [e3, e4]
        show Q (acc ++ x :: l) S3
        rw [List.append_assoc] at z
        exact z
  intro ds S h
  have := key ds [] S h
  simpa using this
/-- a comprehension that only looks -/
theorem compD_map {Q : List D → Store → Prop} (e : α → D) (p : α → Bool) (f : α → D) {xs : List α} (h : ∀ x ∈ xs, wO (tg (e x) r) fun r1 => wE (tt r1 S) fun k S1 => k = p x ∧ S1 = S ∧ (p x = true → wE (te r1 S) fun y S2 => y = f x ∧ S2 = S)) (q : Q ((xs.filter p).map f) S) : wE (compD tg tt te r (xs.map e) S) Q := by
  have key : compD tg tt te r (xs.map e) S = .ok ((xs.filter p).map f) S := by
    clear q
    induction xs with
    | nil => rfl
    | cons x xs ih =>
      obtain ⟨r1, e1, z⟩ := wO_ex (h x List.mem_cons_self)
      obtain ⟨k, S1, e2, rfl, rfl, z⟩ := wE_ex z
      have ih := ih fun y hy => h y (List.mem_cons_of_mem _ hy)
      rw [List.map_cons]
      unfold compD
      rw [e1]
      simp only [e2]
      cases ep : p x with
      | false => simp only [ep]; rw [ih, List.filter_cons_of_neg (by simp [ep])]
      | true =>
        obtain ⟨y, S2, e3, rfl, rfl⟩ := wE_ex (z ep)
        simp only [ep, e3, ih]
        rw [List.filter_cons_of_pos (by simp [ep])]; rfl
  rw [key]
  exact q
/-- without a test -/
theorem compD_all {Q : List D → Store → Prop} (e : α → D) (f : α → D) {xs : List α} (h : ∀ x ∈ xs, wO (tg (e x) r) fun r1 => wE (te r1 S) fun y S2 => y = f x ∧ S2 = S) (q : Q (xs.map f) S) : wE (compD tg tYes te r (xs.map e) S) Q := by
  refine compD_map e (fun _ => true) f (fun x hx => ?_) (by rw [List.filter_eq_self.mpr (by simp)]; exact q)
  obtain ⟨r1, e1, z⟩ := wO_ex (h x hx)
  rw [e1]
  exact ⟨rfl, rfl, fun _ => z⟩
end
theorem okRng_0 {v : Nat} (h : v ≤ 1000000) : okRng 0 (v : Int) = true := by
  have h62 : ((2 : Int) ^ 62) = 4611686018427387904 := by decide
  have hz : sizeLine = 16777216 := by decide
  refine gd_iff.mpr ?_
  rw [h62, hz]
  omega
theorem rng_0 (v : Nat) : rngD 0 (v : Int) = (List.range v).map fun (k : Nat) => D.int k := by
  unfold rngD
  simp
theorem oRng1_nat {v : Nat} (h : v ≤ 1000000) : oRng1 [.int (v : Int)] = some ((List.range v).map fun (k : Nat) => D.int k) := by
  show (if okRng 0 (v : Int) = true then some (rngD 0 (v : Int)) else none) = _
  rw [if_pos (okRng_0 h), rng_0]
end Pk
namespace Pk
open PySem L2
/-! ### plain data by their own types -/
structure Em {α : Type} (k : Nat) (e : α → D) : Prop where
  eqv : ∀ x y, PyData.eqv (py (e x)) (py (e y)) = true ↔ x = y
  dat : ∀ x, dat (e x) = true
  dep : ∀ x, (py (e x)).depth ≤ k
section
variable {α β : Type} {k j : Nat} {e : α → D} {f : β → D}
theorem Em.inj (h : Em k e) {x y : α} (z : e x = e y) : x = y := by
  have := (h.eqv x x).mpr rfl
  rw [z] at this
  exact ((h.eqv y x).mp (by rw [← z]; rw [← z] at this; exact this)).symm
theorem Em.up (h : Em k e) (hj : k ≤ j) : Em j e := ⟨h.eqv, h.dat, fun x => Nat.le_trans (h.dep x) hj⟩
theorem em_str : Em 0 D.str := ⟨fun x y => by simp [py, PyData.eqv], fun _ => rfl, fun x => by simp [py, PyData.depth]⟩
theorem em_int : Em 0 D.int := ⟨fun x y => by simp [py, PyData.eqv], fun _ => rfl, fun x => by simp [py, PyData.depth]⟩
theorem em_bl : Em 0 D.bl := ⟨fun x y => by simp [py, PyData.eqv], fun _ => rfl, fun x => by simp [py, PyData.depth]⟩
theorem dats_all (l : List D) : dats l = l.all dat := by
  induction l with
  | nil => rfl
  | cons d l ih => simp [dats, ih]
theorem eqvAll_map (h : Em k e) : ∀ (l m : List α), PyData.eqvAll ((l.map e).map py) ((m.map e).map py) = true ↔ l = m
  | [], [] => by simp [PyData.eqvAll]
  | [], _ :: _ => by simp [PyData.eqvAll]
  | _ :: _, [] => by simp [PyData.eqvAll]
  | x :: l, y :: m => by
    simp only [List.map_cons, PyData.eqvAll, Bool.and_eq_true, h.eqv, eqvAll_map h l m, List.cons.injEq]
theorem depthAll_le {n : Nat} : ∀ {l : List PyData}, (∀ d ∈ l, d.depth ≤ n) → PyData.depthAll l ≤ n
  | [], _ => by simp [PyData.depthAll]
  | d :: l, h => by
    simp only [PyData.depthAll]
    exact Nat.max_le.mpr ⟨h d List.mem_cons_self, depthAll_le fun x hx => h x (List.mem_cons_of_mem _ hx)⟩
theorem depth_map (h : Em k e) (l : List α) : PyData.depthAll ((l.map e).map py) ≤ k := depthAll_le fun d hd => by
  simp only [List.map_map, List.mem_map] at hd
  obtain ⟨x, _, rfl⟩ := hd
  exact h.dep x
theorem em_tup (h : Em k e) : Em (k + 1) (fun l : List α => D.tup (l.map e)) := ⟨fun l m => by
    simp only [py, PyData.eqv, pys_map]; exact eqvAll_map h l m, fun l => by
    simp only [Pk.dat, dats_all, List.all_map, List.all_eq_true]; exact fun x _ => h.dat x, fun l => by
    simp only [py, PyData.depth, pys_map]; exact Nat.add_le_add_right (depth_map h l) 1⟩
theorem em_lst (h : Em k e) : Em (k + 1) (fun l : List α => D.lst (l.map e)) := ⟨fun l m => by
    simp only [py, PyData.eqv, pys_map]; exact eqvAll_map h l m, fun l => by
    simp only [Pk.dat, dats_all, List.all_map, List.all_eq_true]; exact fun x _ => h.dat x, fun l => by
    simp only [py, PyData.depth, pys_map]; exact Nat.add_le_add_right (depth_map h l) 1⟩
theorem Em.small (h : Em k e) (hk : k ≤ 64) (x : α) : small (e x) = true := by
  unfold Pk.small
  rw [h.dat, Bool.true_and]
  exact decide_eq_true (Nat.le_trans (h.dep x) hk)
theorem Em.eqb (h : Em k e) (x y : α) [Decidable (x = y)] : PyData.eqv (py (e x)) (py (e y)) = decide (x = y) := by
  by_cases z : x = y
  · rw [(h.eqv x y).mpr z]; simp [z]
  · simp only [z, decide_false]
    exact Bool.eq_false_iff.mpr fun w => z ((h.eqv x y).mp w)
theorem oEq_em (h : Em k e) (hk : k ≤ 64) (x y : α) [Decidable (x = y)] : oEq (e x) (e y) = some (decide (x = y)) := by
  unfold oEq
  rw [h.small hk, h.small hk, h.eqb]; rfl
theorem any_em (h : Em k e) (x : α) (l : List α) [Decidable (x ∈ l)] : ((l.map e).any fun z => PyData.eqv (py z) (py (e x))) = decide (x ∈ l) := by
  have : ((l.map e).any fun z => PyData.eqv (py z) (py (e x))) = true ↔ x ∈ l := by
    rw [List.any_eq_true]
    constructor
    · rintro ⟨z, hz, he⟩
      obtain ⟨y, hy, rfl⟩ := List.mem_map.mp hz
      rw [← (h.eqv y x).mp he]; exact hy
    · intro hx
      exact ⟨e x, List.mem_map_of_mem hx, (h.eqv x x).mpr rfl⟩
  by_cases hx : x ∈ l
  · rw [this.mpr hx]; simp [hx]
  · simp only [hx, decide_false]
    exact Bool.eq_false_iff.mpr fun z => hx (this.mp z)
theorem oIn_t (a : D) (l : List D) : oIn a (.tup l) = if small a && small (.tup l) then some (l.any fun z => PyData.eqv (py z) (py a)) else none := by cases a <;> rfl
theorem oIn_l (a : D) (l : List D) : oIn a (.lst l) = if small a && small (.lst l) then some (l.any fun z => PyData.eqv (py z) (py a)) else none := by cases a <;> rfl
theorem oIn_tup (h : Em k e) (hk : k ≤ 63) (x : α) (l : List α) [Decidable (x ∈ l)] : oIn (e x) (.tup (l.map e)) = some (decide (x ∈ l)) := by
  have h2 := (em_tup h).small (by omega) l
  have h1 := h.small (by omega) x
  rw [oIn_t, h1, h2, any_em h]; rfl
theorem oIn_lst (h : Em k e) (hk : k ≤ 63) (x : α) (l : List α) [Decidable (x ∈ l)] : oIn (e x) (.lst (l.map e)) = some (decide (x ∈ l)) := by
  have h2 := (em_lst h).small (by omega) l
  have h1 := h.small (by omega) x
  rw [oIn_l, h1, h2, any_em h]; rfl
theorem oEq_lst (h : Em k e) (hk : k ≤ 63) (l m : List α) [Decidable (l = m)] : oEq (.lst (l.map e)) (.lst (m.map e)) = some (decide (l = m)) := oEq_em (em_lst h) (by omega) l m
theorem oEq_tup (h : Em k e) (hk : k ≤ 63) (l m : List α) [Decidable (l = m)] : oEq (.tup (l.map e)) (.tup (m.map e)) = some (decide (l = m)) := oEq_em (em_tup h) (by omega) l m
theorem oEq_nil (h : Em k e) (hk : k ≤ 63) (l : List α) : oEq (.lst (l.map e)) (.lst []) = some l.isEmpty := by
  have h1 := (em_lst h).small (by omega) l
  have h2 := (em_lst h).small (by omega) []
  unfold oEq
  simp only [List.map_nil] at h2
  rw [h1, h2]
  cases l with
  | nil => rfl
  | cons x l => simp [py, pys, PyData.eqv, PyData.eqvAll]
end
/-! ### sorted -/
section
variable {α : Type} {k : Nat} {e : α → D}
noncomputable def leBy (e : α → D) (x y : α) : Bool := dLe (e x) (e y)
theorem dLe_total : PySem.W.TotalLe dLe := PySem.W.sortLe_total (PyProof.Rows.listOrd PyProof.Rows.itemOrd) false fun b => PySem.W.keyToks (py b)
theorem sort_map (l : List α) : (l.map e).mergeSort dLe = (l.mergeSort (leBy e)).map e := (List.map_mergeSort (r := leBy e) (s := dLe) (f := e) (fun a _ b _ => rfl)).symm
theorem sort_perm (l : List α) : (l.mergeSort (leBy e)).Perm l := List.mergeSort_perm _ _
theorem sort_pair (l : List α) : (l.mergeSort (leBy e)).Pairwise fun x y => leBy e x y = true := List.pairwise_mergeSort (fun a b c => dLe_total.trans (e a) (e b) (e c)) (fun a b => by
  have := dLe_total.total (e a) (e b)
  rcases this with h | h <;> simp [leBy, h]) l
theorem dLe_eq (a b : D) : dLe a b = !PySem.W.dataLt (py b) (py a) := rfl
/-- texts, by their signs -/
def ltS (x y : Str) : Prop := x.cps.toList < y.cps.toList
instance : DecidableRel ltS := fun x y => inferInstanceAs (Decidable (x.cps.toList < y.cps.toList))
theorem leBy_str (x y : Str) : leBy D.str x y = !decide (ltS y x) := by
  unfold leBy
  rw [dLe_eq]
  show (!PySem.W.dataLt (.str y) (.str x)) = _
  rw [PySem.W.dataLt_str]; rfl
noncomputable def sortS (l : List Str) : List Str := l.mergeSort (leBy D.str)
def Rises (l : List Str) : Prop := l.Pairwise ltS
theorem ltS_tri {x y : Str} (h : ¬ ltS y x) (hn : x ≠ y) : ltS x y := by
  unfold ltS at h ⊢
  by_cases z : x.cps.toList < y.cps.toList
  · exact z
  · exact (hn (PySem.W.str_of_cps (List.le_antisymm (List.not_lt.mp h) (List.not_lt.mp z)))).elim
theorem ltS_irr (x : Str) : ¬ ltS x x := List.lt_irrefl _
theorem ltS_trans {x y z : Str} (h : ltS x y) (h' : ltS y z) : ltS x z := List.lt_trans h h'
theorem sortS_rises {l : List Str} (h : l.Nodup) : Rises (sortS l) := by
  have h1 : (sortS l).Pairwise fun x y => leBy D.str x y = true := sort_pair l
  have h2 : (sortS l).Nodup := (sort_perm (e := D.str) l).nodup_iff.mpr h
  refine List.Pairwise.imp₂ (fun x y a b => ?_) h1 h2
  rw [leBy_str] at a
  exact ltS_tri (by simpa using a) b
theorem Rises.nodup {l : List Str} (h : Rises l) : l.Nodup := h.imp fun {a b} z w => by subst w; exact ltS_irr _ z
end
end Pk
namespace Pk
open PySem PySem.Spec PyProof.Rows L2
/-! ### what the laws' own helpers are worth -/
noncomputable def b_law_start : Sx :=
  (sSeq (sSet 2 (eCon (.int 0)))
  (sSeq (sIf (tCmp .Lt (eRd 1) (e1 oLen (eRd 0)))
    (sSeq (sSet 2 (eIx (eRd 0) (eRd 1)))
    (sIf (tCmp .GtE (eRd 2) (eBin .Pow (eCon (.int 10)) (eCon (.int 18))))
      (sRet (eCell (lLst [(eVar 2), (eVar 1)])))
      sNil))
    (sIf (tCmp .NotEq (eRd 0) (eL (lLst [])))
      (sSet 2 (eIx (eRd 0) (eBin .Mod (eRd 1) (e1 oLen (eRd 0)))))
      sNil))
  (sRet (eCell (lLst [(eBin .Mod (eBin .Add (eRd 2) (eBin .Mult (eCon (.int 7919)) (eBin .Add (eRd 1) (eCon (.int 1))))) (eCon (.int 2147483629))), (eVar 1)])))))
noncomputable def g_law_start : List D → M D := fnOf 3 2 b_law_start
noncomputable def b_law_next : Sx :=
  (sSeq (sAugIx 0 (eCon (.int 1)) .Add (eCon (.int 1)))
  (sSeq (sIf (tCmp .GtE (eIx (eRd 0) (eCon (.int 0))) (eCon (.int 2147483648)))
    (sSeq (sSet 2 (eBin .Mod (eIx (eRd 0) (eCon (.int 0))) (eRd 1)))
    (sSeq (sAugIx 0 (eCon (.int 0)) .FloorDiv (eVar 1))
    (sRet (eRd 2))))
    sNil)
  (sSeq (sSet 3 (eBin .Mod (eBin .Add (eBin .Mult (eIx (eRd 0) (eCon (.int 0))) (eBin .Add (eCon (.int 48271)) (eBin .Mult (eCon (.int 2)) (eIx (eRd 0) (eCon (.int 1)))))) (eBin .Mult (eCon (.int 104729)) (eIx (eRd 0) (eCon (.int 1))))) (eCon (.int 2147483647))))
  (sRet (eBin .Mod (eBin .FloorDiv (eBin .Mod (eBin .Pow (eRd 3) (eCon (.int 5))) (eCon (.int 2147483629))) (eCon (.int 16))) (eRd 1))))))
noncomputable def g_law_next : List D → M D := fnOf 4 2 b_law_next
noncomputable def b_law_word : Sx :=
  (sSeq (sSet 1 (eCon (.str "abcdefghijklmnopqrstuvwxyz")))
  (sSeq (sSet 2 (eCon (.str "")))
  (sSeq (sSet 0 (eBin .Mod (eRd 0) (eCon (.int 300000000))))
  (sWhile (tVal (eCon (.bl true)))
    (sSeq (sSet 2 (eBin .Add (eIx (eRd 1) (eBin .Mod (eRd 0) (eCon (.int 26)))) (eRd 2)))
    (sSeq (sSet 0 (eBin .Sub (eBin .FloorDiv (eRd 0) (eCon (.int 26))) (eCon (.int 1))))
    (sIf (tCmp .Lt (eRd 0) (eCon (.int 0)))
      (sRet (eRd 2))
      sNil)))))))
noncomputable def g_law_word : List D → M D := fnOf 3 1 b_law_word

/-- a draw's cell -/
def Drw (S : Store) (n : Nat) : Prop := ∃ x c, S[n]? = some (.lst [.int x, .int c]) ∧ 0 ≤ x
/-- nothing but the draw has changed -/
def Fr (n : Nat) (S S' : Store) : Prop := S.length ≤ S'.length ∧ (∀ j, j < S.length → j ≠ n → S'[j]? = S[j]?) ∧ Drw S' n
theorem Fr.refl {n : Nat} {S : Store} (h : Drw S n) : Fr n S S := ⟨Nat.le_refl _, fun _ _ _ => rfl, h⟩
theorem Fr.trans {n : Nat} {S S' S'' : Store} (h : Fr n S S') (h' : Fr n S' S'') : Fr n S S'' :=
  ⟨Nat.le_trans h.1 h'.1, fun j hj hn => (h'.2.1 j (Nat.lt_of_lt_of_le hj h.1) hn).trans (h.2.1 j hj hn), h'.2.2⟩
theorem Fr.d {n : Nat} {S S' : Store} (h : Fr n S S') : Drw S' n := h.2.2
theorem next_w {n : Nat} {many : Int} {S : Store} (hd : Drw S n) (h1 : 0 < many) (h2 : many < 2 ^ 30) {Q : D → Store → Prop} (q : ∀ t S', 0 ≤ t → t < many → Fr n S S' → Q (.int t) S') : wE (g_law_next [.ref n, .int many] S) Q := by
  obtain ⟨x, c, hS, hx⟩ := hd
  have hn : n < S.length := (List.getElem?_eq_some_iff.mp hS).1
  have fr : ∀ x' c', 0 ≤ x' → Fr n S (S.set n (.lst [.int x', .int c'])) := fun x' c' h => ⟨by simp, fun j hj hjn => by rw [List.getElem?_set_ne (fun z => hjn z.symm)], x', c', List.getElem?_set_self hn, h⟩
  refine w_fn rfl ?_
  unfold b_law_next
  (repeat (first | (first | refine x_seq ?_ | refine x_set ?_ | refine x_own ?_ | refine x_asg ?_ | refine x_drop ?_ | refine x_ret ?_ | refine x_if ?_ | refine x_nil ?_ | refine x_for ?_ | refine x_augix ?_ | refine x_put ?_ | refine x_dnew ?_ | refine x_putd rfl ?_ | refine x_mt rfl ?_ | refine x_aug rfl ?_ | refine x_frz ?_ | refine x_ext rfl ?_ | refine x_ct ?_ | refine x_bk ?_ | refine x_retN ?_) | simp only [↓w_con, ↓w_var, ↓w_rd, ↓w_e1, ↓w_e2, ↓w_bin, ↓w_cmp, ↓w_ix, ↓w_neg, ↓w_not, ↓w_and, ↓w_or, ↓w_if, ↓w_args0, ↓w_args, ↓w_tup, ↓w_lst, ↓w_L, ↓w_cell, ↓w_call, ↓w_l1, ↓w_l2, ↓w_sortk, ↓w_str, ↓w_part0, ↓w_part, ↓w_cut, ↓w_lcut, ↓w_tval, ↓w_tcmp, ↓w_tnot, ↓w_tand, ↓w_tor, ↓w_tyes, ↓w_seq, ↓w_itB, ↓w_comp, ↓wO_some, ↓wO_none, ↓wO_bind, ↓wO_map, ↓wO_gd, List.map_cons, List.map_nil, List.cons_append, List.nil_append, List.replicate, List.getElem?_cons_zero, List.getElem?_cons_succ, List.set_cons_zero, List.set_cons_succ, der_non, der_bl, der_int, der_str, der_tup, der_lst, der_dct, der_ref, ↓oBin, ↓oAdd, ↓oSub, ↓oMul, ↓oMod, ↓oDiv, ↓oPow, ↓oCmp, ↓oTru, ↓oBl, ↓oNeg, ↓oIx, atI_0, atI_1, ixN_20, ixN_21, ↓oLen, ↓oTuple, ↓oInt, ↓oMax, ↓oMin, ↓oCut, ↓oList, ↓tgN, ↓tgT, ↓setAll, ↓listAt, ↓Pk.putAt, ↓wipeS, ↓getAtI, ↓setAtI, ↓oIp, List.length_cons, List.length_nil, Bool.not_true, Bool.not_false, if_true, if_false, ite_true, ite_false, reduceIte, List.length_replicate, Nat.reduceSub, Nat.reduceAdd, Int.reduceLT, Int.reduceLE, Int.reduceNeg, Bool.false_eq_true, Bool.true_eq_false, true_and, and_true, hS, List.getElem?_set_self hn, oLt, List.set_set] | (refine And.intro ?pk1 ?_; (case pk1 => (first | assumption | decide | omega | exact ⟨by assumption, by omega⟩ | (constructor <;> first | assumption | decide | omega) | (simp [okMul]; done))))))
  split
  · (repeat (first | (first | refine x_seq ?_ | refine x_set ?_ | refine x_own ?_ | refine x_asg ?_ | refine x_drop ?_ | refine x_ret ?_ | refine x_if ?_ | refine x_nil ?_ | refine x_for ?_ | refine x_augix ?_ | refine x_put ?_ | refine x_dnew ?_ | refine x_putd rfl ?_ | refine x_mt rfl ?_ | refine x_aug rfl ?_ | refine x_frz ?_ | refine x_ext rfl ?_ | refine x_ct ?_ | refine x_bk ?_ | refine x_retN ?_) | simp only [↓w_con, ↓w_var, ↓w_rd, ↓w_e1, ↓w_e2, ↓w_bin, ↓w_cmp, ↓w_ix, ↓w_neg, ↓w_not, ↓w_and, ↓w_or, ↓w_if, ↓w_args0, ↓w_args, ↓w_tup, ↓w_lst, ↓w_L, ↓w_cell, ↓w_call, ↓w_l1, ↓w_l2, ↓w_sortk, ↓w_str, ↓w_part0, ↓w_part, ↓w_cut, ↓w_lcut, ↓w_tval, ↓w_tcmp, ↓w_tnot, ↓w_tand, ↓w_tor, ↓w_tyes, ↓w_seq, ↓w_itB, ↓w_comp, ↓wO_some, ↓wO_none, ↓wO_bind, ↓wO_map, ↓wO_gd, List.map_cons, List.map_nil, List.cons_append, List.nil_append, List.replicate, List.getElem?_cons_zero, List.getElem?_cons_succ, List.set_cons_zero, List.set_cons_succ, der_non, der_bl, der_int, der_str, der_tup, der_lst, der_dct, der_ref, ↓oBin, ↓oAdd, ↓oSub, ↓oMul, ↓oMod, ↓oDiv, ↓oPow, ↓oCmp, ↓oTru, ↓oBl, ↓oNeg, ↓oIx, atI_0, atI_1, ixN_20, ixN_21, ↓oLen, ↓oTuple, ↓oInt, ↓oMax, ↓oMin, ↓oCut, ↓oList, ↓tgN, ↓tgT, ↓setAll, ↓listAt, ↓Pk.putAt, ↓wipeS, ↓getAtI, ↓setAtI, ↓oIp, List.length_cons, List.length_nil, Bool.not_true, Bool.not_false, if_true, if_false, ite_true, ite_false, reduceIte, List.length_replicate, Nat.reduceSub, Nat.reduceAdd, Int.reduceLT, Int.reduceLE, Int.reduceNeg, Bool.false_eq_true, Bool.true_eq_false, true_and, and_true, hS, List.getElem?_set_self hn, oLt, List.set_set] | (refine And.intro ?pk1 ?_; (case pk1 => (first | assumption | decide | omega | exact ⟨by assumption, by omega⟩ | (constructor <;> first | assumption | decide | omega) | (simp [okMul]; done))))))
    exact q _ _ (Int.emod_nonneg _ (by omega)) (Int.emod_lt_of_pos _ h1) (fr _ _ (Int.ediv_nonneg hx (by omega)))
  · rename_i hlt
    have hlt : x < 2147483648 := by simpa using hlt
    have hm := Int.emod_nonneg (x * (48271 + 2 * (c + 1)) + 104729 * (c + 1)) (by decide : (2147483647 : Int) ≠ 0)
    have hm2 := Int.emod_lt_of_pos (x * (48271 + 2 * (c + 1)) + 104729 * (c + 1)) (by decide : (0 : Int) < 2147483647)
    have hp : ((x * (48271 + 2 * (c + 1)) + 104729 * (c + 1)) % 2147483647).natAbs < 2 ^ 64 := by omega
    have ho : okMul x (48271 + 2 * (c + 1)) = true := by simp [okMul]; left; constructor <;> omega
    (repeat (first | (first | refine x_seq ?_ | refine x_set ?_ | refine x_own ?_ | refine x_asg ?_ | refine x_drop ?_ | refine x_ret ?_ | refine x_if ?_ | refine x_nil ?_ | refine x_for ?_ | refine x_augix ?_ | refine x_put ?_ | refine x_dnew ?_ | refine x_putd rfl ?_ | refine x_mt rfl ?_ | refine x_aug rfl ?_ | refine x_frz ?_ | refine x_ext rfl ?_ | refine x_ct ?_ | refine x_bk ?_ | refine x_retN ?_) | simp only [↓w_con, ↓w_var, ↓w_rd, ↓w_e1, ↓w_e2, ↓w_bin, ↓w_cmp, ↓w_ix, ↓w_neg, ↓w_not, ↓w_and, ↓w_or, ↓w_if, ↓w_args0, ↓w_args, ↓w_tup, ↓w_lst, ↓w_L, ↓w_cell, ↓w_call, ↓w_l1, ↓w_l2, ↓w_sortk, ↓w_str, ↓w_part0, ↓w_part, ↓w_cut, ↓w_lcut, ↓w_tval, ↓w_tcmp, ↓w_tnot, ↓w_tand, ↓w_tor, ↓w_tyes, ↓w_seq, ↓w_itB, ↓w_comp, ↓wO_some, ↓wO_none, ↓wO_bind, ↓wO_map, ↓wO_gd, List.map_cons, List.map_nil, List.cons_append, List.nil_append, List.replicate, List.getElem?_cons_zero, List.getElem?_cons_succ, List.set_cons_zero, List.set_cons_succ, der_non, der_bl, der_int, der_str, der_tup, der_lst, der_dct, der_ref, ↓oBin, ↓oAdd, ↓oSub, ↓oMul, ↓oMod, ↓oDiv, ↓oPow, ↓oCmp, ↓oTru, ↓oBl, ↓oNeg, ↓oIx, atI_0, atI_1, ixN_20, ixN_21, ↓oLen, ↓oTuple, ↓oInt, ↓oMax, ↓oMin, ↓oCut, ↓oList, ↓tgN, ↓tgT, ↓setAll, ↓listAt, ↓Pk.putAt, ↓wipeS, ↓getAtI, ↓setAtI, ↓oIp, List.length_cons, List.length_nil, Bool.not_true, Bool.not_false, if_true, if_false, ite_true, ite_false, reduceIte, List.length_replicate, Nat.reduceSub, Nat.reduceAdd, Int.reduceLT, Int.reduceLE, Int.reduceNeg, Bool.false_eq_true, Bool.true_eq_false, true_and, and_true, hS, List.getElem?_set_self hn, oLt, List.set_set] | (refine And.intro ?pk1 ?_; (case pk1 => (first | assumption | decide | omega | exact ⟨by assumption, by omega⟩ | (constructor <;> first | assumption | decide | omega) | (simp [okMul]; done))))))
    exact q _ _ (Int.emod_nonneg _ (by omega)) (Int.emod_lt_of_pos _ h1) (fr _ _ hx)
theorem atI_map {α : Type} {l : List α} {f : α → D} {i : Int} : atI (l.map f) i = (atI l i).map f := by
  unfold atI
  rw [List.length_map]
  cases ixN l.length i with
  | none => rfl
  | some j => simp
theorem atI_some {α : Type} {l : List α} {i : Int} (h0 : 0 ≤ i) (h1 : i < l.length) : ∃ x, atI l i = some x ∧ x ∈ l := by
  obtain ⟨k, rfl⟩ := Int.eq_ofNat_of_zero_le h0
  have hk : k < l.length := by omega
  exact ⟨l[k], by rw [atI_nat', List.getElem?_eq_getElem hk], List.getElem_mem hk⟩
theorem start_w {ns : List Int} {k : Nat} {S : Store} {Q : D → Store → Prop} (q : ∀ x, 0 ≤ x → Q (.ref S.length) (S ++ [.lst [.int x, .int k]])) : wE (g_law_start [.lst (ns.map D.int), .int k] S) Q := by
  have hmod : ∀ z : Int, 0 ≤ z % 2147483629 := fun z => Int.emod_nonneg _ (by decide)
  refine w_fn rfl ?_
  unfold b_law_start
  (repeat (first | (first | refine x_seq ?_ | refine x_set ?_ | refine x_own ?_ | refine x_asg ?_ | refine x_drop ?_ | refine x_ret ?_ | refine x_if ?_ | refine x_nil ?_ | refine x_for ?_ | refine x_augix ?_ | refine x_put ?_ | refine x_dnew ?_ | refine x_putd rfl ?_ | refine x_mt rfl ?_ | refine x_aug rfl ?_ | refine x_frz ?_ | refine x_ext rfl ?_ | refine x_ct ?_ | refine x_bk ?_ | refine x_retN ?_) | simp only [↓w_con, ↓w_var, ↓w_rd, ↓w_e1, ↓w_e2, ↓w_bin, ↓w_cmp, ↓w_ix, ↓w_neg, ↓w_not, ↓w_and, ↓w_or, ↓w_if, ↓w_args0, ↓w_args, ↓w_tup, ↓w_lst, ↓w_L, ↓w_cell, ↓w_call, ↓w_l1, ↓w_l2, ↓w_sortk, ↓w_str, ↓w_part0, ↓w_part, ↓w_cut, ↓w_lcut, ↓w_tval, ↓w_tcmp, ↓w_tnot, ↓w_tand, ↓w_tor, ↓w_tyes, ↓w_seq, ↓w_itB, ↓w_comp, ↓wO_some, ↓wO_none, ↓wO_bind, ↓wO_map, ↓wO_gd, List.map_cons, List.map_nil, List.cons_append, List.nil_append, List.replicate, List.getElem?_cons_zero, List.getElem?_cons_succ, List.set_cons_zero, List.set_cons_succ, der_non, der_bl, der_int, der_str, der_tup, der_lst, der_dct, der_ref, ↓oBin, ↓oAdd, ↓oSub, ↓oMul, ↓oMod, ↓oDiv, ↓oPow, ↓oCmp, ↓oTru, ↓oBl, ↓oNeg, ↓oIx, atI_0, atI_1, ixN_20, ixN_21, ↓oLen, ↓oTuple, ↓oInt, ↓oMax, ↓oMin, ↓oCut, ↓oList, ↓tgN, ↓tgT, ↓setAll, ↓listAt, ↓Pk.putAt, ↓wipeS, ↓getAtI, ↓setAtI, ↓oIp, List.length_cons, List.length_nil, Bool.not_true, Bool.not_false, if_true, if_false, ite_true, ite_false, reduceIte, List.length_replicate, Nat.reduceSub, Nat.reduceAdd, Int.reduceLT, Int.reduceLE, Int.reduceNeg, Bool.false_eq_true, Bool.true_eq_false, true_and, and_true, oLt, List.length_map] | (refine And.intro ?pk1 ?_; (case pk1 => (first | assumption | decide | omega | exact ⟨by assumption, by omega⟩ | (constructor <;> first | assumption | decide | omega) | (simp [okMul]; done))))))
  split
  · rename_i h
    have h : (k : Int) < ns.length := by simpa using h
    obtain ⟨x, e, _⟩ := atI_some (l := ns) (Int.natCast_nonneg k) h
    (repeat (first | (first | refine x_seq ?_ | refine x_set ?_ | refine x_own ?_ | refine x_asg ?_ | refine x_drop ?_ | refine x_ret ?_ | refine x_if ?_ | refine x_nil ?_ | refine x_for ?_ | refine x_augix ?_ | refine x_put ?_ | refine x_dnew ?_ | refine x_putd rfl ?_ | refine x_mt rfl ?_ | refine x_aug rfl ?_ | refine x_frz ?_ | refine x_ext rfl ?_ | refine x_ct ?_ | refine x_bk ?_ | refine x_retN ?_) | simp only [↓w_con, ↓w_var, ↓w_rd, ↓w_e1, ↓w_e2, ↓w_bin, ↓w_cmp, ↓w_ix, ↓w_neg, ↓w_not, ↓w_and, ↓w_or, ↓w_if, ↓w_args0, ↓w_args, ↓w_tup, ↓w_lst, ↓w_L, ↓w_cell, ↓w_call, ↓w_l1, ↓w_l2, ↓w_sortk, ↓w_str, ↓w_part0, ↓w_part, ↓w_cut, ↓w_lcut, ↓w_tval, ↓w_tcmp, ↓w_tnot, ↓w_tand, ↓w_tor, ↓w_tyes, ↓w_seq, ↓w_itB, ↓w_comp, ↓wO_some, ↓wO_none, ↓wO_bind, ↓wO_map, ↓wO_gd, List.map_cons, List.map_nil, List.cons_append, List.nil_append, List.replicate, List.getElem?_cons_zero, List.getElem?_cons_succ, List.set_cons_zero, List.set_cons_succ, der_non, der_bl, der_int, der_str, der_tup, der_lst, der_dct, der_ref, ↓oBin, ↓oAdd, ↓oSub, ↓oMul, ↓oMod, ↓oDiv, ↓oPow, ↓oCmp, ↓oTru, ↓oBl, ↓oNeg, ↓oIx, atI_0, atI_1, ixN_20, ixN_21, ↓oLen, ↓oTuple, ↓oInt, ↓oMax, ↓oMin, ↓oCut, ↓oList, ↓tgN, ↓tgT, ↓setAll, ↓listAt, ↓Pk.putAt, ↓wipeS, ↓getAtI, ↓setAtI, ↓oIp, List.length_cons, List.length_nil, Bool.not_true, Bool.not_false, if_true, if_false, ite_true, ite_false, reduceIte, List.length_replicate, Nat.reduceSub, Nat.reduceAdd, Int.reduceLT, Int.reduceLE, Int.reduceNeg, Bool.false_eq_true, Bool.true_eq_false, true_and, and_true, oLt, List.length_map, atI_map, e, Option.map_some] | (refine And.intro ?pk1 ?_; (case pk1 => (first | assumption | decide | omega | exact ⟨by assumption, by omega⟩ | (constructor <;> first | assumption | decide | omega) | (simp [okMul]; done))))))
    split
    · rename_i h2
      (repeat (first | (first | refine x_seq ?_ | refine x_set ?_ | refine x_own ?_ | refine x_asg ?_ | refine x_drop ?_ | refine x_ret ?_ | refine x_if ?_ | refine x_nil ?_ | refine x_for ?_ | refine x_augix ?_ | refine x_put ?_ | refine x_dnew ?_ | refine x_putd rfl ?_ | refine x_mt rfl ?_ | refine x_aug rfl ?_ | refine x_frz ?_ | refine x_ext rfl ?_ | refine x_ct ?_ | refine x_bk ?_ | refine x_retN ?_) | simp only [↓w_con, ↓w_var, ↓w_rd, ↓w_e1, ↓w_e2, ↓w_bin, ↓w_cmp, ↓w_ix, ↓w_neg, ↓w_not, ↓w_and, ↓w_or, ↓w_if, ↓w_args0, ↓w_args, ↓w_tup, ↓w_lst, ↓w_L, ↓w_cell, ↓w_call, ↓w_l1, ↓w_l2, ↓w_sortk, ↓w_str, ↓w_part0, ↓w_part, ↓w_cut, ↓w_lcut, ↓w_tval, ↓w_tcmp, ↓w_tnot, ↓w_tand, ↓w_tor, ↓w_tyes, ↓w_seq, ↓w_itB, ↓w_comp, ↓wO_some, ↓wO_none, ↓wO_bind, ↓wO_map, ↓wO_gd, List.map_cons, List.map_nil, List.cons_append, List.nil_append, List.replicate, List.getElem?_cons_zero, List.getElem?_cons_succ, List.set_cons_zero, List.set_cons_succ, der_non, der_bl, der_int, der_str, der_tup, der_lst, der_dct, der_ref, ↓oBin, ↓oAdd, ↓oSub, ↓oMul, ↓oMod, ↓oDiv, ↓oPow, ↓oCmp, ↓oTru, ↓oBl, ↓oNeg, ↓oIx, atI_0, atI_1, ixN_20, ixN_21, ↓oLen, ↓oTuple, ↓oInt, ↓oMax, ↓oMin, ↓oCut, ↓oList, ↓tgN, ↓tgT, ↓setAll, ↓listAt, ↓Pk.putAt, ↓wipeS, ↓getAtI, ↓setAtI, ↓oIp, List.length_cons, List.length_nil, Bool.not_true, Bool.not_false, if_true, if_false, ite_true, ite_false, reduceIte, List.length_replicate, Nat.reduceSub, Nat.reduceAdd, Int.reduceLT, Int.reduceLE, Int.reduceNeg, Bool.false_eq_true, Bool.true_eq_false, true_and, and_true] | (refine And.intro ?pk1 ?_; (case pk1 => (first | assumption | decide | omega | exact ⟨by assumption, by omega⟩ | (constructor <;> first | assumption | decide | omega) | (simp [okMul]; done))))))
      refine q x ?_
      have : ¬ x < 10 ^ Int.toNat 18 := by simpa using h2
      have e2 : (10 : Int) ^ Int.toNat 18 = 1000000000000000000 := by decide
      omega
    · (repeat (first | (first | refine x_seq ?_ | refine x_set ?_ | refine x_own ?_ | refine x_asg ?_ | refine x_drop ?_ | refine x_ret ?_ | refine x_if ?_ | refine x_nil ?_ | refine x_for ?_ | refine x_augix ?_ | refine x_put ?_ | refine x_dnew ?_ | refine x_putd rfl ?_ | refine x_mt rfl ?_ | refine x_aug rfl ?_ | refine x_frz ?_ | refine x_ext rfl ?_ | refine x_ct ?_ | refine x_bk ?_ | refine x_retN ?_) | simp only [↓w_con, ↓w_var, ↓w_rd, ↓w_e1, ↓w_e2, ↓w_bin, ↓w_cmp, ↓w_ix, ↓w_neg, ↓w_not, ↓w_and, ↓w_or, ↓w_if, ↓w_args0, ↓w_args, ↓w_tup, ↓w_lst, ↓w_L, ↓w_cell, ↓w_call, ↓w_l1, ↓w_l2, ↓w_sortk, ↓w_str, ↓w_part0, ↓w_part, ↓w_cut, ↓w_lcut, ↓w_tval, ↓w_tcmp, ↓w_tnot, ↓w_tand, ↓w_tor, ↓w_tyes, ↓w_seq, ↓w_itB, ↓w_comp, ↓wO_some, ↓wO_none, ↓wO_bind, ↓wO_map, ↓wO_gd, List.map_cons, List.map_nil, List.cons_append, List.nil_append, List.replicate, List.getElem?_cons_zero, List.getElem?_cons_succ, List.set_cons_zero, List.set_cons_succ, der_non, der_bl, der_int, der_str, der_tup, der_lst, der_dct, der_ref, ↓oBin, ↓oAdd, ↓oSub, ↓oMul, ↓oMod, ↓oDiv, ↓oPow, ↓oCmp, ↓oTru, ↓oBl, ↓oNeg, ↓oIx, atI_0, atI_1, ixN_20, ixN_21, ↓oLen, ↓oTuple, ↓oInt, ↓oMax, ↓oMin, ↓oCut, ↓oList, ↓tgN, ↓tgT, ↓setAll, ↓listAt, ↓Pk.putAt, ↓wipeS, ↓getAtI, ↓setAtI, ↓oIp, List.length_cons, List.length_nil, Bool.not_true, Bool.not_false, if_true, if_false, ite_true, ite_false, reduceIte, List.length_replicate, Nat.reduceSub, Nat.reduceAdd, Int.reduceLT, Int.reduceLE, Int.reduceNeg, Bool.false_eq_true, Bool.true_eq_false, true_and, and_true, oLt, List.length_map, atI_map, e, Option.map_some] | (refine And.intro ?pk1 ?_; (case pk1 => (first | assumption | decide | omega | exact ⟨by assumption, by omega⟩ | (constructor <;> first | assumption | decide | omega) | (simp [okMul]; done))))))
      exact q _ (hmod _)
  · rename_i h
    have h : (ns.length : Int) ≤ k := by
      have : ¬ (k : Int) < ns.length := by simpa using h
      omega
    (repeat (first | (first | refine x_seq ?_ | refine x_set ?_ | refine x_own ?_ | refine x_asg ?_ | refine x_drop ?_ | refine x_ret ?_ | refine x_if ?_ | refine x_nil ?_ | refine x_for ?_ | refine x_augix ?_ | refine x_put ?_ | refine x_dnew ?_ | refine x_putd rfl ?_ | refine x_mt rfl ?_ | refine x_aug rfl ?_ | refine x_frz ?_ | refine x_ext rfl ?_ | refine x_ct ?_ | refine x_bk ?_ | refine x_retN ?_) | simp only [↓w_con, ↓w_var, ↓w_rd, ↓w_e1, ↓w_e2, ↓w_bin, ↓w_cmp, ↓w_ix, ↓w_neg, ↓w_not, ↓w_and, ↓w_or, ↓w_if, ↓w_args0, ↓w_args, ↓w_tup, ↓w_lst, ↓w_L, ↓w_cell, ↓w_call, ↓w_l1, ↓w_l2, ↓w_sortk, ↓w_str, ↓w_part0, ↓w_part, ↓w_cut, ↓w_lcut, ↓w_tval, ↓w_tcmp, ↓w_tnot, ↓w_tand, ↓w_tor, ↓w_tyes, ↓w_seq, ↓w_itB, ↓w_comp, ↓wO_some, ↓wO_none, ↓wO_bind, ↓wO_map, ↓wO_gd, List.map_cons, List.map_nil, List.cons_append, List.nil_append, List.replicate, List.getElem?_cons_zero, List.getElem?_cons_succ, List.set_cons_zero, List.set_cons_succ, der_non, der_bl, der_int, der_str, der_tup, der_lst, der_dct, der_ref, ↓oBin, ↓oAdd, ↓oSub, ↓oMul, ↓oMod, ↓oDiv, ↓oPow, ↓oCmp, ↓oTru, ↓oBl, ↓oNeg, ↓oIx, atI_0, atI_1, ixN_20, ixN_21, ↓oLen, ↓oTuple, ↓oInt, ↓oMax, ↓oMin, ↓oCut, ↓oList, ↓tgN, ↓tgT, ↓setAll, ↓listAt, ↓Pk.putAt, ↓wipeS, ↓getAtI, ↓setAtI, ↓oIp, List.length_cons, List.length_nil, Bool.not_true, Bool.not_false, if_true, if_false, ite_true, ite_false, reduceIte, List.length_replicate, Nat.reduceSub, Nat.reduceAdd, Int.reduceLT, Int.reduceLE, Int.reduceNeg, Bool.false_eq_true, Bool.true_eq_false, true_and, and_true, oLt, List.length_map, oEq_nil em_int (by decide), Option.map_some] | (refine And.intro ?pk1 ?_; (case pk1 => (first | assumption | decide | omega | exact ⟨by assumption, by omega⟩ | (constructor <;> first | assumption | decide | omega) | (simp [okMul]; done))))))
    split
    · rename_i h2
      have hne : ns ≠ [] := by
        rintro rfl
        simp at h2
      have hpos : 0 < ns.length := List.length_pos_iff.mpr hne
      obtain ⟨x, e, _⟩ := atI_some (l := ns) (Int.emod_nonneg (k : Int) (by omega : (ns.length : Int) ≠ 0)) (Int.emod_lt_of_pos _ (by omega))
      (repeat (first | (first | refine x_seq ?_ | refine x_set ?_ | refine x_own ?_ | refine x_asg ?_ | refine x_drop ?_ | refine x_ret ?_ | refine x_if ?_ | refine x_nil ?_ | refine x_for ?_ | refine x_augix ?_ | refine x_put ?_ | refine x_dnew ?_ | refine x_putd rfl ?_ | refine x_mt rfl ?_ | refine x_aug rfl ?_ | refine x_frz ?_ | refine x_ext rfl ?_ | refine x_ct ?_ | refine x_bk ?_ | refine x_retN ?_) | simp only [↓w_con, ↓w_var, ↓w_rd, ↓w_e1, ↓w_e2, ↓w_bin, ↓w_cmp, ↓w_ix, ↓w_neg, ↓w_not, ↓w_and, ↓w_or, ↓w_if, ↓w_args0, ↓w_args, ↓w_tup, ↓w_lst, ↓w_L, ↓w_cell, ↓w_call, ↓w_l1, ↓w_l2, ↓w_sortk, ↓w_str, ↓w_part0, ↓w_part, ↓w_cut, ↓w_lcut, ↓w_tval, ↓w_tcmp, ↓w_tnot, ↓w_tand, ↓w_tor, ↓w_tyes, ↓w_seq, ↓w_itB, ↓w_comp, ↓wO_some, ↓wO_none, ↓wO_bind, ↓wO_map, ↓wO_gd, List.map_cons, List.map_nil, List.cons_append, List.nil_append, List.replicate, List.getElem?_cons_zero, List.getElem?_cons_succ, List.set_cons_zero, List.set_cons_succ, der_non, der_bl, der_int, der_str, der_tup, der_lst, der_dct, der_ref, ↓oBin, ↓oAdd, ↓oSub, ↓oMul, ↓oMod, ↓oDiv, ↓oPow, ↓oCmp, ↓oTru, ↓oBl, ↓oNeg, ↓oIx, atI_0, atI_1, ixN_20, ixN_21, ↓oLen, ↓oTuple, ↓oInt, ↓oMax, ↓oMin, ↓oCut, ↓oList, ↓tgN, ↓tgT, ↓setAll, ↓listAt, ↓Pk.putAt, ↓wipeS, ↓getAtI, ↓setAtI, ↓oIp, List.length_cons, List.length_nil, Bool.not_true, Bool.not_false, if_true, if_false, ite_true, ite_false, reduceIte, List.length_replicate, Nat.reduceSub, Nat.reduceAdd, Int.reduceLT, Int.reduceLE, Int.reduceNeg, Bool.false_eq_true, Bool.true_eq_false, true_and, and_true, oLt, List.length_map, atI_map, e, Option.map_some] | (refine And.intro ?pk1 ?_; (case pk1 => (first | assumption | decide | omega | exact ⟨by assumption, by omega⟩ | (constructor <;> first | assumption | decide | omega) | (simp [okMul]; done))))))
      exact q _ (hmod _)
    · (repeat (first | (first | refine x_seq ?_ | refine x_set ?_ | refine x_own ?_ | refine x_asg ?_ | refine x_drop ?_ | refine x_ret ?_ | refine x_if ?_ | refine x_nil ?_ | refine x_for ?_ | refine x_augix ?_ | refine x_put ?_ | refine x_dnew ?_ | refine x_putd rfl ?_ | refine x_mt rfl ?_ | refine x_aug rfl ?_ | refine x_frz ?_ | refine x_ext rfl ?_ | refine x_ct ?_ | refine x_bk ?_ | refine x_retN ?_) | simp only [↓w_con, ↓w_var, ↓w_rd, ↓w_e1, ↓w_e2, ↓w_bin, ↓w_cmp, ↓w_ix, ↓w_neg, ↓w_not, ↓w_and, ↓w_or, ↓w_if, ↓w_args0, ↓w_args, ↓w_tup, ↓w_lst, ↓w_L, ↓w_cell, ↓w_call, ↓w_l1, ↓w_l2, ↓w_sortk, ↓w_str, ↓w_part0, ↓w_part, ↓w_cut, ↓w_lcut, ↓w_tval, ↓w_tcmp, ↓w_tnot, ↓w_tand, ↓w_tor, ↓w_tyes, ↓w_seq, ↓w_itB, ↓w_comp, ↓wO_some, ↓wO_none, ↓wO_bind, ↓wO_map, ↓wO_gd, List.map_cons, List.map_nil, List.cons_append, List.nil_append, List.replicate, List.getElem?_cons_zero, List.getElem?_cons_succ, List.set_cons_zero, List.set_cons_succ, der_non, der_bl, der_int, der_str, der_tup, der_lst, der_dct, der_ref, ↓oBin, ↓oAdd, ↓oSub, ↓oMul, ↓oMod, ↓oDiv, ↓oPow, ↓oCmp, ↓oTru, ↓oBl, ↓oNeg, ↓oIx, atI_0, atI_1, ixN_20, ixN_21, ↓oLen, ↓oTuple, ↓oInt, ↓oMax, ↓oMin, ↓oCut, ↓oList, ↓tgN, ↓tgT, ↓setAll, ↓listAt, ↓Pk.putAt, ↓wipeS, ↓getAtI, ↓setAtI, ↓oIp, List.length_cons, List.length_nil, Bool.not_true, Bool.not_false, if_true, if_false, ite_true, ite_false, reduceIte, List.length_replicate, Nat.reduceSub, Nat.reduceAdd, Int.reduceLT, Int.reduceLE, Int.reduceNeg, Bool.false_eq_true, Bool.true_eq_false, true_and, and_true, oLt, List.length_map] | (refine And.intro ?pk1 ?_; (case pk1 => (first | assumption | decide | omega | exact ⟨by assumption, by omega⟩ | (constructor <;> first | assumption | decide | omega) | (simp [okMul]; done))))))
      exact q _ (hmod _)
/-! words -/
def strL (l : List Nat) : Str := ⟨l.toArray⟩
def wrd (n : Nat) : List Nat := if h : n < 26 then [97 + n] else wrd (n / 26 - 1) ++ [97 + n % 26]
termination_by n
decreasing_by omega
theorem wrd_small {n : Nat} (h : n < 26) : wrd n = [97 + n] := by rw [wrd]; simp [h]
theorem wrd_big {n : Nat} (h : ¬ n < 26) : wrd n = wrd (n / 26 - 1) ++ [97 + n % 26] := by rw [wrd]; simp [h]
theorem wrd_pos (n : Nat) : 0 < (wrd n).length := by
  by_cases h : n < 26
  · rw [wrd_small h]; simp
  · rw [wrd_big h]; simp
theorem wrd_chars (n : Nat) : ∀ c ∈ wrd n, 97 ≤ c ∧ c < 123 := by
  induction n using Nat.strongRecOn with
  | _ n ih =>
    by_cases h : n < 26
    · rw [wrd_small h]
      intro c hc
      simp only [List.mem_singleton] at hc
      omega
    · rw [wrd_big h]
      intro c hc
      rcases List.mem_append.mp hc with hc | hc
      · exact ih (n / 26 - 1) (by omega) c hc
      · simp only [List.mem_singleton] at hc
        omega
def unw1 : List Nat → Nat
  | [] => 0
  | c :: l => l.foldl (fun a c => (a + 1) * 26 + (c - 97)) (c - 97)
theorem unw1_snoc {l : List Nat} (h : l ≠ []) (c : Nat) : unw1 (l ++ [c]) = (unw1 l + 1) * 26 + (c - 97) := by
  cases l with
  | nil => exact (h rfl).elim
  | cons d l => simp [unw1]
theorem unw_wrd (n : Nat) : unw1 (wrd n) = n := by
  induction n using Nat.strongRecOn with
  | _ n ih =>
    by_cases h : n < 26
    · rw [wrd_small h]; simp [unw1]
    · rw [wrd_big h, unw1_snoc (List.ne_nil_of_length_pos (wrd_pos _)), ih (n / 26 - 1) (by omega)]
      omega
theorem wrd_inj {m n : Nat} (h : wrd m = wrd n) : m = n := by rw [← unw_wrd m, ← unw_wrd n, h]
theorem wrd_len6 {n : Nat} (h : n < 300000000) : (wrd n).length ≤ 6 := by
  have go : ∀ (j B n : Nat), (∀ m, m < B → (wrd m).length ≤ j) → n < (B + 1) * 26 → (wrd n).length ≤ j + 1 := fun j B n hB hn => by
    by_cases h : n < 26
    · rw [wrd_small h]; simp
    · rw [wrd_big h, List.length_append, List.length_singleton]
      have := hB (n / 26 - 1) (by omega)
      omega
  have h1 : ∀ m, m < 26 → (wrd m).length ≤ 1 := fun m hm => by rw [wrd_small hm]; simp
  have h2 : ∀ m, m < 702 → (wrd m).length ≤ 2 := fun m hm => go 1 26 m h1 (by omega)
  have h3 : ∀ m, m < 18278 → (wrd m).length ≤ 3 := fun m hm => go 2 702 m h2 (by omega)
  have h4 : ∀ m, m < 475254 → (wrd m).length ≤ 4 := fun m hm => go 3 18278 m h3 (by omega)
  have h5 : ∀ m, m < 12356630 → (wrd m).length ≤ 5 := fun m hm => go 4 475254 m h4 (by omega)
  exact go 5 12356630 n h5 (by omega)
theorem strL_app (a b : List Nat) : strL a ++ strL b = strL (a ++ b) := by
  show Str.mk _ = Str.mk _
  simp [strL]
theorem strL_len (a : List Nat) : (strL a).length = a.length := by
  show (strL a).cps.size = _
  simp [strL]
theorem strL_list (a : List Nat) : (strL a).cps.toList = a := by simp [strL]
theorem letters_list : (Str.ofString "abcdefghijklmnopqrstuvwxyz").cps.toList = (List.range 26).map (97 + ·) := by decide +kernel
theorem word_w {k : Int} (hk : 0 ≤ k) {S : Store} {Q : D → Store → Prop} (q : Q (.str (strL (wrd (k.toNat % 300000000)))) S) : wE (g_law_word [.int k] S) Q := by
  obtain ⟨n, rfl⟩ := Int.eq_ofNat_of_zero_le hk
  refine w_fn rfl ?_
  unfold b_law_word
  (repeat (first | (first | refine x_seq ?_ | refine x_set ?_ | refine x_own ?_ | refine x_asg ?_ | refine x_drop ?_ | refine x_ret ?_ | refine x_if ?_ | refine x_nil ?_ | refine x_for ?_ | refine x_augix ?_ | refine x_put ?_ | refine x_dnew ?_ | refine x_putd rfl ?_ | refine x_mt rfl ?_ | refine x_aug rfl ?_ | refine x_frz ?_ | refine x_ext rfl ?_ | refine x_ct ?_ | refine x_bk ?_ | refine x_retN ?_) | simp only [↓w_con, ↓w_var, ↓w_rd, ↓w_e1, ↓w_e2, ↓w_bin, ↓w_cmp, ↓w_ix, ↓w_neg, ↓w_not, ↓w_and, ↓w_or, ↓w_if, ↓w_args0, ↓w_args, ↓w_tup, ↓w_lst, ↓w_L, ↓w_cell, ↓w_call, ↓w_l1, ↓w_l2, ↓w_sortk, ↓w_str, ↓w_part0, ↓w_part, ↓w_cut, ↓w_lcut, ↓w_tval, ↓w_tcmp, ↓w_tnot, ↓w_tand, ↓w_tor, ↓w_tyes, ↓w_seq, ↓w_itB, ↓w_comp, ↓wO_some, ↓wO_none, ↓wO_bind, ↓wO_map, ↓wO_gd, List.map_cons, List.map_nil, List.cons_append, List.nil_append, List.replicate, List.getElem?_cons_zero, List.getElem?_cons_succ, List.set_cons_zero, List.set_cons_succ, der_non, der_bl, der_int, der_str, der_tup, der_lst, der_dct, der_ref, ↓oBin, ↓oAdd, ↓oSub, ↓oMul, ↓oMod, ↓oDiv, ↓oPow, ↓oCmp, ↓oTru, ↓oBl, ↓oNeg, ↓oIx, atI_0, atI_1, ixN_20, ixN_21, ↓oLen, ↓oTuple, ↓oInt, ↓oMax, ↓oMin, ↓oCut, ↓oList, ↓tgN, ↓tgT, ↓setAll, ↓listAt, ↓Pk.putAt, ↓wipeS, ↓getAtI, ↓setAtI, ↓oIp, List.length_cons, List.length_nil, Bool.not_true, Bool.not_false, if_true, if_false, ite_true, ite_false, reduceIte, List.length_replicate, Nat.reduceSub, Nat.reduceAdd, Int.reduceLT, Int.reduceLE, Int.reduceNeg, Bool.false_eq_true, Bool.true_eq_false, true_and, and_true] | (refine And.intro ?pk1 ?_; (case pk1 => (first | assumption | decide | omega | exact ⟨by assumption, by omega⟩ | (constructor <;> first | assumption | decide | omega) | (simp [okMul]; done))))))
  refine while_I (k := n % 300000000 + 1) (fun k r S' => ∃ m acc, S' = S ∧ k = m + 1 ∧ m < 300000000 ∧ r = [.val (.int m), .val (.str "abcdefghijklmnopqrstuvwxyz"), .val (.str (strL acc))] ∧ wrd m ++ acc = wrd (n % 300000000)) ?_ ⟨n % 300000000, [], rfl, rfl, Nat.mod_lt _ (by decide), ?_, by simp⟩
  · rintro k r S' ⟨m, acc, rfl, rfl, hm, rfl, hw⟩
    have hacc : acc.length ≤ 6 := by
      have := wrd_len6 (Nat.mod_lt n (by decide : 0 < 300000000))
      rw [← hw, List.length_append] at this
      omega
    (repeat (first | (first | refine x_seq ?_ | refine x_set ?_ | refine x_own ?_ | refine x_asg ?_ | refine x_drop ?_ | refine x_ret ?_ | refine x_if ?_ | refine x_nil ?_ | refine x_for ?_ | refine x_augix ?_ | refine x_put ?_ | refine x_dnew ?_ | refine x_putd rfl ?_ | refine x_mt rfl ?_ | refine x_aug rfl ?_ | refine x_frz ?_ | refine x_ext rfl ?_ | refine x_ct ?_ | refine x_bk ?_ | refine x_retN ?_) | simp only [↓w_con, ↓w_var, ↓w_rd, ↓w_e1, ↓w_e2, ↓w_bin, ↓w_cmp, ↓w_ix, ↓w_neg, ↓w_not, ↓w_and, ↓w_or, ↓w_if, ↓w_args0, ↓w_args, ↓w_tup, ↓w_lst, ↓w_L, ↓w_cell, ↓w_call, ↓w_l1, ↓w_l2, ↓w_sortk, ↓w_str, ↓w_part0, ↓w_part, ↓w_cut, ↓w_lcut, ↓w_tval, ↓w_tcmp, ↓w_tnot, ↓w_tand, ↓w_tor, ↓w_tyes, ↓w_seq, ↓w_itB, ↓w_comp, ↓wO_some, ↓wO_none, ↓wO_bind, ↓wO_map, ↓wO_gd, List.map_cons, List.map_nil, List.cons_append, List.nil_append, List.replicate, List.getElem?_cons_zero, List.getElem?_cons_succ, List.set_cons_zero, List.set_cons_succ, der_non, der_bl, der_int, der_str, der_tup, der_lst, der_dct, der_ref, ↓oBin, ↓oAdd, ↓oSub, ↓oMul, ↓oMod, ↓oDiv, ↓oPow, ↓oCmp, ↓oTru, ↓oBl, ↓oNeg, ↓oIx, atI_0, atI_1, ixN_20, ixN_21, ↓oLen, ↓oTuple, ↓oInt, ↓oMax, ↓oMin, ↓oCut, ↓oList, ↓tgN, ↓tgT, ↓setAll, ↓listAt, ↓Pk.putAt, ↓wipeS, ↓getAtI, ↓setAtI, ↓oIp, List.length_cons, List.length_nil, Bool.not_true, Bool.not_false, if_true, if_false, ite_true, ite_false, reduceIte, List.length_replicate, Nat.reduceSub, Nat.reduceAdd, Int.reduceLT, Int.reduceLE, Int.reduceNeg, Bool.false_eq_true, Bool.true_eq_false, true_and, and_true] | (refine And.intro ?pk1 ?_; (case pk1 => (first | assumption | decide | omega | exact ⟨by assumption, by omega⟩ | (constructor <;> first | assumption | decide | omega) | (simp [okMul]; done))))))
    have e : atI (Str.ofString "abcdefghijklmnopqrstuvwxyz").cps.toList ((m : Int) % 26) = some (97 + m % 26) := by
      rw [letters_list, show ((m : Int) % 26) = ((m % 26 : Nat) : Int) by omega, atI_nat', List.getElem?_map, List.getElem?_range (Nat.mod_lt _ (by decide))]; rfl
    have es : ∀ c : Nat, (Str.mk #[c]) = strL [c] := fun _ => rfl
    have hz : (strL [97 + m % 26]).length + (strL acc).length ≤ sizeLine := by
      rw [strL_len, strL_len]
      have : 100 ≤ sizeLine := by decide
      simp only [List.length_singleton]
      omega
    (repeat (first | (first | refine x_seq ?_ | refine x_set ?_ | refine x_own ?_ | refine x_asg ?_ | refine x_drop ?_ | refine x_ret ?_ | refine x_if ?_ | refine x_nil ?_ | refine x_for ?_ | refine x_augix ?_ | refine x_put ?_ | refine x_dnew ?_ | refine x_putd rfl ?_ | refine x_mt rfl ?_ | refine x_aug rfl ?_ | refine x_frz ?_ | refine x_ext rfl ?_ | refine x_ct ?_ | refine x_bk ?_ | refine x_retN ?_) | simp only [↓w_con, ↓w_var, ↓w_rd, ↓w_e1, ↓w_e2, ↓w_bin, ↓w_cmp, ↓w_ix, ↓w_neg, ↓w_not, ↓w_and, ↓w_or, ↓w_if, ↓w_args0, ↓w_args, ↓w_tup, ↓w_lst, ↓w_L, ↓w_cell, ↓w_call, ↓w_l1, ↓w_l2, ↓w_sortk, ↓w_str, ↓w_part0, ↓w_part, ↓w_cut, ↓w_lcut, ↓w_tval, ↓w_tcmp, ↓w_tnot, ↓w_tand, ↓w_tor, ↓w_tyes, ↓w_seq, ↓w_itB, ↓w_comp, ↓wO_some, ↓wO_none, ↓wO_bind, ↓wO_map, ↓wO_gd, List.map_cons, List.map_nil, List.cons_append, List.nil_append, List.replicate, List.getElem?_cons_zero, List.getElem?_cons_succ, List.set_cons_zero, List.set_cons_succ, der_non, der_bl, der_int, der_str, der_tup, der_lst, der_dct, der_ref, ↓oBin, ↓oAdd, ↓oSub, ↓oMul, ↓oMod, ↓oDiv, ↓oPow, ↓oCmp, ↓oTru, ↓oBl, ↓oNeg, ↓oIx, atI_0, atI_1, ixN_20, ixN_21, ↓oLen, ↓oTuple, ↓oInt, ↓oMax, ↓oMin, ↓oCut, ↓oList, ↓tgN, ↓tgT, ↓setAll, ↓listAt, ↓Pk.putAt, ↓wipeS, ↓getAtI, ↓setAtI, ↓oIp, List.length_cons, List.length_nil, Bool.not_true, Bool.not_false, if_true, if_false, ite_true, ite_false, reduceIte, List.length_replicate, Nat.reduceSub, Nat.reduceAdd, Int.reduceLT, Int.reduceLE, Int.reduceNeg, Bool.false_eq_true, Bool.true_eq_false, true_and, and_true, e, es, strL_app, oLt] | (refine And.intro ?pk1 ?_; (case pk1 => (first | assumption | decide | omega | exact ⟨by assumption, by omega⟩ | (constructor <;> first | assumption | decide | omega) | (simp [okMul]; done))))))
    by_cases hm26 : m < 26
    · have h0 : (m : Int) / 26 - 1 < 0 := by omega
      simp only [h0, decide_true]
      (repeat (first | (first | refine x_seq ?_ | refine x_set ?_ | refine x_own ?_ | refine x_asg ?_ | refine x_drop ?_ | refine x_ret ?_ | refine x_if ?_ | refine x_nil ?_ | refine x_for ?_ | refine x_augix ?_ | refine x_put ?_ | refine x_dnew ?_ | refine x_putd rfl ?_ | refine x_mt rfl ?_ | refine x_aug rfl ?_ | refine x_frz ?_ | refine x_ext rfl ?_ | refine x_ct ?_ | refine x_bk ?_ | refine x_retN ?_) | simp only [↓w_con, ↓w_var, ↓w_rd, ↓w_e1, ↓w_e2, ↓w_bin, ↓w_cmp, ↓w_ix, ↓w_neg, ↓w_not, ↓w_and, ↓w_or, ↓w_if, ↓w_args0, ↓w_args, ↓w_tup, ↓w_lst, ↓w_L, ↓w_cell, ↓w_call, ↓w_l1, ↓w_l2, ↓w_sortk, ↓w_str, ↓w_part0, ↓w_part, ↓w_cut, ↓w_lcut, ↓w_tval, ↓w_tcmp, ↓w_tnot, ↓w_tand, ↓w_tor, ↓w_tyes, ↓w_seq, ↓w_itB, ↓w_comp, ↓wO_some, ↓wO_none, ↓wO_bind, ↓wO_map, ↓wO_gd, List.map_cons, List.map_nil, List.cons_append, List.nil_append, List.replicate, List.getElem?_cons_zero, List.getElem?_cons_succ, List.set_cons_zero, List.set_cons_succ, der_non, der_bl, der_int, der_str, der_tup, der_lst, der_dct, der_ref, ↓oBin, ↓oAdd, ↓oSub, ↓oMul, ↓oMod, ↓oDiv, ↓oPow, ↓oCmp, ↓oTru, ↓oBl, ↓oNeg, ↓oIx, atI_0, atI_1, ixN_20, ixN_21, ↓oLen, ↓oTuple, ↓oInt, ↓oMax, ↓oMin, ↓oCut, ↓oList, ↓tgN, ↓tgT, ↓setAll, ↓listAt, ↓Pk.putAt, ↓wipeS, ↓getAtI, ↓setAtI, ↓oIp, List.length_cons, List.length_nil, Bool.not_true, Bool.not_false, if_true, if_false, ite_true, ite_false, reduceIte, List.length_replicate, Nat.reduceSub, Nat.reduceAdd, Int.reduceLT, Int.reduceLE, Int.reduceNeg, Bool.false_eq_true, Bool.true_eq_false, true_and, and_true] | (refine And.intro ?pk1 ?_; (case pk1 => (first | assumption | decide | omega | exact ⟨by assumption, by omega⟩ | (constructor <;> first | assumption | decide | omega) | (simp [okMul]; done))))))
      rw [wrd_small hm26] at hw
      have hw : (97 + m) :: acc = wrd (n % 300000000) := hw
      rw [show 97 + m % 26 = 97 + m by omega, hw]
      simpa using q
    · have h0 : ¬ ((m : Int) / 26 - 1 < 0) := by omega
      simp only [h0, decide_false]
      (repeat (first | (first | refine x_seq ?_ | refine x_set ?_ | refine x_own ?_ | refine x_asg ?_ | refine x_drop ?_ | refine x_ret ?_ | refine x_if ?_ | refine x_nil ?_ | refine x_for ?_ | refine x_augix ?_ | refine x_put ?_ | refine x_dnew ?_ | refine x_putd rfl ?_ | refine x_mt rfl ?_ | refine x_aug rfl ?_ | refine x_frz ?_ | refine x_ext rfl ?_ | refine x_ct ?_ | refine x_bk ?_ | refine x_retN ?_) | simp only [↓w_con, ↓w_var, ↓w_rd, ↓w_e1, ↓w_e2, ↓w_bin, ↓w_cmp, ↓w_ix, ↓w_neg, ↓w_not, ↓w_and, ↓w_or, ↓w_if, ↓w_args0, ↓w_args, ↓w_tup, ↓w_lst, ↓w_L, ↓w_cell, ↓w_call, ↓w_l1, ↓w_l2, ↓w_sortk, ↓w_str, ↓w_part0, ↓w_part, ↓w_cut, ↓w_lcut, ↓w_tval, ↓w_tcmp, ↓w_tnot, ↓w_tand, ↓w_tor, ↓w_tyes, ↓w_seq, ↓w_itB, ↓w_comp, ↓wO_some, ↓wO_none, ↓wO_bind, ↓wO_map, ↓wO_gd, List.map_cons, List.map_nil, List.cons_append, List.nil_append, List.replicate, List.getElem?_cons_zero, List.getElem?_cons_succ, List.set_cons_zero, List.set_cons_succ, der_non, der_bl, der_int, der_str, der_tup, der_lst, der_dct, der_ref, ↓oBin, ↓oAdd, ↓oSub, ↓oMul, ↓oMod, ↓oDiv, ↓oPow, ↓oCmp, ↓oTru, ↓oBl, ↓oNeg, ↓oIx, atI_0, atI_1, ixN_20, ixN_21, ↓oLen, ↓oTuple, ↓oInt, ↓oMax, ↓oMin, ↓oCut, ↓oList, ↓tgN, ↓tgT, ↓setAll, ↓listAt, ↓Pk.putAt, ↓wipeS, ↓getAtI, ↓setAtI, ↓oIp, List.length_cons, List.length_nil, Bool.not_true, Bool.not_false, if_true, if_false, ite_true, ite_false, reduceIte, List.length_replicate, Nat.reduceSub, Nat.reduceAdd, Int.reduceLT, Int.reduceLE, Int.reduceNeg, Bool.false_eq_true, Bool.true_eq_false, true_and, and_true] | (refine And.intro ?pk1 ?_; (case pk1 => (first | assumption | decide | omega | exact ⟨by assumption, by omega⟩ | (constructor <;> first | assumption | decide | omega) | (simp [okMul]; done))))))
      refine ⟨m / 26 - 1 + 1, by omega, m / 26 - 1, (97 + m % 26) :: acc, rfl, rfl, by omega, ?_, ?_⟩
      · rw [show ((m / 26 - 1 : Nat) : Int) = (m : Int) / 26 - 1 by omega]
      · rw [wrd_big hm26] at hw
        rw [← hw]; simp
  · rw [show ((n % 300000000 : Nat) : Int) = (n : Int) % 300000000 by omega]; rfl
/-- a name as the laws draw them -/
def Nm (x : Str) : Prop := 0 < x.cps.toList.length ∧ x.cps.toList.length ≤ 6 ∧ ∀ c ∈ x.cps.toList, 97 ≤ c ∧ c < 123
theorem nm_wrd {n : Nat} (h : n < 300000000) : Nm (strL (wrd n)) := by
  unfold Nm
  rw [strL_list]
  exact ⟨wrd_pos n, wrd_len6 h, wrd_chars n⟩
def ownNames : List Str := ["things", "rule", "drop", "grow", "shrink", "begin", "end", "take", "back", "undo", "book", "bars", "least", "may", "taken", "hold", "rows", "row", "fewest", "ok"]
theorem own_nm : ∀ x ∈ ownNames, Nm x := by
  have : ∀ x ∈ ownNames, (decide (0 < x.cps.toList.length) && decide (x.cps.toList.length ≤ 6) && x.cps.toList.all fun c => decide (97 ≤ c) && decide (c < 123)) = true := by decide +kernel
  intro x hx
  have := this x hx
  simp only [Bool.and_eq_true, decide_eq_true_eq, List.all_eq_true] at this
  exact ⟨this.1.1, this.1.2, this.2⟩
@[irreducible] noncomputable def b_nl : Sx :=
  (sSeq (sOwn 3 (lLst []))
  (sSeq (sWhile (tCmp .Lt (e1 oLen (eRd 3)) (eRd 1))
    (sSeq (sSet 4 (eCall g_law_next [(eVar 0), (eCon (.int 3))]))
    (sSeq (sIf (tCmp .Eq (eRd 4) (eCon (.int 0)))
      (sSet 5 (eIx (eRd 2) (eCall g_law_next [(eVar 0), (e1 oLen (eRd 2))])))
      (sSet 5 (eCall g_law_word [(eCall g_law_next [(eVar 0), (eIx (eL (lLst [(eCon (.int 30)), (eCon (.int 300000000))])) (eBin .Sub (eRd 4) (eCon (.int 1))))])])))
    (sSeq (sSet 6 (eCon (.int 0)))
    (sSeq (sWhile (tCmp .In (eRd 5) (eRd 3))
      (sSeq (sSet 5 (eCall g_law_word [(eVar 6)]))
      (sAug 6 .Add (eCon (.int 1)))))
    (sMt 3 mAppend [(eVar 5)]))))))
  (sRet (eRd 3))))
noncomputable def b_law_namesB : Sx :=
  (sSeq (sSet 2 (eL (l2 oSplit (eStr (eCon (.str "things rule drop grow shrink begin end take back undo book bars"))) (eCon (.str " ")))))
  (sSeq (sSet 2 (eBin .Add (eRd 2) (eL (l2 oSplit (eStr (eCon (.str "least may taken hold rows row fewest ok"))) (eCon (.str " "))))))
  b_nl))
noncomputable def g_law_namesB : List D → M D := fnOf 7 2 b_law_namesB
theorem split_own1 : oSplit (.str "things rule drop grow shrink begin end take back undo book bars") (.str " ") = some ((ownNames.take 12).map D.str) := by kernel_rfl
theorem split_own2 : oSplit (.str "least may taken hold rows row fewest ok") (.str " ") = some ((ownNames.drop 12).map D.str) := by kernel_rfl
/-- what is handed back: names, no two alike -/
def Nms (m : Nat) (ws : List Str) : Prop := ws.length = m ∧ ws.Nodup ∧ ∀ x ∈ ws, Nm x
theorem nodup_len {α : Type} [DecidableEq α] : ∀ {l m : List α}, l.Nodup → (∀ x ∈ l, x ∈ m) → l.length ≤ m.length
  | [], m, _, _ => Nat.zero_le _
  | a :: l, m, h, hs => by
    have ha := hs a List.mem_cons_self
    obtain ⟨h1, h2⟩ := List.nodup_cons.mp h
    have := nodup_len (m := m.erase a) h2 fun x hx => (List.mem_erase_of_ne (fun z => h1 (by rw [← z]; exact hx))).mpr (hs x (List.mem_cons_of_mem _ hx))
    rw [List.length_erase_of_mem ha] at this
    have := List.length_pos_of_mem ha
    simp only [List.length_cons]
    omega
theorem dedup_w {ws : List Str} (hl : ws.length ≤ 1000) {x : Str} (hx : Nm x) {S : Store} {R : SO → Prop} {s0 s1 s2 s4 : Slot} (q : ∀ y j, Nm y → y ∉ ws → R (.nx [s0, s1, s2, .own (ws.map D.str), s4, .val (.str y), .val (.int j)] S)) :
    wS (sWhile (tCmp CmpOp.In (eRd 5) (eRd 3)) (sSeq (sSet 5 (eCall g_law_word [eVar 6])) (sAug 6 Operator.Add (eCon (D.int 1)))) [s0, s1, s2, .own (ws.map D.str), s4, .val (.str x), .val (.int 0)] S) R := by
  refine while_I (k := ws.length + 1) (fun k r S' => ∃ (j : Nat) (y : Str), k + j = ws.length + 1 ∧ r = [s0, s1, s2, .own (ws.map D.str), s4, .val (.str y), .val (.int j)] ∧ Nm y ∧ (∀ i, i + 1 < j → strL (wrd i) ∈ ws) ∧ (0 < j → y = strL (wrd (j - 1))) ∧ S' = S) ?_ ⟨0, x, by simp, rfl, hx, (fun i h => by omega), (fun h => by omega), rfl⟩
  rintro k r S' ⟨j, y, hk, rfl, hy, hi, hj, rfl⟩
  (repeat (first | (first | refine x_seq ?_ | refine x_set ?_ | refine x_own ?_ | refine x_asg ?_ | refine x_drop ?_ | refine x_ret ?_ | refine x_if ?_ | refine x_nil ?_ | refine x_for ?_ | refine x_augix ?_ | refine x_put ?_ | refine x_dnew ?_ | refine x_putd rfl ?_ | refine x_mt rfl ?_ | refine x_aug rfl ?_ | refine x_frz ?_ | refine x_ext rfl ?_ | refine x_ct ?_ | refine x_bk ?_ | refine x_retN ?_) | simp only [↓w_con, ↓w_var, ↓w_rd, ↓w_e1, ↓w_e2, ↓w_bin, ↓w_cmp, ↓w_ix, ↓w_neg, ↓w_not, ↓w_and, ↓w_or, ↓w_if, ↓w_args0, ↓w_args, ↓w_tup, ↓w_lst, ↓w_L, ↓w_cell, ↓w_call, ↓w_l1, ↓w_l2, ↓w_sortk, ↓w_str, ↓w_part0, ↓w_part, ↓w_cut, ↓w_lcut, ↓w_tval, ↓w_tcmp, ↓w_tnot, ↓w_tand, ↓w_tor, ↓w_tyes, ↓w_seq, ↓w_itB, ↓w_comp, ↓wO_some, ↓wO_none, ↓wO_bind, ↓wO_map, ↓wO_gd, List.map_cons, List.map_nil, List.cons_append, List.nil_append, List.replicate, List.getElem?_cons_zero, List.getElem?_cons_succ, List.set_cons_zero, List.set_cons_succ, der_non, der_bl, der_int, der_str, der_tup, der_lst, der_dct, der_ref, ↓oBin, ↓oAdd, ↓oSub, ↓oMul, ↓oMod, ↓oDiv, ↓oPow, ↓oCmp, ↓oTru, ↓oBl, ↓oNeg, ↓oIx, atI_0, atI_1, ixN_20, ixN_21, ↓oLen, ↓oTuple, ↓oInt, ↓oMax, ↓oMin, ↓oCut, ↓oList, ↓tgN, ↓tgT, ↓setAll, ↓listAt, ↓Pk.putAt, ↓wipeS, ↓getAtI, ↓setAtI, ↓oIp, List.length_cons, List.length_nil, Bool.not_true, Bool.not_false, if_true, if_false, ite_true, ite_false, reduceIte, List.length_replicate, Nat.reduceSub, Nat.reduceAdd, Int.reduceLT, Int.reduceLE, Int.reduceNeg, Bool.false_eq_true, Bool.true_eq_false, true_and, and_true, oIn_lst (e := D.str) em_str (by decide)] | (refine And.intro ?pk1 ?_; (case pk1 => (first | assumption | decide | omega | exact ⟨by assumption, by omega⟩ | (constructor <;> first | assumption | decide | omega) | (simp [okMul]; done))))))
  by_cases hin : y ∈ ws
  · have hjl : j ≤ ws.length := by
      have := nodup_len (l := (List.range j).map fun i => strL (wrd i)) (m := ws) (by
        refine List.Pairwise.map _ (fun a b (h : a ≠ b) z => h ?_) List.nodup_range
        have := congrArg (fun s => s.cps.toList) z
        simp only [strL_list] at this
        exact wrd_inj this) (fun w hw => by
        obtain ⟨i, hi', rfl⟩ := List.mem_map.mp hw
        have hi' := List.mem_range.mp hi'
        by_cases h : i + 1 < j
        · exact hi i h
        · have : i = j - 1 := by omega
          rw [this, ← hj (by omega)]
          exact hin)
      simpa using this
    simp only [hin, decide_true]
    (repeat (first | (first | refine x_seq ?_ | refine x_set ?_ | refine x_own ?_ | refine x_asg ?_ | refine x_drop ?_ | refine x_ret ?_ | refine x_if ?_ | refine x_nil ?_ | refine x_for ?_ | refine x_augix ?_ | refine x_put ?_ | refine x_dnew ?_ | refine x_putd rfl ?_ | refine x_mt rfl ?_ | refine x_aug rfl ?_ | refine x_frz ?_ | refine x_ext rfl ?_ | refine x_ct ?_ | refine x_bk ?_ | refine x_retN ?_) | simp only [↓w_con, ↓w_var, ↓w_rd, ↓w_e1, ↓w_e2, ↓w_bin, ↓w_cmp, ↓w_ix, ↓w_neg, ↓w_not, ↓w_and, ↓w_or, ↓w_if, ↓w_args0, ↓w_args, ↓w_tup, ↓w_lst, ↓w_L, ↓w_cell, ↓w_call, ↓w_l1, ↓w_l2, ↓w_sortk, ↓w_str, ↓w_part0, ↓w_part, ↓w_cut, ↓w_lcut, ↓w_tval, ↓w_tcmp, ↓w_tnot, ↓w_tand, ↓w_tor, ↓w_tyes, ↓w_seq, ↓w_itB, ↓w_comp, ↓wO_some, ↓wO_none, ↓wO_bind, ↓wO_map, ↓wO_gd, List.map_cons, List.map_nil, List.cons_append, List.nil_append, List.replicate, List.getElem?_cons_zero, List.getElem?_cons_succ, List.set_cons_zero, List.set_cons_succ, der_non, der_bl, der_int, der_str, der_tup, der_lst, der_dct, der_ref, ↓oBin, ↓oAdd, ↓oSub, ↓oMul, ↓oMod, ↓oDiv, ↓oPow, ↓oCmp, ↓oTru, ↓oBl, ↓oNeg, ↓oIx, atI_0, atI_1, ixN_20, ixN_21, ↓oLen, ↓oTuple, ↓oInt, ↓oMax, ↓oMin, ↓oCut, ↓oList, ↓tgN, ↓tgT, ↓setAll, ↓listAt, ↓Pk.putAt, ↓wipeS, ↓getAtI, ↓setAtI, ↓oIp, List.length_cons, List.length_nil, Bool.not_true, Bool.not_false, if_true, if_false, ite_true, ite_false, reduceIte, List.length_replicate, Nat.reduceSub, Nat.reduceAdd, Int.reduceLT, Int.reduceLE, Int.reduceNeg, Bool.false_eq_true, Bool.true_eq_false, true_and, and_true] | (refine And.intro ?pk1 ?_; (case pk1 => (first | assumption | decide | omega | exact ⟨by assumption, by omega⟩ | (constructor <;> first | assumption | decide | omega) | (simp [okMul]; done))))))
    refine word_w (Int.natCast_nonneg j) ?_
    (repeat (first | (first | refine x_seq ?_ | refine x_set ?_ | refine x_own ?_ | refine x_asg ?_ | refine x_drop ?_ | refine x_ret ?_ | refine x_if ?_ | refine x_nil ?_ | refine x_for ?_ | refine x_augix ?_ | refine x_put ?_ | refine x_dnew ?_ | refine x_putd rfl ?_ | refine x_mt rfl ?_ | refine x_aug rfl ?_ | refine x_frz ?_ | refine x_ext rfl ?_ | refine x_ct ?_ | refine x_bk ?_ | refine x_retN ?_) | simp only [↓w_con, ↓w_var, ↓w_rd, ↓w_e1, ↓w_e2, ↓w_bin, ↓w_cmp, ↓w_ix, ↓w_neg, ↓w_not, ↓w_and, ↓w_or, ↓w_if, ↓w_args0, ↓w_args, ↓w_tup, ↓w_lst, ↓w_L, ↓w_cell, ↓w_call, ↓w_l1, ↓w_l2, ↓w_sortk, ↓w_str, ↓w_part0, ↓w_part, ↓w_cut, ↓w_lcut, ↓w_tval, ↓w_tcmp, ↓w_tnot, ↓w_tand, ↓w_tor, ↓w_tyes, ↓w_seq, ↓w_itB, ↓w_comp, ↓wO_some, ↓wO_none, ↓wO_bind, ↓wO_map, ↓wO_gd, List.map_cons, List.map_nil, List.cons_append, List.nil_append, List.replicate, List.getElem?_cons_zero, List.getElem?_cons_succ, List.set_cons_zero, List.set_cons_succ, der_non, der_bl, der_int, der_str, der_tup, der_lst, der_dct, der_ref, ↓oBin, ↓oAdd, ↓oSub, ↓oMul, ↓oMod, ↓oDiv, ↓oPow, ↓oCmp, ↓oTru, ↓oBl, ↓oNeg, ↓oIx, atI_0, atI_1, ixN_20, ixN_21, ↓oLen, ↓oTuple, ↓oInt, ↓oMax, ↓oMin, ↓oCut, ↓oList, ↓tgN, ↓tgT, ↓setAll, ↓listAt, ↓Pk.putAt, ↓wipeS, ↓getAtI, ↓setAtI, ↓oIp, List.length_cons, List.length_nil, Bool.not_true, Bool.not_false, if_true, if_false, ite_true, ite_false, reduceIte, List.length_replicate, Nat.reduceSub, Nat.reduceAdd, Int.reduceLT, Int.reduceLE, Int.reduceNeg, Bool.false_eq_true, Bool.true_eq_false, true_and, and_true] | (refine And.intro ?pk1 ?_; (case pk1 => (first | assumption | decide | omega | exact ⟨by assumption, by omega⟩ | (constructor <;> first | assumption | decide | omega) | (simp [okMul]; done))))))
    refine ⟨k - 1, by omega, j + 1, strL (wrd j), by omega, ?_, nm_wrd (by omega), fun i h => ?_, fun _ => rfl, rfl⟩
    · rw [show ((j : Int)).toNat % 300000000 = j by omega]; rfl
    · by_cases h2 : i + 1 < j
      · exact hi i h2
      · have : i = j - 1 := by omega
        rw [this, ← hj (by omega)]
        exact hin
  · simp only [hin, decide_false]
    (repeat (first | (first | refine x_seq ?_ | refine x_set ?_ | refine x_own ?_ | refine x_asg ?_ | refine x_drop ?_ | refine x_ret ?_ | refine x_if ?_ | refine x_nil ?_ | refine x_for ?_ | refine x_augix ?_ | refine x_put ?_ | refine x_dnew ?_ | refine x_putd rfl ?_ | refine x_mt rfl ?_ | refine x_aug rfl ?_ | refine x_frz ?_ | refine x_ext rfl ?_ | refine x_ct ?_ | refine x_bk ?_ | refine x_retN ?_) | simp only [↓w_con, ↓w_var, ↓w_rd, ↓w_e1, ↓w_e2, ↓w_bin, ↓w_cmp, ↓w_ix, ↓w_neg, ↓w_not, ↓w_and, ↓w_or, ↓w_if, ↓w_args0, ↓w_args, ↓w_tup, ↓w_lst, ↓w_L, ↓w_cell, ↓w_call, ↓w_l1, ↓w_l2, ↓w_sortk, ↓w_str, ↓w_part0, ↓w_part, ↓w_cut, ↓w_lcut, ↓w_tval, ↓w_tcmp, ↓w_tnot, ↓w_tand, ↓w_tor, ↓w_tyes, ↓w_seq, ↓w_itB, ↓w_comp, ↓wO_some, ↓wO_none, ↓wO_bind, ↓wO_map, ↓wO_gd, List.map_cons, List.map_nil, List.cons_append, List.nil_append, List.replicate, List.getElem?_cons_zero, List.getElem?_cons_succ, List.set_cons_zero, List.set_cons_succ, der_non, der_bl, der_int, der_str, der_tup, der_lst, der_dct, der_ref, ↓oBin, ↓oAdd, ↓oSub, ↓oMul, ↓oMod, ↓oDiv, ↓oPow, ↓oCmp, ↓oTru, ↓oBl, ↓oNeg, ↓oIx, atI_0, atI_1, ixN_20, ixN_21, ↓oLen, ↓oTuple, ↓oInt, ↓oMax, ↓oMin, ↓oCut, ↓oList, ↓tgN, ↓tgT, ↓setAll, ↓listAt, ↓Pk.putAt, ↓wipeS, ↓getAtI, ↓setAtI, ↓oIp, List.length_cons, List.length_nil, Bool.not_true, Bool.not_false, if_true, if_false, ite_true, ite_false, reduceIte, List.length_replicate, Nat.reduceSub, Nat.reduceAdd, Int.reduceLT, Int.reduceLE, Int.reduceNeg, Bool.false_eq_true, Bool.true_eq_false, true_and, and_true] | (refine And.intro ?pk1 ?_; (case pk1 => (first | assumption | decide | omega | exact ⟨by assumption, by omega⟩ | (constructor <;> first | assumption | decide | omega) | (simp [okMul]; done))))))
    exact q y j hy hin
set_option maxHeartbeats 0 in
theorem nl_w {n m : Nat} (hm : m ≤ 1000) {S : Store} (hd : Drw S n) {R : SO → Prop} {s3 s4 s5 s6 : Slot} (q : ∀ ws S', Nms m ws → Fr n S S' → R (.rt (.lst (ws.map D.str)) S')) : wS (b_nl [.val (.ref n), .val (.int m), .val (.lst (ownNames.map D.str)), s3, s4, s5, s6] S) R := by
  unfold b_nl
  (repeat (first | (first | refine x_seq ?_ | refine x_set ?_ | refine x_own ?_ | refine x_asg ?_ | refine x_drop ?_ | refine x_ret ?_ | refine x_if ?_ | refine x_nil ?_ | refine x_for ?_ | refine x_augix ?_ | refine x_put ?_ | refine x_dnew ?_ | refine x_putd rfl ?_ | refine x_mt rfl ?_ | refine x_aug rfl ?_ | refine x_frz ?_ | refine x_ext rfl ?_ | refine x_ct ?_ | refine x_bk ?_ | refine x_retN ?_) | simp only [↓w_con, ↓w_var, ↓w_rd, ↓w_e1, ↓w_e2, ↓w_bin, ↓w_cmp, ↓w_ix, ↓w_neg, ↓w_not, ↓w_and, ↓w_or, ↓w_if, ↓w_args0, ↓w_args, ↓w_tup, ↓w_lst, ↓w_L, ↓w_cell, ↓w_call, ↓w_l1, ↓w_l2, ↓w_sortk, ↓w_str, ↓w_part0, ↓w_part, ↓w_cut, ↓w_lcut, ↓w_tval, ↓w_tcmp, ↓w_tnot, ↓w_tand, ↓w_tor, ↓w_tyes, ↓w_seq, ↓w_itB, ↓w_comp, ↓wO_some, ↓wO_none, ↓wO_bind, ↓wO_map, ↓wO_gd, List.map_cons, List.map_nil, List.cons_append, List.nil_append, List.replicate, List.getElem?_cons_zero, List.getElem?_cons_succ, List.set_cons_zero, List.set_cons_succ, der_non, der_bl, der_int, der_str, der_tup, der_lst, der_dct, der_ref, ↓oBin, ↓oAdd, ↓oSub, ↓oMul, ↓oMod, ↓oDiv, ↓oPow, ↓oCmp, ↓oTru, ↓oBl, ↓oNeg, ↓oIx, atI_0, atI_1, ixN_20, ixN_21, ↓oLen, ↓oTuple, ↓oInt, ↓oMax, ↓oMin, ↓oCut, ↓oList, ↓tgN, ↓tgT, ↓setAll, ↓listAt, ↓Pk.putAt, ↓wipeS, ↓getAtI, ↓setAtI, ↓oIp, List.length_cons, List.length_nil, Bool.not_true, Bool.not_false, if_true, if_false, ite_true, ite_false, reduceIte, List.length_replicate, Nat.reduceSub, Nat.reduceAdd, Int.reduceLT, Int.reduceLE, Int.reduceNeg, Bool.false_eq_true, Bool.true_eq_false, true_and, and_true] | (refine And.intro ?pk1 ?_; (case pk1 => (first | assumption | decide | omega | exact ⟨by assumption, by omega⟩ | (constructor <;> first | assumption | decide | omega) | (simp [okMul]; done))))))
  refine while_I (k := m) (fun k r S' => ∃ ws s4 s5 s6, r = [.val (.ref n), .val (.int m), .val (.lst (ownNames.map D.str)), .own (ws.map D.str), s4, s5, s6] ∧ Nms ws.length ws ∧ ws.length + k = m ∧ Fr n S S') ?_ ⟨[], s4, s5, s6, rfl, ⟨rfl, List.nodup_nil, fun x h => by cases h⟩, by simp, Fr.refl hd⟩
  rintro k r S1 ⟨ws, s4, s5, s6, rfl, hws, hk, fr⟩
  have hzl : 2000 ≤ sizeLine := by decide
  (repeat (first | (first | refine x_seq ?_ | refine x_set ?_ | refine x_own ?_ | refine x_asg ?_ | refine x_drop ?_ | refine x_ret ?_ | refine x_if ?_ | refine x_nil ?_ | refine x_for ?_ | refine x_augix ?_ | refine x_put ?_ | refine x_dnew ?_ | refine x_putd rfl ?_ | refine x_mt rfl ?_ | refine x_aug rfl ?_ | refine x_frz ?_ | refine x_ext rfl ?_ | refine x_ct ?_ | refine x_bk ?_ | refine x_retN ?_) | simp only [↓w_con, ↓w_var, ↓w_rd, ↓w_e1, ↓w_e2, ↓w_bin, ↓w_cmp, ↓w_ix, ↓w_neg, ↓w_not, ↓w_and, ↓w_or, ↓w_if, ↓w_args0, ↓w_args, ↓w_tup, ↓w_lst, ↓w_L, ↓w_cell, ↓w_call, ↓w_l1, ↓w_l2, ↓w_sortk, ↓w_str, ↓w_part0, ↓w_part, ↓w_cut, ↓w_lcut, ↓w_tval, ↓w_tcmp, ↓w_tnot, ↓w_tand, ↓w_tor, ↓w_tyes, ↓w_seq, ↓w_itB, ↓w_comp, ↓wO_some, ↓wO_none, ↓wO_bind, ↓wO_map, ↓wO_gd, List.map_cons, List.map_nil, List.cons_append, List.nil_append, List.replicate, List.getElem?_cons_zero, List.getElem?_cons_succ, List.set_cons_zero, List.set_cons_succ, der_non, der_bl, der_int, der_str, der_tup, der_lst, der_dct, der_ref, ↓oBin, ↓oAdd, ↓oSub, ↓oMul, ↓oMod, ↓oDiv, ↓oPow, ↓oCmp, ↓oTru, ↓oBl, ↓oNeg, ↓oIx, atI_0, atI_1, ixN_20, ixN_21, ↓oLen, ↓oTuple, ↓oInt, ↓oMax, ↓oMin, ↓oCut, ↓oList, ↓tgN, ↓tgT, ↓setAll, ↓listAt, ↓Pk.putAt, ↓wipeS, ↓getAtI, ↓setAtI, ↓oIp, List.length_cons, List.length_nil, Bool.not_true, Bool.not_false, if_true, if_false, ite_true, ite_false, reduceIte, List.length_replicate, Nat.reduceSub, Nat.reduceAdd, Int.reduceLT, Int.reduceLE, Int.reduceNeg, Bool.false_eq_true, Bool.true_eq_false, true_and, and_true, oLt, List.length_map] | (refine And.intro ?pk1 ?_; (case pk1 => (first | assumption | decide | omega | exact ⟨by assumption, by omega⟩ | (constructor <;> first | assumption | decide | omega) | (simp [okMul]; done))))))
  by_cases hlt : ws.length < m
  · have hlt' : (ws.length : Int) < m := by omega
    simp only [hlt', decide_true]
    (repeat (first | (first | refine x_seq ?_ | refine x_set ?_ | refine x_own ?_ | refine x_asg ?_ | refine x_drop ?_ | refine x_ret ?_ | refine x_if ?_ | refine x_nil ?_ | refine x_for ?_ | refine x_augix ?_ | refine x_put ?_ | refine x_dnew ?_ | refine x_putd rfl ?_ | refine x_mt rfl ?_ | refine x_aug rfl ?_ | refine x_frz ?_ | refine x_ext rfl ?_ | refine x_ct ?_ | refine x_bk ?_ | refine x_retN ?_) | simp only [↓w_con, ↓w_var, ↓w_rd, ↓w_e1, ↓w_e2, ↓w_bin, ↓w_cmp, ↓w_ix, ↓w_neg, ↓w_not, ↓w_and, ↓w_or, ↓w_if, ↓w_args0, ↓w_args, ↓w_tup, ↓w_lst, ↓w_L, ↓w_cell, ↓w_call, ↓w_l1, ↓w_l2, ↓w_sortk, ↓w_str, ↓w_part0, ↓w_part, ↓w_cut, ↓w_lcut, ↓w_tval, ↓w_tcmp, ↓w_tnot, ↓w_tand, ↓w_tor, ↓w_tyes, ↓w_seq, ↓w_itB, ↓w_comp, ↓wO_some, ↓wO_none, ↓wO_bind, ↓wO_map, ↓wO_gd, List.map_cons, List.map_nil, List.cons_append, List.nil_append, List.replicate, List.getElem?_cons_zero, List.getElem?_cons_succ, List.set_cons_zero, List.set_cons_succ, der_non, der_bl, der_int, der_str, der_tup, der_lst, der_dct, der_ref, ↓oBin, ↓oAdd, ↓oSub, ↓oMul, ↓oMod, ↓oDiv, ↓oPow, ↓oCmp, ↓oTru, ↓oBl, ↓oNeg, ↓oIx, atI_0, atI_1, ixN_20, ixN_21, ↓oLen, ↓oTuple, ↓oInt, ↓oMax, ↓oMin, ↓oCut, ↓oList, ↓tgN, ↓tgT, ↓setAll, ↓listAt, ↓Pk.putAt, ↓wipeS, ↓getAtI, ↓setAtI, ↓oIp, List.length_cons, List.length_nil, Bool.not_true, Bool.not_false, if_true, if_false, ite_true, ite_false, reduceIte, List.length_replicate, Nat.reduceSub, Nat.reduceAdd, Int.reduceLT, Int.reduceLE, Int.reduceNeg, Bool.false_eq_true, Bool.true_eq_false, true_and, and_true] | (refine And.intro ?pk1 ?_; (case pk1 => (first | assumption | decide | omega | exact ⟨by assumption, by omega⟩ | (constructor <;> first | assumption | decide | omega) | (simp [okMul]; done))))))
    refine next_w fr.d (by decide) (by decide) fun t S2 ht0 ht fr2 => ?_
    (repeat (first | (first | refine x_seq ?_ | refine x_set ?_ | refine x_own ?_ | refine x_asg ?_ | refine x_drop ?_ | refine x_ret ?_ | refine x_if ?_ | refine x_nil ?_ | refine x_for ?_ | refine x_augix ?_ | refine x_put ?_ | refine x_dnew ?_ | refine x_putd rfl ?_ | refine x_mt rfl ?_ | refine x_aug rfl ?_ | refine x_frz ?_ | refine x_ext rfl ?_ | refine x_ct ?_ | refine x_bk ?_ | refine x_retN ?_) | simp only [↓w_con, ↓w_var, ↓w_rd, ↓w_e1, ↓w_e2, ↓w_bin, ↓w_cmp, ↓w_ix, ↓w_neg, ↓w_not, ↓w_and, ↓w_or, ↓w_if, ↓w_args0, ↓w_args, ↓w_tup, ↓w_lst, ↓w_L, ↓w_cell, ↓w_call, ↓w_l1, ↓w_l2, ↓w_sortk, ↓w_str, ↓w_part0, ↓w_part, ↓w_cut, ↓w_lcut, ↓w_tval, ↓w_tcmp, ↓w_tnot, ↓w_tand, ↓w_tor, ↓w_tyes, ↓w_seq, ↓w_itB, ↓w_comp, ↓wO_some, ↓wO_none, ↓wO_bind, ↓wO_map, ↓wO_gd, List.map_cons, List.map_nil, List.cons_append, List.nil_append, List.replicate, List.getElem?_cons_zero, List.getElem?_cons_succ, List.set_cons_zero, List.set_cons_succ, der_non, der_bl, der_int, der_str, der_tup, der_lst, der_dct, der_ref, ↓oBin, ↓oAdd, ↓oSub, ↓oMul, ↓oMod, ↓oDiv, ↓oPow, ↓oCmp, ↓oTru, ↓oBl, ↓oNeg, ↓oIx, atI_0, atI_1, ixN_20, ixN_21, ↓oLen, ↓oTuple, ↓oInt, ↓oMax, ↓oMin, ↓oCut, ↓oList, ↓tgN, ↓tgT, ↓setAll, ↓listAt, ↓Pk.putAt, ↓wipeS, ↓getAtI, ↓setAtI, ↓oIp, List.length_cons, List.length_nil, Bool.not_true, Bool.not_false, if_true, if_false, ite_true, ite_false, reduceIte, List.length_replicate, Nat.reduceSub, Nat.reduceAdd, Int.reduceLT, Int.reduceLE, Int.reduceNeg, Bool.false_eq_true, Bool.true_eq_false, true_and, and_true, oEq_em em_int (by decide)] | (refine And.intro ?pk1 ?_; (case pk1 => (first | assumption | decide | omega | exact ⟨by assumption, by omega⟩ | (constructor <;> first | assumption | decide | omega) | (simp [okMul]; done))))))
    by_cases ht1 : t = 0
    · simp only [ht1, decide_true]
      (repeat (first | (first | refine x_seq ?_ | refine x_set ?_ | refine x_own ?_ | refine x_asg ?_ | refine x_drop ?_ | refine x_ret ?_ | refine x_if ?_ | refine x_nil ?_ | refine x_for ?_ | refine x_augix ?_ | refine x_put ?_ | refine x_dnew ?_ | refine x_putd rfl ?_ | refine x_mt rfl ?_ | refine x_aug rfl ?_ | refine x_frz ?_ | refine x_ext rfl ?_ | refine x_ct ?_ | refine x_bk ?_ | refine x_retN ?_) | simp only [↓w_con, ↓w_var, ↓w_rd, ↓w_e1, ↓w_e2, ↓w_bin, ↓w_cmp, ↓w_ix, ↓w_neg, ↓w_not, ↓w_and, ↓w_or, ↓w_if, ↓w_args0, ↓w_args, ↓w_tup, ↓w_lst, ↓w_L, ↓w_cell, ↓w_call, ↓w_l1, ↓w_l2, ↓w_sortk, ↓w_str, ↓w_part0, ↓w_part, ↓w_cut, ↓w_lcut, ↓w_tval, ↓w_tcmp, ↓w_tnot, ↓w_tand, ↓w_tor, ↓w_tyes, ↓w_seq, ↓w_itB, ↓w_comp, ↓wO_some, ↓wO_none, ↓wO_bind, ↓wO_map, ↓wO_gd, List.map_cons, List.map_nil, List.cons_append, List.nil_append, List.replicate, List.getElem?_cons_zero, List.getElem?_cons_succ, List.set_cons_zero, List.set_cons_succ, der_non, der_bl, der_int, der_str, der_tup, der_lst, der_dct, der_ref, ↓oBin, ↓oAdd, ↓oSub, ↓oMul, ↓oMod, ↓oDiv, ↓oPow, ↓oCmp, ↓oTru, ↓oBl, ↓oNeg, ↓oIx, atI_0, atI_1, ixN_20, ixN_21, ↓oLen, ↓oTuple, ↓oInt, ↓oMax, ↓oMin, ↓oCut, ↓oList, ↓tgN, ↓tgT, ↓setAll, ↓listAt, ↓Pk.putAt, ↓wipeS, ↓getAtI, ↓setAtI, ↓oIp, List.length_cons, List.length_nil, Bool.not_true, Bool.not_false, if_true, if_false, ite_true, ite_false, reduceIte, List.length_replicate, Nat.reduceSub, Nat.reduceAdd, Int.reduceLT, Int.reduceLE, Int.reduceNeg, Bool.false_eq_true, Bool.true_eq_false, true_and, and_true, List.length_map] | (refine And.intro ?pk1 ?_; (case pk1 => (first | assumption | decide | omega | exact ⟨by assumption, by omega⟩ | (constructor <;> first | assumption | decide | omega) | (simp [okMul]; done))))))
      refine next_w fr2.d (by decide) (by decide) fun t2 S3 h0 h1 fr3 => ?_
      obtain ⟨x, e, hx⟩ := atI_some h0 h1
      (repeat (first | (first | refine x_seq ?_ | refine x_set ?_ | refine x_own ?_ | refine x_asg ?_ | refine x_drop ?_ | refine x_ret ?_ | refine x_if ?_ | refine x_nil ?_ | refine x_for ?_ | refine x_augix ?_ | refine x_put ?_ | refine x_dnew ?_ | refine x_putd rfl ?_ | refine x_mt rfl ?_ | refine x_aug rfl ?_ | refine x_frz ?_ | refine x_ext rfl ?_ | refine x_ct ?_ | refine x_bk ?_ | refine x_retN ?_) | simp only [↓w_con, ↓w_var, ↓w_rd, ↓w_e1, ↓w_e2, ↓w_bin, ↓w_cmp, ↓w_ix, ↓w_neg, ↓w_not, ↓w_and, ↓w_or, ↓w_if, ↓w_args0, ↓w_args, ↓w_tup, ↓w_lst, ↓w_L, ↓w_cell, ↓w_call, ↓w_l1, ↓w_l2, ↓w_sortk, ↓w_str, ↓w_part0, ↓w_part, ↓w_cut, ↓w_lcut, ↓w_tval, ↓w_tcmp, ↓w_tnot, ↓w_tand, ↓w_tor, ↓w_tyes, ↓w_seq, ↓w_itB, ↓w_comp, ↓wO_some, ↓wO_none, ↓wO_bind, ↓wO_map, ↓wO_gd, List.map_cons, List.map_nil, List.cons_append, List.nil_append, List.replicate, List.getElem?_cons_zero, List.getElem?_cons_succ, List.set_cons_zero, List.set_cons_succ, der_non, der_bl, der_int, der_str, der_tup, der_lst, der_dct, der_ref, ↓oBin, ↓oAdd, ↓oSub, ↓oMul, ↓oMod, ↓oDiv, ↓oPow, ↓oCmp, ↓oTru, ↓oBl, ↓oNeg, ↓oIx, atI_0, atI_1, ixN_20, ixN_21, ↓oLen, ↓oTuple, ↓oInt, ↓oMax, ↓oMin, ↓oCut, ↓oList, ↓tgN, ↓tgT, ↓setAll, ↓listAt, ↓Pk.putAt, ↓wipeS, ↓getAtI, ↓setAtI, ↓oIp, List.length_cons, List.length_nil, Bool.not_true, Bool.not_false, if_true, if_false, ite_true, ite_false, reduceIte, List.length_replicate, Nat.reduceSub, Nat.reduceAdd, Int.reduceLT, Int.reduceLE, Int.reduceNeg, Bool.false_eq_true, Bool.true_eq_false, true_and, and_true, atI_map, e, Option.map_some] | (refine And.intro ?pk1 ?_; (case pk1 => (first | assumption | decide | omega | exact ⟨by assumption, by omega⟩ | (constructor <;> first | assumption | decide | omega) | (simp [okMul]; done))))))
      refine dedup_w (by omega) (own_nm x hx) fun y j hy hyn => ?_
      (repeat (first | (first | refine x_seq ?_ | refine x_set ?_ | refine x_own ?_ | refine x_asg ?_ | refine x_drop ?_ | refine x_ret ?_ | refine x_if ?_ | refine x_nil ?_ | refine x_for ?_ | refine x_augix ?_ | refine x_put ?_ | refine x_dnew ?_ | refine x_putd rfl ?_ | refine x_mt rfl ?_ | refine x_aug rfl ?_ | refine x_frz ?_ | refine x_ext rfl ?_ | refine x_ct ?_ | refine x_bk ?_ | refine x_retN ?_) | simp only [↓w_con, ↓w_var, ↓w_rd, ↓w_e1, ↓w_e2, ↓w_bin, ↓w_cmp, ↓w_ix, ↓w_neg, ↓w_not, ↓w_and, ↓w_or, ↓w_if, ↓w_args0, ↓w_args, ↓w_tup, ↓w_lst, ↓w_L, ↓w_cell, ↓w_call, ↓w_l1, ↓w_l2, ↓w_sortk, ↓w_str, ↓w_part0, ↓w_part, ↓w_cut, ↓w_lcut, ↓w_tval, ↓w_tcmp, ↓w_tnot, ↓w_tand, ↓w_tor, ↓w_tyes, ↓w_seq, ↓w_itB, ↓w_comp, ↓wO_some, ↓wO_none, ↓wO_bind, ↓wO_map, ↓wO_gd, List.map_cons, List.map_nil, List.cons_append, List.nil_append, List.replicate, List.getElem?_cons_zero, List.getElem?_cons_succ, List.set_cons_zero, List.set_cons_succ, der_non, der_bl, der_int, der_str, der_tup, der_lst, der_dct, der_ref, ↓oBin, ↓oAdd, ↓oSub, ↓oMul, ↓oMod, ↓oDiv, ↓oPow, ↓oCmp, ↓oTru, ↓oBl, ↓oNeg, ↓oIx, atI_0, atI_1, ixN_20, ixN_21, ↓oLen, ↓oTuple, ↓oInt, ↓oMax, ↓oMin, ↓oCut, ↓oList, ↓tgN, ↓tgT, ↓setAll, ↓listAt, ↓Pk.putAt, ↓wipeS, ↓getAtI, ↓setAtI, ↓oIp, List.length_cons, List.length_nil, Bool.not_true, Bool.not_false, if_true, if_false, ite_true, ite_false, reduceIte, List.length_replicate, Nat.reduceSub, Nat.reduceAdd, Int.reduceLT, Int.reduceLE, Int.reduceNeg, Bool.false_eq_true, Bool.true_eq_false, true_and, and_true, mAppend, List.length_map] | (refine And.intro ?pk1 ?_; (case pk1 => (first | assumption | decide | omega | exact ⟨by assumption, by omega⟩ | (constructor <;> first | assumption | decide | omega) | (simp [okMul]; done))))))
      refine ⟨k - 1, by omega, ws ++ [y], _, _, _, by rw [List.map_append]; rfl, ⟨rfl, ?_, ?_⟩, by simp; omega, (fr.trans fr2).trans fr3⟩
      · exact List.nodup_append.mpr ⟨hws.2.1, by simp, fun a ha b hb z => by simp at hb; subst hb; subst z; exact hyn ha⟩
      · intro z hz
        rcases List.mem_append.mp hz with hz | hz
        · exact hws.2.2 z hz
        · simp at hz; subst hz; exact hy
    · simp only [ht1, decide_false]
      (repeat (first | (first | refine x_seq ?_ | refine x_set ?_ | refine x_own ?_ | refine x_asg ?_ | refine x_drop ?_ | refine x_ret ?_ | refine x_if ?_ | refine x_nil ?_ | refine x_for ?_ | refine x_augix ?_ | refine x_put ?_ | refine x_dnew ?_ | refine x_putd rfl ?_ | refine x_mt rfl ?_ | refine x_aug rfl ?_ | refine x_frz ?_ | refine x_ext rfl ?_ | refine x_ct ?_ | refine x_bk ?_ | refine x_retN ?_) | simp only [↓w_con, ↓w_var, ↓w_rd, ↓w_e1, ↓w_e2, ↓w_bin, ↓w_cmp, ↓w_ix, ↓w_neg, ↓w_not, ↓w_and, ↓w_or, ↓w_if, ↓w_args0, ↓w_args, ↓w_tup, ↓w_lst, ↓w_L, ↓w_cell, ↓w_call, ↓w_l1, ↓w_l2, ↓w_sortk, ↓w_str, ↓w_part0, ↓w_part, ↓w_cut, ↓w_lcut, ↓w_tval, ↓w_tcmp, ↓w_tnot, ↓w_tand, ↓w_tor, ↓w_tyes, ↓w_seq, ↓w_itB, ↓w_comp, ↓wO_some, ↓wO_none, ↓wO_bind, ↓wO_map, ↓wO_gd, List.map_cons, List.map_nil, List.cons_append, List.nil_append, List.replicate, List.getElem?_cons_zero, List.getElem?_cons_succ, List.set_cons_zero, List.set_cons_succ, der_non, der_bl, der_int, der_str, der_tup, der_lst, der_dct, der_ref, ↓oBin, ↓oAdd, ↓oSub, ↓oMul, ↓oMod, ↓oDiv, ↓oPow, ↓oCmp, ↓oTru, ↓oBl, ↓oNeg, ↓oIx, atI_0, atI_1, ixN_20, ixN_21, ↓oLen, ↓oTuple, ↓oInt, ↓oMax, ↓oMin, ↓oCut, ↓oList, ↓tgN, ↓tgT, ↓setAll, ↓listAt, ↓Pk.putAt, ↓wipeS, ↓getAtI, ↓setAtI, ↓oIp, List.length_cons, List.length_nil, Bool.not_true, Bool.not_false, if_true, if_false, ite_true, ite_false, reduceIte, List.length_replicate, Nat.reduceSub, Nat.reduceAdd, Int.reduceLT, Int.reduceLE, Int.reduceNeg, Bool.false_eq_true, Bool.true_eq_false, true_and, and_true] | (refine And.intro ?pk1 ?_; (case pk1 => (first | assumption | decide | omega | exact ⟨by assumption, by omega⟩ | (constructor <;> first | assumption | decide | omega) | (simp [okMul]; done))))))
      have ha : ∃ v : Int, atI [D.int 30, D.int 300000000] (t - 1) = some (.int v) ∧ 0 < v ∧ v < 2 ^ 30 := by
        have : t = 1 ∨ t = 2 := by omega
        rcases this with rfl | rfl
        · exact ⟨30, rfl, by decide, by decide⟩
        · exact ⟨300000000, rfl, by decide, by decide⟩
      obtain ⟨v, ev, hv0, hv1⟩ := ha
      (repeat (first | (first | refine x_seq ?_ | refine x_set ?_ | refine x_own ?_ | refine x_asg ?_ | refine x_drop ?_ | refine x_ret ?_ | refine x_if ?_ | refine x_nil ?_ | refine x_for ?_ | refine x_augix ?_ | refine x_put ?_ | refine x_dnew ?_ | refine x_putd rfl ?_ | refine x_mt rfl ?_ | refine x_aug rfl ?_ | refine x_frz ?_ | refine x_ext rfl ?_ | refine x_ct ?_ | refine x_bk ?_ | refine x_retN ?_) | simp only [↓w_con, ↓w_var, ↓w_rd, ↓w_e1, ↓w_e2, ↓w_bin, ↓w_cmp, ↓w_ix, ↓w_neg, ↓w_not, ↓w_and, ↓w_or, ↓w_if, ↓w_args0, ↓w_args, ↓w_tup, ↓w_lst, ↓w_L, ↓w_cell, ↓w_call, ↓w_l1, ↓w_l2, ↓w_sortk, ↓w_str, ↓w_part0, ↓w_part, ↓w_cut, ↓w_lcut, ↓w_tval, ↓w_tcmp, ↓w_tnot, ↓w_tand, ↓w_tor, ↓w_tyes, ↓w_seq, ↓w_itB, ↓w_comp, ↓wO_some, ↓wO_none, ↓wO_bind, ↓wO_map, ↓wO_gd, List.map_cons, List.map_nil, List.cons_append, List.nil_append, List.replicate, List.getElem?_cons_zero, List.getElem?_cons_succ, List.set_cons_zero, List.set_cons_succ, der_non, der_bl, der_int, der_str, der_tup, der_lst, der_dct, der_ref, ↓oBin, ↓oAdd, ↓oSub, ↓oMul, ↓oMod, ↓oDiv, ↓oPow, ↓oCmp, ↓oTru, ↓oBl, ↓oNeg, ↓oIx, atI_0, atI_1, ixN_20, ixN_21, ↓oLen, ↓oTuple, ↓oInt, ↓oMax, ↓oMin, ↓oCut, ↓oList, ↓tgN, ↓tgT, ↓setAll, ↓listAt, ↓Pk.putAt, ↓wipeS, ↓getAtI, ↓setAtI, ↓oIp, List.length_cons, List.length_nil, Bool.not_true, Bool.not_false, if_true, if_false, ite_true, ite_false, reduceIte, List.length_replicate, Nat.reduceSub, Nat.reduceAdd, Int.reduceLT, Int.reduceLE, Int.reduceNeg, Bool.false_eq_true, Bool.true_eq_false, true_and, and_true, ev] | (refine And.intro ?pk1 ?_; (case pk1 => (first | assumption | decide | omega | exact ⟨by assumption, by omega⟩ | (constructor <;> first | assumption | decide | omega) | (simp [okMul]; done))))))
      refine next_w fr2.d hv0 hv1 fun t2 S3 h0 h1 fr3 => ?_
      (repeat (first | (first | refine x_seq ?_ | refine x_set ?_ | refine x_own ?_ | refine x_asg ?_ | refine x_drop ?_ | refine x_ret ?_ | refine x_if ?_ | refine x_nil ?_ | refine x_for ?_ | refine x_augix ?_ | refine x_put ?_ | refine x_dnew ?_ | refine x_putd rfl ?_ | refine x_mt rfl ?_ | refine x_aug rfl ?_ | refine x_frz ?_ | refine x_ext rfl ?_ | refine x_ct ?_ | refine x_bk ?_ | refine x_retN ?_) | simp only [↓w_con, ↓w_var, ↓w_rd, ↓w_e1, ↓w_e2, ↓w_bin, ↓w_cmp, ↓w_ix, ↓w_neg, ↓w_not, ↓w_and, ↓w_or, ↓w_if, ↓w_args0, ↓w_args, ↓w_tup, ↓w_lst, ↓w_L, ↓w_cell, ↓w_call, ↓w_l1, ↓w_l2, ↓w_sortk, ↓w_str, ↓w_part0, ↓w_part, ↓w_cut, ↓w_lcut, ↓w_tval, ↓w_tcmp, ↓w_tnot, ↓w_tand, ↓w_tor, ↓w_tyes, ↓w_seq, ↓w_itB, ↓w_comp, ↓wO_some, ↓wO_none, ↓wO_bind, ↓wO_map, ↓wO_gd, List.map_cons, List.map_nil, List.cons_append, List.nil_append, List.replicate, List.getElem?_cons_zero, List.getElem?_cons_succ, List.set_cons_zero, List.set_cons_succ, der_non, der_bl, der_int, der_str, der_tup, der_lst, der_dct, der_ref, ↓oBin, ↓oAdd, ↓oSub, ↓oMul, ↓oMod, ↓oDiv, ↓oPow, ↓oCmp, ↓oTru, ↓oBl, ↓oNeg, ↓oIx, atI_0, atI_1, ixN_20, ixN_21, ↓oLen, ↓oTuple, ↓oInt, ↓oMax, ↓oMin, ↓oCut, ↓oList, ↓tgN, ↓tgT, ↓setAll, ↓listAt, ↓Pk.putAt, ↓wipeS, ↓getAtI, ↓setAtI, ↓oIp, List.length_cons, List.length_nil, Bool.not_true, Bool.not_false, if_true, if_false, ite_true, ite_false, reduceIte, List.length_replicate, Nat.reduceSub, Nat.reduceAdd, Int.reduceLT, Int.reduceLE, Int.reduceNeg, Bool.false_eq_true, Bool.true_eq_false, true_and, and_true] | (refine And.intro ?pk1 ?_; (case pk1 => (first | assumption | decide | omega | exact ⟨by assumption, by omega⟩ | (constructor <;> first | assumption | decide | omega) | (simp [okMul]; done))))))
      refine word_w h0 ?_
      (repeat (first | (first | refine x_seq ?_ | refine x_set ?_ | refine x_own ?_ | refine x_asg ?_ | refine x_drop ?_ | refine x_ret ?_ | refine x_if ?_ | refine x_nil ?_ | refine x_for ?_ | refine x_augix ?_ | refine x_put ?_ | refine x_dnew ?_ | refine x_putd rfl ?_ | refine x_mt rfl ?_ | refine x_aug rfl ?_ | refine x_frz ?_ | refine x_ext rfl ?_ | refine x_ct ?_ | refine x_bk ?_ | refine x_retN ?_) | simp only [↓w_con, ↓w_var, ↓w_rd, ↓w_e1, ↓w_e2, ↓w_bin, ↓w_cmp, ↓w_ix, ↓w_neg, ↓w_not, ↓w_and, ↓w_or, ↓w_if, ↓w_args0, ↓w_args, ↓w_tup, ↓w_lst, ↓w_L, ↓w_cell, ↓w_call, ↓w_l1, ↓w_l2, ↓w_sortk, ↓w_str, ↓w_part0, ↓w_part, ↓w_cut, ↓w_lcut, ↓w_tval, ↓w_tcmp, ↓w_tnot, ↓w_tand, ↓w_tor, ↓w_tyes, ↓w_seq, ↓w_itB, ↓w_comp, ↓wO_some, ↓wO_none, ↓wO_bind, ↓wO_map, ↓wO_gd, List.map_cons, List.map_nil, List.cons_append, List.nil_append, List.replicate, List.getElem?_cons_zero, List.getElem?_cons_succ, List.set_cons_zero, List.set_cons_succ, der_non, der_bl, der_int, der_str, der_tup, der_lst, der_dct, der_ref, ↓oBin, ↓oAdd, ↓oSub, ↓oMul, ↓oMod, ↓oDiv, ↓oPow, ↓oCmp, ↓oTru, ↓oBl, ↓oNeg, ↓oIx, atI_0, atI_1, ixN_20, ixN_21, ↓oLen, ↓oTuple, ↓oInt, ↓oMax, ↓oMin, ↓oCut, ↓oList, ↓tgN, ↓tgT, ↓setAll, ↓listAt, ↓Pk.putAt, ↓wipeS, ↓getAtI, ↓setAtI, ↓oIp, List.length_cons, List.length_nil, Bool.not_true, Bool.not_false, if_true, if_false, ite_true, ite_false, reduceIte, List.length_replicate, Nat.reduceSub, Nat.reduceAdd, Int.reduceLT, Int.reduceLE, Int.reduceNeg, Bool.false_eq_true, Bool.true_eq_false, true_and, and_true] | (refine And.intro ?pk1 ?_; (case pk1 => (first | assumption | decide | omega | exact ⟨by assumption, by omega⟩ | (constructor <;> first | assumption | decide | omega) | (simp [okMul]; done))))))
      refine dedup_w (by omega) (nm_wrd (Nat.mod_lt _ (by decide))) fun y j hy hyn => ?_
      (repeat (first | (first | refine x_seq ?_ | refine x_set ?_ | refine x_own ?_ | refine x_asg ?_ | refine x_drop ?_ | refine x_ret ?_ | refine x_if ?_ | refine x_nil ?_ | refine x_for ?_ | refine x_augix ?_ | refine x_put ?_ | refine x_dnew ?_ | refine x_putd rfl ?_ | refine x_mt rfl ?_ | refine x_aug rfl ?_ | refine x_frz ?_ | refine x_ext rfl ?_ | refine x_ct ?_ | refine x_bk ?_ | refine x_retN ?_) | simp only [↓w_con, ↓w_var, ↓w_rd, ↓w_e1, ↓w_e2, ↓w_bin, ↓w_cmp, ↓w_ix, ↓w_neg, ↓w_not, ↓w_and, ↓w_or, ↓w_if, ↓w_args0, ↓w_args, ↓w_tup, ↓w_lst, ↓w_L, ↓w_cell, ↓w_call, ↓w_l1, ↓w_l2, ↓w_sortk, ↓w_str, ↓w_part0, ↓w_part, ↓w_cut, ↓w_lcut, ↓w_tval, ↓w_tcmp, ↓w_tnot, ↓w_tand, ↓w_tor, ↓w_tyes, ↓w_seq, ↓w_itB, ↓w_comp, ↓wO_some, ↓wO_none, ↓wO_bind, ↓wO_map, ↓wO_gd, List.map_cons, List.map_nil, List.cons_append, List.nil_append, List.replicate, List.getElem?_cons_zero, List.getElem?_cons_succ, List.set_cons_zero, List.set_cons_succ, der_non, der_bl, der_int, der_str, der_tup, der_lst, der_dct, der_ref, ↓oBin, ↓oAdd, ↓oSub, ↓oMul, ↓oMod, ↓oDiv, ↓oPow, ↓oCmp, ↓oTru, ↓oBl, ↓oNeg, ↓oIx, atI_0, atI_1, ixN_20, ixN_21, ↓oLen, ↓oTuple, ↓oInt, ↓oMax, ↓oMin, ↓oCut, ↓oList, ↓tgN, ↓tgT, ↓setAll, ↓listAt, ↓Pk.putAt, ↓wipeS, ↓getAtI, ↓setAtI, ↓oIp, List.length_cons, List.length_nil, Bool.not_true, Bool.not_false, if_true, if_false, ite_true, ite_false, reduceIte, List.length_replicate, Nat.reduceSub, Nat.reduceAdd, Int.reduceLT, Int.reduceLE, Int.reduceNeg, Bool.false_eq_true, Bool.true_eq_false, true_and, and_true, mAppend, List.length_map] | (refine And.intro ?pk1 ?_; (case pk1 => (first | assumption | decide | omega | exact ⟨by assumption, by omega⟩ | (constructor <;> first | assumption | decide | omega) | (simp [okMul]; done))))))
      refine ⟨k - 1, by omega, ws ++ [y], _, _, _, by rw [List.map_append]; rfl, ⟨rfl, ?_, ?_⟩, by simp; omega, (fr.trans fr2).trans fr3⟩
      · exact List.nodup_append.mpr ⟨hws.2.1, by simp, fun a ha b hb z => by simp at hb; subst hb; subst z; exact hyn ha⟩
      · intro z hz
        rcases List.mem_append.mp hz with hz | hz
        · exact hws.2.2 z hz
        · simp at hz; subst hz; exact hy
  · have hlt' : ¬ ((ws.length : Int) < m) := by omega
    simp only [hlt', decide_false]
    (repeat (first | (first | refine x_seq ?_ | refine x_set ?_ | refine x_own ?_ | refine x_asg ?_ | refine x_drop ?_ | refine x_ret ?_ | refine x_if ?_ | refine x_nil ?_ | refine x_for ?_ | refine x_augix ?_ | refine x_put ?_ | refine x_dnew ?_ | refine x_putd rfl ?_ | refine x_mt rfl ?_ | refine x_aug rfl ?_ | refine x_frz ?_ | refine x_ext rfl ?_ | refine x_ct ?_ | refine x_bk ?_ | refine x_retN ?_) | simp only [↓w_con, ↓w_var, ↓w_rd, ↓w_e1, ↓w_e2, ↓w_bin, ↓w_cmp, ↓w_ix, ↓w_neg, ↓w_not, ↓w_and, ↓w_or, ↓w_if, ↓w_args0, ↓w_args, ↓w_tup, ↓w_lst, ↓w_L, ↓w_cell, ↓w_call, ↓w_l1, ↓w_l2, ↓w_sortk, ↓w_str, ↓w_part0, ↓w_part, ↓w_cut, ↓w_lcut, ↓w_tval, ↓w_tcmp, ↓w_tnot, ↓w_tand, ↓w_tor, ↓w_tyes, ↓w_seq, ↓w_itB, ↓w_comp, ↓wO_some, ↓wO_none, ↓wO_bind, ↓wO_map, ↓wO_gd, List.map_cons, List.map_nil, List.cons_append, List.nil_append, List.replicate, List.getElem?_cons_zero, List.getElem?_cons_succ, List.set_cons_zero, List.set_cons_succ, der_non, der_bl, der_int, der_str, der_tup, der_lst, der_dct, der_ref, ↓oBin, ↓oAdd, ↓oSub, ↓oMul, ↓oMod, ↓oDiv, ↓oPow, ↓oCmp, ↓oTru, ↓oBl, ↓oNeg, ↓oIx, atI_0, atI_1, ixN_20, ixN_21, ↓oLen, ↓oTuple, ↓oInt, ↓oMax, ↓oMin, ↓oCut, ↓oList, ↓tgN, ↓tgT, ↓setAll, ↓listAt, ↓Pk.putAt, ↓wipeS, ↓getAtI, ↓setAtI, ↓oIp, List.length_cons, List.length_nil, Bool.not_true, Bool.not_false, if_true, if_false, ite_true, ite_false, reduceIte, List.length_replicate, Nat.reduceSub, Nat.reduceAdd, Int.reduceLT, Int.reduceLE, Int.reduceNeg, Bool.false_eq_true, Bool.true_eq_false, true_and, and_true] | (refine And.intro ?pk1 ?_; (case pk1 => (first | assumption | decide | omega | exact ⟨by assumption, by omega⟩ | (constructor <;> first | assumption | decide | omega) | (simp [okMul]; done))))))
    have : ws.length = m := by omega
    exact q ws S1 (by rw [← this]; exact hws) fr
theorem namesB_w {n m : Nat} (hm : m ≤ 1000) {S : Store} (hd : Drw S n) {Q : D → Store → Prop} (q : ∀ ws S', Nms m ws → Fr n S S' → Q (.lst (ws.map D.str)) S') : wE (g_law_namesB [.ref n, .int m] S) Q := by
  refine w_fn rfl ?_
  unfold b_law_namesB
  (repeat (first | (first | refine x_seq ?_ | refine x_set ?_ | refine x_own ?_ | refine x_asg ?_ | refine x_drop ?_ | refine x_ret ?_ | refine x_if ?_ | refine x_nil ?_ | refine x_for ?_ | refine x_augix ?_ | refine x_put ?_ | refine x_dnew ?_ | refine x_putd rfl ?_ | refine x_mt rfl ?_ | refine x_aug rfl ?_ | refine x_frz ?_ | refine x_ext rfl ?_ | refine x_ct ?_ | refine x_bk ?_ | refine x_retN ?_) | simp only [↓w_con, ↓w_var, ↓w_rd, ↓w_e1, ↓w_e2, ↓w_bin, ↓w_cmp, ↓w_ix, ↓w_neg, ↓w_not, ↓w_and, ↓w_or, ↓w_if, ↓w_args0, ↓w_args, ↓w_tup, ↓w_lst, ↓w_L, ↓w_cell, ↓w_call, ↓w_l1, ↓w_l2, ↓w_sortk, ↓w_str, ↓w_part0, ↓w_part, ↓w_cut, ↓w_lcut, ↓w_tval, ↓w_tcmp, ↓w_tnot, ↓w_tand, ↓w_tor, ↓w_tyes, ↓w_seq, ↓w_itB, ↓w_comp, ↓wO_some, ↓wO_none, ↓wO_bind, ↓wO_map, ↓wO_gd, List.map_cons, List.map_nil, List.cons_append, List.nil_append, List.replicate, List.getElem?_cons_zero, List.getElem?_cons_succ, List.set_cons_zero, List.set_cons_succ, der_non, der_bl, der_int, der_str, der_tup, der_lst, der_dct, der_ref, ↓oBin, ↓oAdd, ↓oSub, ↓oMul, ↓oMod, ↓oDiv, ↓oPow, ↓oCmp, ↓oTru, ↓oBl, ↓oNeg, ↓oIx, atI_0, atI_1, ixN_20, ixN_21, ↓oLen, ↓oTuple, ↓oInt, ↓oMax, ↓oMin, ↓oCut, ↓oList, ↓tgN, ↓tgT, ↓setAll, ↓listAt, ↓Pk.putAt, ↓wipeS, ↓getAtI, ↓setAtI, ↓oIp, List.length_cons, List.length_nil, Bool.not_true, Bool.not_false, if_true, if_false, ite_true, ite_false, reduceIte, List.length_replicate, Nat.reduceSub, Nat.reduceAdd, Int.reduceLT, Int.reduceLE, Int.reduceNeg, Bool.false_eq_true, Bool.true_eq_false, true_and, and_true, split_own1, split_own2] | (refine And.intro ?pk1 ?_; (case pk1 => (first | assumption | decide | omega | exact ⟨by assumption, by omega⟩ | (constructor <;> first | assumption | decide | omega) | (simp [okMul]; done))))))
  refine nl_w hm hd ?_
  exact q
end Pk
namespace Pk
open PySem PySem.Spec PyProof.Rows L2
noncomputable def b_rises : Sx :=
  (sRet (e1 oAll (eL (lComp [1, 2] (itB oZip [(eVar 0), (eCut (eRd 0) (some (eCon (.int 1))) none)]) (tgT [1, 2]) tYes (eCmp .Lt (eRd 1) (eRd 2))))))
noncomputable def g_rises : List D → M D := fnOf 3 1 b_rises
noncomputable def b_is_set : Sx :=
  (sSeq (sIf (tOr (tNot (tVal (e1 (oIsT "tuple") (eRd 0)))) (tNot (tVal (e1 oAll (eL (lComp [2] (itSeq (eRd 0)) (tgN 2) tYes (eAnd (e1 (oIsT "str") (eRd 2)) (eCmp .In (eRd 2) (eRd 1)))))))))
    (sRet (eCon (.bl false)))
    sNil)
  (sRet (eCall g_rises [(eVar 0)])))
noncomputable def g_is_set : List D → M D := fnOf 3 2 b_is_set
noncomputable def b_can : Sx :=
  (sRet (eAnd (eCall g_is_set [(eVar 1), (eIx (eRd 0) (eCon (.int 0)))]) (eCmp .In (eRd 1) (eIx (eRd 0) (eCon (.int 1))))))
noncomputable def g_can : List D → M D := fnOf 2 2 b_can
noncomputable def b_need_taken : Sx :=
  (sIf (tNot (tVal (eCall g_can [(eVar 0), (eVar 1)])))
    sNo
    sNil)
noncomputable def g_need_taken : List D → M D := fnOf 2 2 b_need_taken
noncomputable def b_law_meet : Sx :=
  (sRet (e1 oAny (eL (lComp [2] (itSeq (eRd 0)) (tgN 2) tYes (eCmp .In (eRd 2) (eRd 1))))))
noncomputable def g_law_meet : List D → M D := fnOf 3 2 b_law_meet

theorem isT_tup (l : List D) : oIsT "tuple" (.tup l) = some (.bl true) := rfl
theorem isT_str (x : Str) : oIsT "str" (.str x) = some (.bl true) := rfl
theorem isT_lst (l : List D) : oIsT "list" (.lst l) = some (.bl true) := rfl
theorem bls_map {α : Type} (f : α → Bool) (l : List α) : blsOf (l.map fun x => D.bl (f x)) = some (l.map f) := by
  induction l with
  | nil => rfl
  | cons x l ih => simp [blsOf, ih]
theorem oAll_map {α : Type} (f : α → Bool) (l : List α) : oAll (.lst (l.map fun x => D.bl (f x))) = some (.bl (l.all f)) := by
  unfold oAll
  simp only [bls_map, Option.map_some]
  rw [List.all_map]; rfl
theorem oAny_map {α : Type} (f : α → Bool) (l : List α) : oAny (.lst (l.map fun x => D.bl (f x))) = some (.bl (l.any f)) := by
  unfold oAny
  simp only [bls_map, Option.map_some]
  rw [List.any_map]; rfl
/-- a set of names as the program holds it -/
abbrev dT (l : List Str) : D := .tup (l.map D.str)
theorem em_T : Em 1 dT := em_tup em_str
def less (l : List Str) (x : Str) : List Str := l.filter fun y => !decide (y = x)
theorem cut1 {α : Type} (l : List α) : cutD l (some 1) none = l.drop 1 := by
  unfold cutD
  rw [show HT.sIx l.length 0 (some 1) = min 1 l.length from HT.sIx_nat l.length 0 1, HT.sIx_none]
  cases l with
  | nil => rfl
  | cons a l => simp
theorem rises_w {l : List Str} (h : Rises l) {S : Store} {Q : D → Store → Prop} (q : Q (.bl true) S) : wE (g_rises [dT l] S) Q := by
  refine w_fn rfl ?_
  unfold b_rises
  (repeat (first | (first | refine x_seq ?_ | refine x_set ?_ | refine x_own ?_ | refine x_asg ?_ | refine x_drop ?_ | refine x_ret ?_ | refine x_if ?_ | refine x_nil ?_ | refine x_for ?_ | refine x_augix ?_ | refine x_put ?_ | refine x_dnew ?_ | refine x_putd rfl ?_ | refine x_mt rfl ?_ | refine x_aug rfl ?_ | refine x_frz ?_ | refine x_ext rfl ?_ | refine x_ct ?_ | refine x_bk ?_ | refine x_retN ?_) | simp only [↓w_con, ↓w_var, ↓w_rd, ↓w_e1, ↓w_e2, ↓w_bin, ↓w_cmp, ↓w_ix, ↓w_neg, ↓w_not, ↓w_and, ↓w_or, ↓w_if, ↓w_args0, ↓w_args, ↓w_tup, ↓w_lst, ↓w_L, ↓w_cell, ↓w_call, ↓w_l1, ↓w_l2, ↓w_sortk, ↓w_str, ↓w_part0, ↓w_part, ↓w_cut, ↓w_lcut, ↓w_tval, ↓w_tcmp, ↓w_tnot, ↓w_tand, ↓w_tor, ↓w_tyes, ↓w_seq, ↓w_itB, ↓w_comp, ↓wO_some, ↓wO_none, ↓wO_bind, ↓wO_map, ↓wO_gd, List.map_cons, List.map_nil, List.cons_append, List.nil_append, List.replicate, List.getElem?_cons_zero, List.getElem?_cons_succ, List.set_cons_zero, List.set_cons_succ, der_non, der_bl, der_int, der_str, der_tup, der_lst, der_dct, der_ref, ↓oBin, ↓oAdd, ↓oSub, ↓oMul, ↓oMod, ↓oDiv, ↓oPow, ↓oCmp, ↓oTru, ↓oBl, ↓oNeg, ↓oIx, atI_0, atI_1, ixN_20, ixN_21, ↓oLen, ↓oTuple, ↓oInt, ↓oMax, ↓oMin, ↓oCut, ↓oList, ↓tgN, ↓tgT, ↓setAll, ↓listAt, ↓Pk.putAt, ↓wipeS, ↓getAtI, ↓setAtI, ↓oIp, List.length_cons, List.length_nil, Bool.not_true, Bool.not_false, if_true, if_false, ite_true, ite_false, reduceIte, List.length_replicate, Nat.reduceSub, Nat.reduceAdd, Int.reduceLT, Int.reduceLE, Int.reduceNeg, Bool.false_eq_true, Bool.true_eq_false, true_and, and_true, cut1, oZip] | (refine And.intro ?pk1 ?_; (case pk1 => (first | assumption | decide | omega | exact ⟨by assumption, by omega⟩ | (constructor <;> first | assumption | decide | omega) | (simp [okMul]; done))))))
  have e : (((l.map D.str).zip ((l.map D.str).drop 1)).map fun p => D.tup [p.1, p.2]) = (l.zip (l.drop 1)).map fun p => D.tup [.str p.1, .str p.2] := by
    rw [← List.map_drop, List.zip_map, List.map_map]; rfl
  rw [e]
  refine compD_all (fun p : Str × Str => D.tup [.str p.1, .str p.2]) (fun p => .bl (decide (ltS p.1 p.2))) (fun p hp => ?_) ?_
  · (repeat (first | (first | refine x_seq ?_ | refine x_set ?_ | refine x_own ?_ | refine x_asg ?_ | refine x_drop ?_ | refine x_ret ?_ | refine x_if ?_ | refine x_nil ?_ | refine x_for ?_ | refine x_augix ?_ | refine x_put ?_ | refine x_dnew ?_ | refine x_putd rfl ?_ | refine x_mt rfl ?_ | refine x_aug rfl ?_ | refine x_frz ?_ | refine x_ext rfl ?_ | refine x_ct ?_ | refine x_bk ?_ | refine x_retN ?_) | simp only [↓w_con, ↓w_var, ↓w_rd, ↓w_e1, ↓w_e2, ↓w_bin, ↓w_cmp, ↓w_ix, ↓w_neg, ↓w_not, ↓w_and, ↓w_or, ↓w_if, ↓w_args0, ↓w_args, ↓w_tup, ↓w_lst, ↓w_L, ↓w_cell, ↓w_call, ↓w_l1, ↓w_l2, ↓w_sortk, ↓w_str, ↓w_part0, ↓w_part, ↓w_cut, ↓w_lcut, ↓w_tval, ↓w_tcmp, ↓w_tnot, ↓w_tand, ↓w_tor, ↓w_tyes, ↓w_seq, ↓w_itB, ↓w_comp, ↓wO_some, ↓wO_none, ↓wO_bind, ↓wO_map, ↓wO_gd, List.map_cons, List.map_nil, List.cons_append, List.nil_append, List.replicate, List.getElem?_cons_zero, List.getElem?_cons_succ, List.set_cons_zero, List.set_cons_succ, der_non, der_bl, der_int, der_str, der_tup, der_lst, der_dct, der_ref, ↓oBin, ↓oAdd, ↓oSub, ↓oMul, ↓oMod, ↓oDiv, ↓oPow, ↓oCmp, ↓oTru, ↓oBl, ↓oNeg, ↓oIx, atI_0, atI_1, ixN_20, ixN_21, ↓oLen, ↓oTuple, ↓oInt, ↓oMax, ↓oMin, ↓oCut, ↓oList, ↓tgN, ↓tgT, ↓setAll, ↓listAt, ↓Pk.putAt, ↓wipeS, ↓getAtI, ↓setAtI, ↓oIp, List.length_cons, List.length_nil, Bool.not_true, Bool.not_false, if_true, if_false, ite_true, ite_false, reduceIte, List.length_replicate, Nat.reduceSub, Nat.reduceAdd, Int.reduceLT, Int.reduceLE, Int.reduceNeg, Bool.false_eq_true, Bool.true_eq_false, true_and, and_true, oLt] | (refine And.intro ?pk1 ?_; (case pk1 => (first | assumption | decide | omega | exact ⟨by assumption, by omega⟩ | (constructor <;> first | assumption | decide | omega) | (simp [okMul]; done))))))
    try exact ⟨rfl, rfl⟩
    try rfl
  · (repeat (first | (first | refine x_seq ?_ | refine x_set ?_ | refine x_own ?_ | refine x_asg ?_ | refine x_drop ?_ | refine x_ret ?_ | refine x_if ?_ | refine x_nil ?_ | refine x_for ?_ | refine x_augix ?_ | refine x_put ?_ | refine x_dnew ?_ | refine x_putd rfl ?_ | refine x_mt rfl ?_ | refine x_aug rfl ?_ | refine x_frz ?_ | refine x_ext rfl ?_ | refine x_ct ?_ | refine x_bk ?_ | refine x_retN ?_) | simp only [↓w_con, ↓w_var, ↓w_rd, ↓w_e1, ↓w_e2, ↓w_bin, ↓w_cmp, ↓w_ix, ↓w_neg, ↓w_not, ↓w_and, ↓w_or, ↓w_if, ↓w_args0, ↓w_args, ↓w_tup, ↓w_lst, ↓w_L, ↓w_cell, ↓w_call, ↓w_l1, ↓w_l2, ↓w_sortk, ↓w_str, ↓w_part0, ↓w_part, ↓w_cut, ↓w_lcut, ↓w_tval, ↓w_tcmp, ↓w_tnot, ↓w_tand, ↓w_tor, ↓w_tyes, ↓w_seq, ↓w_itB, ↓w_comp, ↓wO_some, ↓wO_none, ↓wO_bind, ↓wO_map, ↓wO_gd, List.map_cons, List.map_nil, List.cons_append, List.nil_append, List.replicate, List.getElem?_cons_zero, List.getElem?_cons_succ, List.set_cons_zero, List.set_cons_succ, der_non, der_bl, der_int, der_str, der_tup, der_lst, der_dct, der_ref, ↓oBin, ↓oAdd, ↓oSub, ↓oMul, ↓oMod, ↓oDiv, ↓oPow, ↓oCmp, ↓oTru, ↓oBl, ↓oNeg, ↓oIx, atI_0, atI_1, ixN_20, ixN_21, ↓oLen, ↓oTuple, ↓oInt, ↓oMax, ↓oMin, ↓oCut, ↓oList, ↓tgN, ↓tgT, ↓setAll, ↓listAt, ↓Pk.putAt, ↓wipeS, ↓getAtI, ↓setAtI, ↓oIp, List.length_cons, List.length_nil, Bool.not_true, Bool.not_false, if_true, if_false, ite_true, ite_false, reduceIte, List.length_replicate, Nat.reduceSub, Nat.reduceAdd, Int.reduceLT, Int.reduceLE, Int.reduceNeg, Bool.false_eq_true, Bool.true_eq_false, true_and, and_true, oAll_map] | (refine And.intro ?pk1 ?_; (case pk1 => (first | assumption | decide | omega | exact ⟨by assumption, by omega⟩ | (constructor <;> first | assumption | decide | omega) | (simp [okMul]; done))))))
    have : ((l.zip (l.drop 1)).all fun p => decide (ltS p.1 p.2)) = true := by
      clear e q
      rw [List.all_eq_true]
      induction l with
      | nil => simp
      | cons a l ih =>
        cases l with
        | nil => simp
        | cons b l =>
          intro p hp
          simp only [List.drop_succ_cons, List.drop_zero, List.zip_cons_cons, List.mem_cons] at hp
          have h' := List.pairwise_cons.mp h
          rcases hp with rfl | hp
          · exact decide_eq_true (h'.1 b (by simp))
          · exact ih h'.2 p hp
    rw [this]; exact q
theorem is_set_w {l g : List Str} (h : Rises l) (hs : ∀ x ∈ l, x ∈ g) {S : Store} {Q : D → Store → Prop} (q : Q (.bl true) S) : wE (g_is_set [dT l, dT g] S) Q := by
  refine w_fn rfl ?_
  unfold b_is_set
  (repeat (first | (first | refine x_seq ?_ | refine x_set ?_ | refine x_own ?_ | refine x_asg ?_ | refine x_drop ?_ | refine x_ret ?_ | refine x_if ?_ | refine x_nil ?_ | refine x_for ?_ | refine x_augix ?_ | refine x_put ?_ | refine x_dnew ?_ | refine x_putd rfl ?_ | refine x_mt rfl ?_ | refine x_aug rfl ?_ | refine x_frz ?_ | refine x_ext rfl ?_ | refine x_ct ?_ | refine x_bk ?_ | refine x_retN ?_) | simp only [↓w_con, ↓w_var, ↓w_rd, ↓w_e1, ↓w_e2, ↓w_bin, ↓w_cmp, ↓w_ix, ↓w_neg, ↓w_not, ↓w_and, ↓w_or, ↓w_if, ↓w_args0, ↓w_args, ↓w_tup, ↓w_lst, ↓w_L, ↓w_cell, ↓w_call, ↓w_l1, ↓w_l2, ↓w_sortk, ↓w_str, ↓w_part0, ↓w_part, ↓w_cut, ↓w_lcut, ↓w_tval, ↓w_tcmp, ↓w_tnot, ↓w_tand, ↓w_tor, ↓w_tyes, ↓w_seq, ↓w_itB, ↓w_comp, ↓wO_some, ↓wO_none, ↓wO_bind, ↓wO_map, ↓wO_gd, List.map_cons, List.map_nil, List.cons_append, List.nil_append, List.replicate, List.getElem?_cons_zero, List.getElem?_cons_succ, List.set_cons_zero, List.set_cons_succ, der_non, der_bl, der_int, der_str, der_tup, der_lst, der_dct, der_ref, ↓oBin, ↓oAdd, ↓oSub, ↓oMul, ↓oMod, ↓oDiv, ↓oPow, ↓oCmp, ↓oTru, ↓oBl, ↓oNeg, ↓oIx, atI_0, atI_1, ixN_20, ixN_21, ↓oLen, ↓oTuple, ↓oInt, ↓oMax, ↓oMin, ↓oCut, ↓oList, ↓tgN, ↓tgT, ↓setAll, ↓listAt, ↓Pk.putAt, ↓wipeS, ↓getAtI, ↓setAtI, ↓oIp, List.length_cons, List.length_nil, Bool.not_true, Bool.not_false, if_true, if_false, ite_true, ite_false, reduceIte, List.length_replicate, Nat.reduceSub, Nat.reduceAdd, Int.reduceLT, Int.reduceLE, Int.reduceNeg, Bool.false_eq_true, Bool.true_eq_false, true_and, and_true, isT_tup] | (refine And.intro ?pk1 ?_; (case pk1 => (first | assumption | decide | omega | exact ⟨by assumption, by omega⟩ | (constructor <;> first | assumption | decide | omega) | (simp [okMul]; done))))))
  refine compD_all D.str (fun x => .bl (decide (x ∈ g))) (fun x hx => ?_) ?_
  · (repeat (first | (first | refine x_seq ?_ | refine x_set ?_ | refine x_own ?_ | refine x_asg ?_ | refine x_drop ?_ | refine x_ret ?_ | refine x_if ?_ | refine x_nil ?_ | refine x_for ?_ | refine x_augix ?_ | refine x_put ?_ | refine x_dnew ?_ | refine x_putd rfl ?_ | refine x_mt rfl ?_ | refine x_aug rfl ?_ | refine x_frz ?_ | refine x_ext rfl ?_ | refine x_ct ?_ | refine x_bk ?_ | refine x_retN ?_) | simp only [↓w_con, ↓w_var, ↓w_rd, ↓w_e1, ↓w_e2, ↓w_bin, ↓w_cmp, ↓w_ix, ↓w_neg, ↓w_not, ↓w_and, ↓w_or, ↓w_if, ↓w_args0, ↓w_args, ↓w_tup, ↓w_lst, ↓w_L, ↓w_cell, ↓w_call, ↓w_l1, ↓w_l2, ↓w_sortk, ↓w_str, ↓w_part0, ↓w_part, ↓w_cut, ↓w_lcut, ↓w_tval, ↓w_tcmp, ↓w_tnot, ↓w_tand, ↓w_tor, ↓w_tyes, ↓w_seq, ↓w_itB, ↓w_comp, ↓wO_some, ↓wO_none, ↓wO_bind, ↓wO_map, ↓wO_gd, List.map_cons, List.map_nil, List.cons_append, List.nil_append, List.replicate, List.getElem?_cons_zero, List.getElem?_cons_succ, List.set_cons_zero, List.set_cons_succ, der_non, der_bl, der_int, der_str, der_tup, der_lst, der_dct, der_ref, ↓oBin, ↓oAdd, ↓oSub, ↓oMul, ↓oMod, ↓oDiv, ↓oPow, ↓oCmp, ↓oTru, ↓oBl, ↓oNeg, ↓oIx, atI_0, atI_1, ixN_20, ixN_21, ↓oLen, ↓oTuple, ↓oInt, ↓oMax, ↓oMin, ↓oCut, ↓oList, ↓tgN, ↓tgT, ↓setAll, ↓listAt, ↓Pk.putAt, ↓wipeS, ↓getAtI, ↓setAtI, ↓oIp, List.length_cons, List.length_nil, Bool.not_true, Bool.not_false, if_true, if_false, ite_true, ite_false, reduceIte, List.length_replicate, Nat.reduceSub, Nat.reduceAdd, Int.reduceLT, Int.reduceLE, Int.reduceNeg, Bool.false_eq_true, Bool.true_eq_false, true_and, and_true, isT_str, oIn_tup (e := D.str) em_str (by decide)] | (refine And.intro ?pk1 ?_; (case pk1 => (first | assumption | decide | omega | exact ⟨by assumption, by omega⟩ | (constructor <;> first | assumption | decide | omega) | (simp [okMul]; done))))))
    try exact ⟨rfl, rfl⟩
    try rfl
  · (repeat (first | (first | refine x_seq ?_ | refine x_set ?_ | refine x_own ?_ | refine x_asg ?_ | refine x_drop ?_ | refine x_ret ?_ | refine x_if ?_ | refine x_nil ?_ | refine x_for ?_ | refine x_augix ?_ | refine x_put ?_ | refine x_dnew ?_ | refine x_putd rfl ?_ | refine x_mt rfl ?_ | refine x_aug rfl ?_ | refine x_frz ?_ | refine x_ext rfl ?_ | refine x_ct ?_ | refine x_bk ?_ | refine x_retN ?_) | simp only [↓w_con, ↓w_var, ↓w_rd, ↓w_e1, ↓w_e2, ↓w_bin, ↓w_cmp, ↓w_ix, ↓w_neg, ↓w_not, ↓w_and, ↓w_or, ↓w_if, ↓w_args0, ↓w_args, ↓w_tup, ↓w_lst, ↓w_L, ↓w_cell, ↓w_call, ↓w_l1, ↓w_l2, ↓w_sortk, ↓w_str, ↓w_part0, ↓w_part, ↓w_cut, ↓w_lcut, ↓w_tval, ↓w_tcmp, ↓w_tnot, ↓w_tand, ↓w_tor, ↓w_tyes, ↓w_seq, ↓w_itB, ↓w_comp, ↓wO_some, ↓wO_none, ↓wO_bind, ↓wO_map, ↓wO_gd, List.map_cons, List.map_nil, List.cons_append, List.nil_append, List.replicate, List.getElem?_cons_zero, List.getElem?_cons_succ, List.set_cons_zero, List.set_cons_succ, der_non, der_bl, der_int, der_str, der_tup, der_lst, der_dct, der_ref, ↓oBin, ↓oAdd, ↓oSub, ↓oMul, ↓oMod, ↓oDiv, ↓oPow, ↓oCmp, ↓oTru, ↓oBl, ↓oNeg, ↓oIx, atI_0, atI_1, ixN_20, ixN_21, ↓oLen, ↓oTuple, ↓oInt, ↓oMax, ↓oMin, ↓oCut, ↓oList, ↓tgN, ↓tgT, ↓setAll, ↓listAt, ↓Pk.putAt, ↓wipeS, ↓getAtI, ↓setAtI, ↓oIp, List.length_cons, List.length_nil, Bool.not_true, Bool.not_false, if_true, if_false, ite_true, ite_false, reduceIte, List.length_replicate, Nat.reduceSub, Nat.reduceAdd, Int.reduceLT, Int.reduceLE, Int.reduceNeg, Bool.false_eq_true, Bool.true_eq_false, true_and, and_true, oAll_map] | (refine And.intro ?pk1 ?_; (case pk1 => (first | assumption | decide | omega | exact ⟨by assumption, by omega⟩ | (constructor <;> first | assumption | decide | omega) | (simp [okMul]; done))))))
    have : (l.all fun x => decide (x ∈ g)) = true := by
      rw [List.all_eq_true]; exact fun x hx => decide_eq_true (hs x hx)
    rw [this]
    (repeat (first | (first | refine x_seq ?_ | refine x_set ?_ | refine x_own ?_ | refine x_asg ?_ | refine x_drop ?_ | refine x_ret ?_ | refine x_if ?_ | refine x_nil ?_ | refine x_for ?_ | refine x_augix ?_ | refine x_put ?_ | refine x_dnew ?_ | refine x_putd rfl ?_ | refine x_mt rfl ?_ | refine x_aug rfl ?_ | refine x_frz ?_ | refine x_ext rfl ?_ | refine x_ct ?_ | refine x_bk ?_ | refine x_retN ?_) | simp only [↓w_con, ↓w_var, ↓w_rd, ↓w_e1, ↓w_e2, ↓w_bin, ↓w_cmp, ↓w_ix, ↓w_neg, ↓w_not, ↓w_and, ↓w_or, ↓w_if, ↓w_args0, ↓w_args, ↓w_tup, ↓w_lst, ↓w_L, ↓w_cell, ↓w_call, ↓w_l1, ↓w_l2, ↓w_sortk, ↓w_str, ↓w_part0, ↓w_part, ↓w_cut, ↓w_lcut, ↓w_tval, ↓w_tcmp, ↓w_tnot, ↓w_tand, ↓w_tor, ↓w_tyes, ↓w_seq, ↓w_itB, ↓w_comp, ↓wO_some, ↓wO_none, ↓wO_bind, ↓wO_map, ↓wO_gd, List.map_cons, List.map_nil, List.cons_append, List.nil_append, List.replicate, List.getElem?_cons_zero, List.getElem?_cons_succ, List.set_cons_zero, List.set_cons_succ, der_non, der_bl, der_int, der_str, der_tup, der_lst, der_dct, der_ref, ↓oBin, ↓oAdd, ↓oSub, ↓oMul, ↓oMod, ↓oDiv, ↓oPow, ↓oCmp, ↓oTru, ↓oBl, ↓oNeg, ↓oIx, atI_0, atI_1, ixN_20, ixN_21, ↓oLen, ↓oTuple, ↓oInt, ↓oMax, ↓oMin, ↓oCut, ↓oList, ↓tgN, ↓tgT, ↓setAll, ↓listAt, ↓Pk.putAt, ↓wipeS, ↓getAtI, ↓setAtI, ↓oIp, List.length_cons, List.length_nil, Bool.not_true, Bool.not_false, if_true, if_false, ite_true, ite_false, reduceIte, List.length_replicate, Nat.reduceSub, Nat.reduceAdd, Int.reduceLT, Int.reduceLE, Int.reduceNeg, Bool.false_eq_true, Bool.true_eq_false, true_and, and_true] | (refine And.intro ?pk1 ?_; (case pk1 => (first | assumption | decide | omega | exact ⟨by assumption, by omega⟩ | (constructor <;> first | assumption | decide | omega) | (simp [okMul]; done))))))
    exact rises_w h q
/-- a yard: a ground and its sets -/
abbrev dY (g : List Str) (L : List (List Str)) : D := .tup [dT g, .tup (L.map dT)]
theorem can_w {g l : List Str} {L : List (List Str)} (h : Rises l) (hs : ∀ x ∈ l, x ∈ g) (hl : l ∈ L) {S : Store} {Q : D → Store → Prop} (q : Q (.bl true) S) : wE (g_can [dY g L, dT l] S) Q := by
  refine w_fn rfl ?_
  unfold b_can
  (repeat (first | (first | refine x_seq ?_ | refine x_set ?_ | refine x_own ?_ | refine x_asg ?_ | refine x_drop ?_ | refine x_ret ?_ | refine x_if ?_ | refine x_nil ?_ | refine x_for ?_ | refine x_augix ?_ | refine x_put ?_ | refine x_dnew ?_ | refine x_putd rfl ?_ | refine x_mt rfl ?_ | refine x_aug rfl ?_ | refine x_frz ?_ | refine x_ext rfl ?_ | refine x_ct ?_ | refine x_bk ?_ | refine x_retN ?_) | simp only [↓w_con, ↓w_var, ↓w_rd, ↓w_e1, ↓w_e2, ↓w_bin, ↓w_cmp, ↓w_ix, ↓w_neg, ↓w_not, ↓w_and, ↓w_or, ↓w_if, ↓w_args0, ↓w_args, ↓w_tup, ↓w_lst, ↓w_L, ↓w_cell, ↓w_call, ↓w_l1, ↓w_l2, ↓w_sortk, ↓w_str, ↓w_part0, ↓w_part, ↓w_cut, ↓w_lcut, ↓w_tval, ↓w_tcmp, ↓w_tnot, ↓w_tand, ↓w_tor, ↓w_tyes, ↓w_seq, ↓w_itB, ↓w_comp, ↓wO_some, ↓wO_none, ↓wO_bind, ↓wO_map, ↓wO_gd, List.map_cons, List.map_nil, List.cons_append, List.nil_append, List.replicate, List.getElem?_cons_zero, List.getElem?_cons_succ, List.set_cons_zero, List.set_cons_succ, der_non, der_bl, der_int, der_str, der_tup, der_lst, der_dct, der_ref, ↓oBin, ↓oAdd, ↓oSub, ↓oMul, ↓oMod, ↓oDiv, ↓oPow, ↓oCmp, ↓oTru, ↓oBl, ↓oNeg, ↓oIx, atI_0, atI_1, ixN_20, ixN_21, ↓oLen, ↓oTuple, ↓oInt, ↓oMax, ↓oMin, ↓oCut, ↓oList, ↓tgN, ↓tgT, ↓setAll, ↓listAt, ↓Pk.putAt, ↓wipeS, ↓getAtI, ↓setAtI, ↓oIp, List.length_cons, List.length_nil, Bool.not_true, Bool.not_false, if_true, if_false, ite_true, ite_false, reduceIte, List.length_replicate, Nat.reduceSub, Nat.reduceAdd, Int.reduceLT, Int.reduceLE, Int.reduceNeg, Bool.false_eq_true, Bool.true_eq_false, true_and, and_true] | (refine And.intro ?pk1 ?_; (case pk1 => (first | assumption | decide | omega | exact ⟨by assumption, by omega⟩ | (constructor <;> first | assumption | decide | omega) | (simp [okMul]; done))))))
  refine is_set_w h hs ?_
  (repeat (first | (first | refine x_seq ?_ | refine x_set ?_ | refine x_own ?_ | refine x_asg ?_ | refine x_drop ?_ | refine x_ret ?_ | refine x_if ?_ | refine x_nil ?_ | refine x_for ?_ | refine x_augix ?_ | refine x_put ?_ | refine x_dnew ?_ | refine x_putd rfl ?_ | refine x_mt rfl ?_ | refine x_aug rfl ?_ | refine x_frz ?_ | refine x_ext rfl ?_ | refine x_ct ?_ | refine x_bk ?_ | refine x_retN ?_) | simp only [↓w_con, ↓w_var, ↓w_rd, ↓w_e1, ↓w_e2, ↓w_bin, ↓w_cmp, ↓w_ix, ↓w_neg, ↓w_not, ↓w_and, ↓w_or, ↓w_if, ↓w_args0, ↓w_args, ↓w_tup, ↓w_lst, ↓w_L, ↓w_cell, ↓w_call, ↓w_l1, ↓w_l2, ↓w_sortk, ↓w_str, ↓w_part0, ↓w_part, ↓w_cut, ↓w_lcut, ↓w_tval, ↓w_tcmp, ↓w_tnot, ↓w_tand, ↓w_tor, ↓w_tyes, ↓w_seq, ↓w_itB, ↓w_comp, ↓wO_some, ↓wO_none, ↓wO_bind, ↓wO_map, ↓wO_gd, List.map_cons, List.map_nil, List.cons_append, List.nil_append, List.replicate, List.getElem?_cons_zero, List.getElem?_cons_succ, List.set_cons_zero, List.set_cons_succ, der_non, der_bl, der_int, der_str, der_tup, der_lst, der_dct, der_ref, ↓oBin, ↓oAdd, ↓oSub, ↓oMul, ↓oMod, ↓oDiv, ↓oPow, ↓oCmp, ↓oTru, ↓oBl, ↓oNeg, ↓oIx, atI_0, atI_1, ixN_20, ixN_21, ↓oLen, ↓oTuple, ↓oInt, ↓oMax, ↓oMin, ↓oCut, ↓oList, ↓tgN, ↓tgT, ↓setAll, ↓listAt, ↓Pk.putAt, ↓wipeS, ↓getAtI, ↓setAtI, ↓oIp, List.length_cons, List.length_nil, Bool.not_true, Bool.not_false, if_true, if_false, ite_true, ite_false, reduceIte, List.length_replicate, Nat.reduceSub, Nat.reduceAdd, Int.reduceLT, Int.reduceLE, Int.reduceNeg, Bool.false_eq_true, Bool.true_eq_false, true_and, and_true] | (refine And.intro ?pk1 ?_; (case pk1 => (first | assumption | decide | omega | exact ⟨by assumption, by omega⟩ | (constructor <;> first | assumption | decide | omega) | (simp [okMul]; done))))))
  have e := oIn_tup (e := dT) em_T (by decide) l L
  (repeat (first | (first | refine x_seq ?_ | refine x_set ?_ | refine x_own ?_ | refine x_asg ?_ | refine x_drop ?_ | refine x_ret ?_ | refine x_if ?_ | refine x_nil ?_ | refine x_for ?_ | refine x_augix ?_ | refine x_put ?_ | refine x_dnew ?_ | refine x_putd rfl ?_ | refine x_mt rfl ?_ | refine x_aug rfl ?_ | refine x_frz ?_ | refine x_ext rfl ?_ | refine x_ct ?_ | refine x_bk ?_ | refine x_retN ?_) | simp only [↓w_con, ↓w_var, ↓w_rd, ↓w_e1, ↓w_e2, ↓w_bin, ↓w_cmp, ↓w_ix, ↓w_neg, ↓w_not, ↓w_and, ↓w_or, ↓w_if, ↓w_args0, ↓w_args, ↓w_tup, ↓w_lst, ↓w_L, ↓w_cell, ↓w_call, ↓w_l1, ↓w_l2, ↓w_sortk, ↓w_str, ↓w_part0, ↓w_part, ↓w_cut, ↓w_lcut, ↓w_tval, ↓w_tcmp, ↓w_tnot, ↓w_tand, ↓w_tor, ↓w_tyes, ↓w_seq, ↓w_itB, ↓w_comp, ↓wO_some, ↓wO_none, ↓wO_bind, ↓wO_map, ↓wO_gd, List.map_cons, List.map_nil, List.cons_append, List.nil_append, List.replicate, List.getElem?_cons_zero, List.getElem?_cons_succ, List.set_cons_zero, List.set_cons_succ, der_non, der_bl, der_int, der_str, der_tup, der_lst, der_dct, der_ref, ↓oBin, ↓oAdd, ↓oSub, ↓oMul, ↓oMod, ↓oDiv, ↓oPow, ↓oCmp, ↓oTru, ↓oBl, ↓oNeg, ↓oIx, atI_0, atI_1, ixN_20, ixN_21, ↓oLen, ↓oTuple, ↓oInt, ↓oMax, ↓oMin, ↓oCut, ↓oList, ↓tgN, ↓tgT, ↓setAll, ↓listAt, ↓Pk.putAt, ↓wipeS, ↓getAtI, ↓setAtI, ↓oIp, List.length_cons, List.length_nil, Bool.not_true, Bool.not_false, if_true, if_false, ite_true, ite_false, reduceIte, List.length_replicate, Nat.reduceSub, Nat.reduceAdd, Int.reduceLT, Int.reduceLE, Int.reduceNeg, Bool.false_eq_true, Bool.true_eq_false, true_and, and_true, e, hl, decide_true] | (refine And.intro ?pk1 ?_; (case pk1 => (first | assumption | decide | omega | exact ⟨by assumption, by omega⟩ | (constructor <;> first | assumption | decide | omega) | (simp [okMul]; done))))))
  exact q
theorem need_taken_w {g l : List Str} {L : List (List Str)} (h : Rises l) (hs : ∀ x ∈ l, x ∈ g) (hl : l ∈ L) {S : Store} {Q : D → Store → Prop} (q : Q .non S) : wE (g_need_taken [dY g L, dT l] S) Q := by
  refine w_fn rfl ?_
  unfold b_need_taken
  (repeat (first | (first | refine x_seq ?_ | refine x_set ?_ | refine x_own ?_ | refine x_asg ?_ | refine x_drop ?_ | refine x_ret ?_ | refine x_if ?_ | refine x_nil ?_ | refine x_for ?_ | refine x_augix ?_ | refine x_put ?_ | refine x_dnew ?_ | refine x_putd rfl ?_ | refine x_mt rfl ?_ | refine x_aug rfl ?_ | refine x_frz ?_ | refine x_ext rfl ?_ | refine x_ct ?_ | refine x_bk ?_ | refine x_retN ?_) | simp only [↓w_con, ↓w_var, ↓w_rd, ↓w_e1, ↓w_e2, ↓w_bin, ↓w_cmp, ↓w_ix, ↓w_neg, ↓w_not, ↓w_and, ↓w_or, ↓w_if, ↓w_args0, ↓w_args, ↓w_tup, ↓w_lst, ↓w_L, ↓w_cell, ↓w_call, ↓w_l1, ↓w_l2, ↓w_sortk, ↓w_str, ↓w_part0, ↓w_part, ↓w_cut, ↓w_lcut, ↓w_tval, ↓w_tcmp, ↓w_tnot, ↓w_tand, ↓w_tor, ↓w_tyes, ↓w_seq, ↓w_itB, ↓w_comp, ↓wO_some, ↓wO_none, ↓wO_bind, ↓wO_map, ↓wO_gd, List.map_cons, List.map_nil, List.cons_append, List.nil_append, List.replicate, List.getElem?_cons_zero, List.getElem?_cons_succ, List.set_cons_zero, List.set_cons_succ, der_non, der_bl, der_int, der_str, der_tup, der_lst, der_dct, der_ref, ↓oBin, ↓oAdd, ↓oSub, ↓oMul, ↓oMod, ↓oDiv, ↓oPow, ↓oCmp, ↓oTru, ↓oBl, ↓oNeg, ↓oIx, atI_0, atI_1, ixN_20, ixN_21, ↓oLen, ↓oTuple, ↓oInt, ↓oMax, ↓oMin, ↓oCut, ↓oList, ↓tgN, ↓tgT, ↓setAll, ↓listAt, ↓Pk.putAt, ↓wipeS, ↓getAtI, ↓setAtI, ↓oIp, List.length_cons, List.length_nil, Bool.not_true, Bool.not_false, if_true, if_false, ite_true, ite_false, reduceIte, List.length_replicate, Nat.reduceSub, Nat.reduceAdd, Int.reduceLT, Int.reduceLE, Int.reduceNeg, Bool.false_eq_true, Bool.true_eq_false, true_and, and_true] | (refine And.intro ?pk1 ?_; (case pk1 => (first | assumption | decide | omega | exact ⟨by assumption, by omega⟩ | (constructor <;> first | assumption | decide | omega) | (simp [okMul]; done))))))
  refine can_w h hs hl ?_
  (repeat (first | (first | refine x_seq ?_ | refine x_set ?_ | refine x_own ?_ | refine x_asg ?_ | refine x_drop ?_ | refine x_ret ?_ | refine x_if ?_ | refine x_nil ?_ | refine x_for ?_ | refine x_augix ?_ | refine x_put ?_ | refine x_dnew ?_ | refine x_putd rfl ?_ | refine x_mt rfl ?_ | refine x_aug rfl ?_ | refine x_frz ?_ | refine x_ext rfl ?_ | refine x_ct ?_ | refine x_bk ?_ | refine x_retN ?_) | simp only [↓w_con, ↓w_var, ↓w_rd, ↓w_e1, ↓w_e2, ↓w_bin, ↓w_cmp, ↓w_ix, ↓w_neg, ↓w_not, ↓w_and, ↓w_or, ↓w_if, ↓w_args0, ↓w_args, ↓w_tup, ↓w_lst, ↓w_L, ↓w_cell, ↓w_call, ↓w_l1, ↓w_l2, ↓w_sortk, ↓w_str, ↓w_part0, ↓w_part, ↓w_cut, ↓w_lcut, ↓w_tval, ↓w_tcmp, ↓w_tnot, ↓w_tand, ↓w_tor, ↓w_tyes, ↓w_seq, ↓w_itB, ↓w_comp, ↓wO_some, ↓wO_none, ↓wO_bind, ↓wO_map, ↓wO_gd, List.map_cons, List.map_nil, List.cons_append, List.nil_append, List.replicate, List.getElem?_cons_zero, List.getElem?_cons_succ, List.set_cons_zero, List.set_cons_succ, der_non, der_bl, der_int, der_str, der_tup, der_lst, der_dct, der_ref, ↓oBin, ↓oAdd, ↓oSub, ↓oMul, ↓oMod, ↓oDiv, ↓oPow, ↓oCmp, ↓oTru, ↓oBl, ↓oNeg, ↓oIx, atI_0, atI_1, ixN_20, ixN_21, ↓oLen, ↓oTuple, ↓oInt, ↓oMax, ↓oMin, ↓oCut, ↓oList, ↓tgN, ↓tgT, ↓setAll, ↓listAt, ↓Pk.putAt, ↓wipeS, ↓getAtI, ↓setAtI, ↓oIp, List.length_cons, List.length_nil, Bool.not_true, Bool.not_false, if_true, if_false, ite_true, ite_false, reduceIte, List.length_replicate, Nat.reduceSub, Nat.reduceAdd, Int.reduceLT, Int.reduceLE, Int.reduceNeg, Bool.false_eq_true, Bool.true_eq_false, true_and, and_true] | (refine And.intro ?pk1 ?_; (case pk1 => (first | assumption | decide | omega | exact ⟨by assumption, by omega⟩ | (constructor <;> first | assumption | decide | omega) | (simp [okMul]; done))))))
  exact q
theorem meet_w {l m : List Str} {S : Store} {Q : D → Store → Prop} (q : Q (.bl (l.any fun x => decide (x ∈ m))) S) : wE (g_law_meet [dT l, dT m] S) Q := by
  refine w_fn rfl ?_
  unfold b_law_meet
  (repeat (first | (first | refine x_seq ?_ | refine x_set ?_ | refine x_own ?_ | refine x_asg ?_ | refine x_drop ?_ | refine x_ret ?_ | refine x_if ?_ | refine x_nil ?_ | refine x_for ?_ | refine x_augix ?_ | refine x_put ?_ | refine x_dnew ?_ | refine x_putd rfl ?_ | refine x_mt rfl ?_ | refine x_aug rfl ?_ | refine x_frz ?_ | refine x_ext rfl ?_ | refine x_ct ?_ | refine x_bk ?_ | refine x_retN ?_) | simp only [↓w_con, ↓w_var, ↓w_rd, ↓w_e1, ↓w_e2, ↓w_bin, ↓w_cmp, ↓w_ix, ↓w_neg, ↓w_not, ↓w_and, ↓w_or, ↓w_if, ↓w_args0, ↓w_args, ↓w_tup, ↓w_lst, ↓w_L, ↓w_cell, ↓w_call, ↓w_l1, ↓w_l2, ↓w_sortk, ↓w_str, ↓w_part0, ↓w_part, ↓w_cut, ↓w_lcut, ↓w_tval, ↓w_tcmp, ↓w_tnot, ↓w_tand, ↓w_tor, ↓w_tyes, ↓w_seq, ↓w_itB, ↓w_comp, ↓wO_some, ↓wO_none, ↓wO_bind, ↓wO_map, ↓wO_gd, List.map_cons, List.map_nil, List.cons_append, List.nil_append, List.replicate, List.getElem?_cons_zero, List.getElem?_cons_succ, List.set_cons_zero, List.set_cons_succ, der_non, der_bl, der_int, der_str, der_tup, der_lst, der_dct, der_ref, ↓oBin, ↓oAdd, ↓oSub, ↓oMul, ↓oMod, ↓oDiv, ↓oPow, ↓oCmp, ↓oTru, ↓oBl, ↓oNeg, ↓oIx, atI_0, atI_1, ixN_20, ixN_21, ↓oLen, ↓oTuple, ↓oInt, ↓oMax, ↓oMin, ↓oCut, ↓oList, ↓tgN, ↓tgT, ↓setAll, ↓listAt, ↓Pk.putAt, ↓wipeS, ↓getAtI, ↓setAtI, ↓oIp, List.length_cons, List.length_nil, Bool.not_true, Bool.not_false, if_true, if_false, ite_true, ite_false, reduceIte, List.length_replicate, Nat.reduceSub, Nat.reduceAdd, Int.reduceLT, Int.reduceLE, Int.reduceNeg, Bool.false_eq_true, Bool.true_eq_false, true_and, and_true] | (refine And.intro ?pk1 ?_; (case pk1 => (first | assumption | decide | omega | exact ⟨by assumption, by omega⟩ | (constructor <;> first | assumption | decide | omega) | (simp [okMul]; done))))))
  refine compD_all D.str (fun x => .bl (decide (x ∈ m))) (fun x hx => ?_) ?_
  · (repeat (first | (first | refine x_seq ?_ | refine x_set ?_ | refine x_own ?_ | refine x_asg ?_ | refine x_drop ?_ | refine x_ret ?_ | refine x_if ?_ | refine x_nil ?_ | refine x_for ?_ | refine x_augix ?_ | refine x_put ?_ | refine x_dnew ?_ | refine x_putd rfl ?_ | refine x_mt rfl ?_ | refine x_aug rfl ?_ | refine x_frz ?_ | refine x_ext rfl ?_ | refine x_ct ?_ | refine x_bk ?_ | refine x_retN ?_) | simp only [↓w_con, ↓w_var, ↓w_rd, ↓w_e1, ↓w_e2, ↓w_bin, ↓w_cmp, ↓w_ix, ↓w_neg, ↓w_not, ↓w_and, ↓w_or, ↓w_if, ↓w_args0, ↓w_args, ↓w_tup, ↓w_lst, ↓w_L, ↓w_cell, ↓w_call, ↓w_l1, ↓w_l2, ↓w_sortk, ↓w_str, ↓w_part0, ↓w_part, ↓w_cut, ↓w_lcut, ↓w_tval, ↓w_tcmp, ↓w_tnot, ↓w_tand, ↓w_tor, ↓w_tyes, ↓w_seq, ↓w_itB, ↓w_comp, ↓wO_some, ↓wO_none, ↓wO_bind, ↓wO_map, ↓wO_gd, List.map_cons, List.map_nil, List.cons_append, List.nil_append, List.replicate, List.getElem?_cons_zero, List.getElem?_cons_succ, List.set_cons_zero, List.set_cons_succ, der_non, der_bl, der_int, der_str, der_tup, der_lst, der_dct, der_ref, ↓oBin, ↓oAdd, ↓oSub, ↓oMul, ↓oMod, ↓oDiv, ↓oPow, ↓oCmp, ↓oTru, ↓oBl, ↓oNeg, ↓oIx, atI_0, atI_1, ixN_20, ixN_21, ↓oLen, ↓oTuple, ↓oInt, ↓oMax, ↓oMin, ↓oCut, ↓oList, ↓tgN, ↓tgT, ↓setAll, ↓listAt, ↓Pk.putAt, ↓wipeS, ↓getAtI, ↓setAtI, ↓oIp, List.length_cons, List.length_nil, Bool.not_true, Bool.not_false, if_true, if_false, ite_true, ite_false, reduceIte, List.length_replicate, Nat.reduceSub, Nat.reduceAdd, Int.reduceLT, Int.reduceLE, Int.reduceNeg, Bool.false_eq_true, Bool.true_eq_false, true_and, and_true, oIn_tup (e := D.str) em_str (by decide)] | (refine And.intro ?pk1 ?_; (case pk1 => (first | assumption | decide | omega | exact ⟨by assumption, by omega⟩ | (constructor <;> first | assumption | decide | omega) | (simp [okMul]; done))))))
    try exact ⟨rfl, rfl⟩
    try rfl
  · (repeat (first | (first | refine x_seq ?_ | refine x_set ?_ | refine x_own ?_ | refine x_asg ?_ | refine x_drop ?_ | refine x_ret ?_ | refine x_if ?_ | refine x_nil ?_ | refine x_for ?_ | refine x_augix ?_ | refine x_put ?_ | refine x_dnew ?_ | refine x_putd rfl ?_ | refine x_mt rfl ?_ | refine x_aug rfl ?_ | refine x_frz ?_ | refine x_ext rfl ?_ | refine x_ct ?_ | refine x_bk ?_ | refine x_retN ?_) | simp only [↓w_con, ↓w_var, ↓w_rd, ↓w_e1, ↓w_e2, ↓w_bin, ↓w_cmp, ↓w_ix, ↓w_neg, ↓w_not, ↓w_and, ↓w_or, ↓w_if, ↓w_args0, ↓w_args, ↓w_tup, ↓w_lst, ↓w_L, ↓w_cell, ↓w_call, ↓w_l1, ↓w_l2, ↓w_sortk, ↓w_str, ↓w_part0, ↓w_part, ↓w_cut, ↓w_lcut, ↓w_tval, ↓w_tcmp, ↓w_tnot, ↓w_tand, ↓w_tor, ↓w_tyes, ↓w_seq, ↓w_itB, ↓w_comp, ↓wO_some, ↓wO_none, ↓wO_bind, ↓wO_map, ↓wO_gd, List.map_cons, List.map_nil, List.cons_append, List.nil_append, List.replicate, List.getElem?_cons_zero, List.getElem?_cons_succ, List.set_cons_zero, List.set_cons_succ, der_non, der_bl, der_int, der_str, der_tup, der_lst, der_dct, der_ref, ↓oBin, ↓oAdd, ↓oSub, ↓oMul, ↓oMod, ↓oDiv, ↓oPow, ↓oCmp, ↓oTru, ↓oBl, ↓oNeg, ↓oIx, atI_0, atI_1, ixN_20, ixN_21, ↓oLen, ↓oTuple, ↓oInt, ↓oMax, ↓oMin, ↓oCut, ↓oList, ↓tgN, ↓tgT, ↓setAll, ↓listAt, ↓Pk.putAt, ↓wipeS, ↓getAtI, ↓setAtI, ↓oIp, List.length_cons, List.length_nil, Bool.not_true, Bool.not_false, if_true, if_false, ite_true, ite_false, reduceIte, List.length_replicate, Nat.reduceSub, Nat.reduceAdd, Int.reduceLT, Int.reduceLE, Int.reduceNeg, Bool.false_eq_true, Bool.true_eq_false, true_and, and_true, oAny_map] | (refine And.intro ?pk1 ?_; (case pk1 => (first | assumption | decide | omega | exact ⟨by assumption, by omega⟩ | (constructor <;> first | assumption | decide | omega) | (simp [okMul]; done))))))
    exact q
/-! ### sorting -/
theorem alikeAll_strs (l m : List Str) : PySem.W.alikeAll ((l.map D.str).map py) ((m.map D.str).map py) = true := by
  induction l generalizing m with
  | nil => simp [PySem.W.alikeAll]
  | cons x l ih =>
    cases m with
    | nil => simp [PySem.W.alikeAll]
    | cons y m =>
      simp only [List.map_cons, PySem.W.alikeAll, py, PySem.W.alike, Bool.true_and]
      exact ih m
theorem okSort_of {α : Type} {k : Nat} {e : α → D} (h : Em k e) (hk : k ≤ 60) (l : List α) (ha : ∀ x y, PySem.W.alike (py (e x)) (py (e y)) = true) (ht : (∀ x ∈ l, ∃ m, e x = .tup m) ∨ ∀ x ∈ l, ∀ m, e x ≠ .tup m ∧ e x ≠ .non) : okSort (l.map e) = true := by
  unfold okSort
  simp only [Bool.and_eq_true, Bool.or_eq_true, List.all_eq_true, List.mem_map, forall_exists_index, and_imp, forall_apply_eq_imp_iff₂, decide_eq_true_eq]
  refine ⟨⟨fun x _ y _ => ha x y, fun x _ => ⟨h.small (by omega) x, Nat.le_trans (h.dep x) (by omega)⟩⟩, ?_⟩
  rcases ht with ht | ht
  · left
    intro x hx
    obtain ⟨m, e1⟩ := ht x hx
    rw [e1]
  · right
    intro x hx
    have := ht x hx
    split
    · rename_i m e1; exact ((this m).1 e1).elim
    · rename_i e1; exact ((this []).2 e1).elim
    · rfl
theorem oSort_str (l : List Str) : oSort (.lst (l.map D.str)) = some ((sortS l).map D.str) := by
  unfold oSort
  simp only
  rw [if_pos (okSort_of em_str (by decide) l (fun x y => rfl) (.inr fun x _ m => ⟨by simp, by simp⟩)), sort_map]; rfl
theorem oSort_strT (l : List Str) : oSort (.tup (l.map D.str)) = some ((sortS l).map D.str) := by
  unfold oSort
  simp only
  rw [if_pos (okSort_of em_str (by decide) l (fun x y => rfl) (.inr fun x _ m => ⟨by simp, by simp⟩)), sort_map]; rfl
theorem alike_T (x y : List Str) : PySem.W.alike (py (dT x)) (py (dT y)) = true := by
  simp only [py, PySem.W.alike, pys_map]
  exact alikeAll_strs x y
theorem oSort_T (l : List (List Str)) : oSort (.lst (l.map dT)) = some ((l.mergeSort (leBy dT)).map dT) := by
  unfold oSort
  simp only
  rw [if_pos (okSort_of em_T (by decide) l alike_T (.inl fun x hx => ⟨_, rfl⟩)), sort_map]
/-- a name and a set -/
abbrev dB (p : Str × List Str) : D := .tup [.str p.1, dT p.2]
end Pk
namespace Pk
open PySem PySem.Spec PyProof.Rows L2
/-! ### what many laws begin with -/
theorem cells_nat (n N : Nat) (hN : 0 < N) : ∃ v : Nat, (if (if (n : Int) < (N : Int) then (n : Int) else (N : Int)) > 1 then (if (n : Int) < (N : Int) then (n : Int) else (N : Int)) else 1) = (v : Int) ∧ v ≤ N := by
  by_cases h1 : (n : Int) < (N : Int)
  · simp only [h1, if_true]
    by_cases h2 : (n : Int) > 1
    · exact ⟨n, by simp [h2], by omega⟩
    · exact ⟨1, by simp [h2], by omega⟩
  · simp only [h1, if_false]
    by_cases h2 : (N : Int) > 1
    · exact ⟨N, by simp [h2], by omega⟩
    · exact ⟨1, by simp [h2], by omega⟩
def natIn (a b : Nat) : D → Bool
  | .int i => decide ((a : Int) ≤ i) && decide (i ≤ (b : Int))
  | _ => false
theorem atI_in {l : List D} {u : Int} {a b : Nat} (h0 : 0 ≤ u) (h1 : u < l.length) (h : l.all (natIn a b) = true) : ∃ m : Nat, atI l u = some (.int m) ∧ a ≤ m ∧ m ≤ b := by
  obtain ⟨x, e, hx⟩ := atI_some h0 h1
  have := List.all_eq_true.mp h x hx
  cases x with
  | int i =>
    simp only [natIn, Bool.and_eq_true, decide_eq_true_eq] at this
    obtain ⟨m, rfl⟩ := Int.eq_ofNat_of_zero_le (show 0 ≤ i by omega)
    exact ⟨m, e, by omega, by omega⟩
  | _ => simp [natIn] at this
theorem sortS_len (l : List Str) : (sortS l).length = l.length := (sort_perm (e := D.str) l).length_eq
/-- a draw just begun -/
theorem drw_new (S : Store) (x : Int) (hx : 0 ≤ x) (k : Nat) : Drw (S ++ [.lst [.int x, .int k]]) S.length := ⟨x, k, by simp, hx⟩
end Pk
namespace Pk
open PySem PySem.Spec PyProof.Rows L2
/-! ### orders -/
section
variable {α : Type} {k : Nat} {e : α → D}
end
/-- a set with its number of things, by which sets stand in order -/
abbrev dO (l : List Str) : D := .tup [.int l.length, dT l]
noncomputable abbrev leO : List Str → List Str → Bool := leBy dO
/-- ahead of, in order -/
def ltO (x y : List Str) : Prop := leO x y = true ∧ x ≠ y
def OrdS (L : List (List Str)) : Prop := L.Pairwise ltO
theorem OrdS.nodup {L : List (List Str)} (h : OrdS L) : L.Nodup := h.imp fun z => z.2
theorem lt_O (x y : List Str) : PySem.W.dataLt (py (dO x)) (py (dO y)) = if x.length = y.length then PySem.W.dataLt (py (dT x)) (py (dT y)) else decide (x.length < y.length) := by
  simp only [py, pys]
  rw [PySem.W.dataLt_tuple, PySem.W.dataLt_cons (by simp [PySem.W.alike])]
  by_cases h : x.length = y.length
  · have e1 : PyData.eqv (.int (x.length : Int)) (.int (y.length : Int)) = true := by simp [PyData.eqv, h]
    rw [if_pos e1, if_pos h, PySem.W.dataLt_cons (by have := alike_T x y; simpa [py] using this)]
    split
    · rename_i e2
      have hxy := (em_T.eqv x y).mp (by simpa [py] using e2)
      subst hxy
      have z : ∀ d : PyData, PySem.W.dataLt d d = false := fun d => lex_irrefl _
      rw [z]
      exact lex_irrefl _
    · rfl
  · have e1 : PyData.eqv (.int (x.length : Int)) (.int (y.length : Int)) = false := by
      simp only [PyData.eqv]; exact decide_eq_false (fun z => h (by omega))
    rw [if_neg (by rw [e1]; simp), if_neg h, PySem.W.dataLt_int]
    simp
theorem leO_iff {x y : List Str} : leO x y = true ↔ x.length < y.length ∨ (x.length = y.length ∧ leBy dT x y = true) := by
  unfold leO leBy
  rw [dLe_eq, dLe_eq, lt_O]
  by_cases h : y.length = x.length
  · rw [if_pos h]
    constructor
    · exact fun z => .inr ⟨h.symm, z⟩
    · rintro (z | z)
      · omega
      · exact z.2
  · rw [if_neg h]
    simp only [Bool.not_eq_true', decide_eq_false_iff_not]
    omega
theorem ltO_len {x y : List Str} (h : ltO x y) : x.length ≤ y.length := by
  rcases leO_iff.mp h.1 with z | z <;> omega
theorem ltO_of {x y : List Str} (h : x.length < y.length) : ltO x y := ⟨leO_iff.mpr (.inl h), fun z => by rw [z] at h; omega⟩
theorem ltO_irr {x : List Str} (h : ltO x x) : False := h.2 rfl
/-! ### sorted by a key -/
/-! ### in_order -/
theorem atI_last' {α : Type} {l : List α} {a : α} : atI (l ++ [a]) (-1) = some a := by
  unfold atI ixN
  simp only [List.length_append, List.length_singleton]
  rw [if_neg (by omega), if_pos (by omega)]
  have : (-1 + ((l.length + 1 : Nat) : Int)).toNat = l.length := by omega
  show (l ++ [a])[(-1 + ((l.length + 1 : Nat) : Int)).toNat]? = some a
  rw [this]; simp
/-! ### all sets of a ground -/
theorem sub_snoc {α : Type} {l p : List α} {x : α} : l.Sublist (p ++ [x]) ↔ l.Sublist p ∨ ∃ l', l'.Sublist p ∧ l = l' ++ [x] := by
  rw [List.sublist_append_iff]
  constructor
  · rintro ⟨a, b, rfl, h1, h2⟩
    have hb : b = [] ∨ b = [x] := by
      cases h2 with
      | cons _ h => exact .inl (List.sublist_nil.mp h)
      | cons_cons _ h => exact .inr (by rw [List.sublist_nil.mp h])
    rcases hb with rfl | rfl
    · exact .inl (by simpa using h1)
    · exact .inr ⟨a, h1, rfl⟩
  · rintro (h | ⟨l', h, rfl⟩)
    · exact ⟨l, [], by simp, h, by simp⟩
    · exact ⟨l', [x], rfl, h, by simp⟩
theorem rises_sub {g l : List Str} (hg : Rises g) : l.Sublist g ↔ Rises l ∧ ∀ x ∈ l, x ∈ g := by
  constructor
  · exact fun h => ⟨List.Pairwise.sublist h hg, fun x hx => h.subset hx⟩
  · rintro ⟨hl, hs⟩
    induction g generalizing l with
    | nil =>
      cases l with
      | nil => exact List.nil_sublist _
      | cons a l => exact absurd (hs a List.mem_cons_self) (by simp)
    | cons b g ih =>
      obtain ⟨hb, hg'⟩ := List.pairwise_cons.mp hg
      cases l with
      | nil => exact List.nil_sublist _
      | cons a l =>
        obtain ⟨ha, hl'⟩ := List.pairwise_cons.mp hl
        have rest : ∀ x ∈ l, x ≠ b → x ∈ g := fun x hx hxb => (List.mem_cons.mp (hs x (List.mem_cons_of_mem _ hx))).resolve_left hxb
        by_cases hab : a = b
        · subst hab
          exact (ih hg' hl' fun x hx => rest x hx fun z => ltS_irr a (by have := ha x hx; rw [z] at this; exact this)).cons₂ _
        · have hag : a ∈ g := (List.mem_cons.mp (hs a List.mem_cons_self)).resolve_left hab
          refine (ih hg' hl fun x hx => ?_).cons _
          rcases List.mem_cons.mp hx with rfl | hx
          · exact hag
          · refine rest x hx fun z => ?_
            subst z
            exact ltS_irr a (ltS_trans (ha x hx) (hb a hag))
/-- a walk that makes all parts of some things, either way about -/
structure Subs (p : List Str) (A : List (List Str)) : Prop where
  mem : ∀ l, l ∈ A ↔ l.Sublist p
  len : A.length = 2 ^ p.length
  nd : p.Nodup → A.Nodup
theorem Subs.nil : Subs [] [[]] := ⟨fun l => by simp, rfl, fun _ => by simp⟩
theorem Subs.snoc {p : List Str} {A : List (List Str)} (h : Subs p A) (x : Str) : Subs (p ++ [x]) (A ++ A.map (· ++ [x])) := ⟨fun l => by
    simp only [List.mem_append, List.mem_map, h.mem, sub_snoc]
    constructor
    · rintro (z | ⟨l', z, rfl⟩)
      · exact .inl z
      · exact .inr ⟨l', z, rfl⟩
    · rintro (z | ⟨l', z, rfl⟩)
      · exact .inl z
      · exact .inr ⟨l', z, rfl⟩, by simp [h.len, Nat.pow_succ]; omega, fun hn => by
    obtain ⟨h1, _, h3⟩ := List.nodup_append.mp hn
    have hA := h.nd h1
    refine List.nodup_append.mpr ⟨hA, List.Pairwise.map _ (fun a b z w => z (List.append_cancel_right w)) hA, fun a ha b hb z => ?_⟩
    subst z
    obtain ⟨c, hc, rfl⟩ := List.mem_map.mp hb
    exact h3 x (((h.mem _).mp ha).subset (by simp)) x (by simp) rfl⟩
theorem Subs.perm {p : List Str} {A B : List (List Str)} (h : Subs p A) (q : B.Perm A) : Subs p B := ⟨fun l => by rw [q.mem_iff]; exact h.mem l, by rw [q.length_eq]; exact h.len, fun hn => q.nodup_iff.mpr (h.nd hn)⟩
theorem Subs.le {p : List Str} {A : List (List Str)} (h : Subs p A) (hp : p.length ≤ 7) : A.length ≤ 128 := by
  rw [h.len]
  exact Nat.le_trans (Nat.pow_le_pow_right (by decide) hp) (by decide)
end Pk
namespace Pk
open PySem PySem.Spec PyProof.Rows L2
/-! ### sets of names -/
/-- a set with a thing more -/
noncomputable def more (l : List Str) (x : Str) : List Str := sortS (l ++ [x])
theorem more_perm (l : List Str) (x : Str) : (more l x).Perm (l ++ [x]) := sort_perm (e := D.str) (l ++ [x])
theorem mem_more {l : List Str} {x y : Str} : y ∈ more l x ↔ y ∈ l ∨ y = x := by
  rw [(more_perm l x).mem_iff]; simp
theorem nodup_snoc {l : List Str} {x : Str} (hl : l.Nodup) (hx : x ∉ l) : (l ++ [x]).Nodup :=
  List.nodup_append.mpr ⟨hl, by simp, fun a ha b hb z => by simp at hb; subst hb; subst z; exact hx ha⟩
theorem more_rises {l : List Str} {x : Str} (hl : Rises l) (hx : x ∉ l) : Rises (more l x) := sortS_rises (nodup_snoc hl.nodup hx)
theorem more_len (l : List Str) (x : Str) : (more l x).length = l.length + 1 := by rw [(more_perm l x).length_eq]; simp
theorem rises_ext {l m : List Str} (hl : Rises l) (hm : Rises m) (h : ∀ x, x ∈ l ↔ x ∈ m) : l = m :=
  ((List.perm_ext_iff_of_nodup hl.nodup hm.nodup).mpr h).eq_of_pairwise (fun a b _ _ h1 h2 => (ltS_irr a (ltS_trans h1 h2)).elim) hl hm
theorem less_rises {l : List Str} {x : Str} (hl : Rises l) : Rises (less l x) := List.Pairwise.filter _ hl
theorem mem_less {l : List Str} {x y : Str} : y ∈ less l x ↔ y ∈ l ∧ y ≠ x := by
  unfold less; simp
theorem less_more {l : List Str} {x : Str} (hl : Rises l) (hx : x ∉ l) : less (more l x) x = l :=
  rises_ext (less_rises (more_rises hl hx)) hl fun y => by
    rw [mem_less, mem_more]
    constructor
    · rintro ⟨z | z, h⟩
      · exact z
      · exact (h z).elim
    · exact fun z => ⟨.inl z, fun w => hx (by rw [← w]; exact z)⟩
theorem sub_len {a b : List Str} (ha : Rises a) (h : ∀ x ∈ a, x ∈ b) : a.length ≤ b.length := nodup_len ha.nodup h
theorem sub_eq {a b : List Str} (ha : Rises a) (hb : Rises b) (h : ∀ x ∈ a, x ∈ b) (hl : b.length ≤ a.length) : a = b := by
  refine rises_ext ha hb fun x => ⟨h x, fun hx => Classical.byContradiction fun hn => ?_⟩
  have := nodup_len (l := x :: a) (List.nodup_cons.mpr ⟨hn, ha.nodup⟩) (m := b) fun y hy => by
    rcases List.mem_cons.mp hy with rfl | hy
    · exact hx
    · exact h y hy
  simp at this
  omega
/-- come to by taking things one by one -/
inductive Reach (g : List Str) (ok : List Str → Str → Bool) : List Str → Prop
  | nil : Reach g ok []
  | more {l : List Str} {x : Str} : Reach g ok l → x ∈ g → x ∉ l → ok l x = true → Reach g ok (Pk.more l x)
theorem Reach.good {g l : List Str} {ok : List Str → Str → Bool} (h : Reach g ok l) : Rises l ∧ ∀ x ∈ l, x ∈ g := by
  induction h with
  | nil => exact ⟨List.Pairwise.nil, fun x h => by cases h⟩
  | more h hx hn _ ih => exact ⟨more_rises ih.1 hn, fun y hy => by
      rcases mem_more.mp hy with z | rfl
      · exact ih.2 y z
      · exact hx⟩
/-- each but nothing is another one and a thing more -/
theorem Reach.last {g l : List Str} {ok : List Str → Str → Bool} (h : Reach g ok l) (hn : l ≠ []) : ∃ x ∈ l, Reach g ok (less l x) ∧ ok (less l x) x = true := by
  cases h with
  | nil => exact (hn rfl).elim
  | more h hx hn' ho => exact ⟨_, mem_more.mpr (.inr rfl), by rw [less_more h.good.1 hn']; exact h, by rw [less_more h.good.1 hn']; exact ho⟩
theorem subs_ex (p : List Str) : ∃ A, Subs p A := by
  have : ∀ (q p : List Str) (A : List (List Str)), Subs p A → ∃ B, Subs (p ++ q) B := by
    intro q
    induction q with
    | nil => intro p A h; exact ⟨A, by simpa using h⟩
    | cons x q ih =>
      intro p A h
      obtain ⟨B, hB⟩ := ih (p ++ [x]) _ (h.snoc x)
      exact ⟨B, by simpa using hB⟩
  exact this p [] _ Subs.nil
/-- so many sets has a ground of seven -/
theorem few_sets {g : List Str} (hg : g.length ≤ 7) (hr : Rises g) {L : List (List Str)} (hn : L.Nodup) (h : ∀ l ∈ L, Rises l ∧ ∀ x ∈ l, x ∈ g) : L.length ≤ 128 := by
  obtain ⟨A, hA⟩ := subs_ex g
  exact Nat.le_trans (nodup_len hn fun l hl => (hA.mem l).mpr ((rises_sub hr).mpr (h l hl))) (hA.le hg)
/-! ### the sets that rules let -/
def rulesOk (rs : List (Str × List Str)) (l : List Str) (x : Str) : Bool := rs.all fun p => !decide (p.1 = x) || p.2.any fun y => decide (y ∈ l)
/-- all sets of a ground that come so, in order -/
structure SetsOf (g : List Str) (ok : List Str → Str → Bool) (L : List (List Str)) : Prop where
  ord : OrdS L
  mem : ∀ l, l ∈ L ↔ Reach g ok l
theorem SetsOf.good {g : List Str} {ok : List Str → Str → Bool} {L : List (List Str)} (h : SetsOf g ok L) : ∀ l ∈ L, Rises l ∧ ∀ x ∈ l, x ∈ g := fun l hl => ((h.mem l).mp hl).good
theorem SetsOf.le {g : List Str} {ok : List Str → Str → Bool} {L : List (List Str)} (h : SetsOf g ok L) (hg : g.length ≤ 7) (hr : Rises g) : L.length ≤ 128 := few_sets hg hr h.ord.nodup h.good
end Pk
namespace Pk
open PySem PySem.Spec PyProof.Rows L2
/-! ### names and grounds -/
/-- a ground: one to seven names, rising -/
def Grd (g : List Str) : Prop := Rises g ∧ 1 ≤ g.length ∧ g.length ≤ 7 ∧ ∀ x ∈ g, Nm x
theorem grd_of {ws : List Str} {m : Nat} (h : Nms m ws) (h1 : 1 ≤ m) (h7 : m ≤ 7) : Grd (sortS ws) := by
  have hp := sort_perm (e := D.str) ws
  refine ⟨sortS_rises h.2.1, by rw [sortS_len, h.1]; exact h1, by rw [sortS_len, h.1]; exact h7, fun x hx => h.2.2 x (hp.mem_iff.mp hx)⟩
/-! ### parts -/
/-! ### the laws' parts -/
/-! ### what bars -/
/-! ### a yard: what holds of its sets -/
/-- each but nothing is another one and a thing more -/
def Acc (L : List (List Str)) : Prop := ∀ l ∈ L, l ≠ [] → ∃ x ∈ l, less l x ∈ L
theorem SetsOf.acc {g : List Str} {ok : List Str → Str → Bool} {L : List (List Str)} (h : SetsOf g ok L) : Acc L := fun l hl hn => by
  obtain ⟨x, hx, h1, _⟩ := ((h.mem l).mp hl).last hn
  exact ⟨x, hx, (h.mem _).mpr h1⟩
/-- each set that has the thing has one of needs -/
def KeepsR (L : List (List Str)) (x : Str) (needs : List Str) : Prop := ∀ l ∈ L, x ∈ l → ∃ y ∈ needs, y ∈ l
theorem KeepsR.mono {L : List (List Str)} {x : Str} {a b : List Str} (h : KeepsR L x a) (hs : ∀ y ∈ a, y ∈ b) : KeepsR L x b := fun l hl hx => by
  obtain ⟨y, hy, hyl⟩ := h l hl hx
  exact ⟨y, hs y hy, hyl⟩
end Pk
namespace Pk
open PySem PySem.Spec PyProof.Rows L2
/-! ### yards of what lets more the more there is -/
def MonoK (ok : List Str → Str → Bool) : Prop := ∀ (l m : List Str) (x : Str), (∀ y ∈ l, y ∈ m) → ok l x = true → ok m x = true
theorem rulesOk_mono (rs : List (Str × List Str)) : MonoK (rulesOk rs) := fun l m x hs h => by
  unfold rulesOk at h ⊢
  rw [List.all_eq_true] at h ⊢
  intro p hp
  have := h p hp
  simp only [Bool.or_eq_true, Bool.not_eq_true', decide_eq_false_iff_not, List.any_eq_true, decide_eq_true_eq] at this ⊢
  rcases this with z | ⟨y, hy, hyl⟩
  · exact .inl z
  · exact .inr ⟨y, hy, hs y hyl⟩
section
variable {g : List Str} {ok : List Str → Str → Bool}
end
/-! ### sets that have a thing of each -/
/-! ### brings, rising -/
end Pk
namespace Pk
open PySem PySem.Spec PyProof.Rows L2
/-- with_one(some, one): slots 0=some 1=one -/
noncomputable def b_with_one : Sx :=
  (sRet (e1 oTuple (eL (l1 oSort (eBin .Add (eRd 0) (eTup [(eVar 1)]))))))
noncomputable def g_with_one : List D → M D := fnOf 2 2 b_with_one
/-- may(yard, some): slots 0=yard 1=some 2=one -/
noncomputable def b_may : Sx :=
  (sSeq (sDrop (eCall g_need_taken [(eVar 0), (eVar 1)]))
  (sRet (eL (lComp [2] (itSeq (eIx (eRd 0) (eCon (.int 0)))) (tgN 2) (tAnd (tCmp .NotIn (eRd 2) (eRd 1)) (tCmp .In (eCall g_with_one [(eVar 1), (eVar 2)]) (eIx (eRd 0) (eCon (.int 1))))) (eVar 2)))))
noncomputable def g_may : List D → M D := fnOf 3 2 b_may
theorem with_one_w {l : List Str} {x : Str} (hl : l.length ≤ 1000000) {S : Store} {Q : D → Store → Prop} (q : Q (dT (more l x)) S) : wE (g_with_one [dT l, .str x] S) Q := by
  have hz : sizeLine = 16777216 := by decide
  refine w_fn rfl ?_
  unfold b_with_one
  have hlx : l.map D.str ++ [D.str x] = (l ++ [x]).map D.str := by simp
  have hll : l.length + 1 ≤ sizeLine := by omega
  (repeat (first | (first | refine x_seq ?_ | refine x_set ?_ | refine x_own ?_ | refine x_asg ?_ | refine x_drop ?_ | refine x_ret ?_ | refine x_if ?_ | refine x_nil ?_ | refine x_for ?_ | refine x_augix ?_ | refine x_put ?_ | refine x_dnew ?_ | refine x_putd rfl ?_ | refine x_mt rfl ?_ | refine x_aug rfl ?_ | refine x_frz ?_ | refine x_ext rfl ?_ | refine x_ct ?_ | refine x_bk ?_ | refine x_retN ?_) | simp only [↓w_con, ↓w_var, ↓w_rd, ↓w_e1, ↓w_e2, ↓w_bin, ↓w_cmp, ↓w_ix, ↓w_neg, ↓w_not, ↓w_and, ↓w_or, ↓w_if, ↓w_args0, ↓w_args, ↓w_tup, ↓w_lst, ↓w_L, ↓w_cell, ↓w_call, ↓w_l1, ↓w_l2, ↓w_sortk, ↓w_str, ↓w_part0, ↓w_part, ↓w_cut, ↓w_lcut, ↓w_tval, ↓w_tcmp, ↓w_tnot, ↓w_tand, ↓w_tor, ↓w_tyes, ↓w_seq, ↓w_itB, ↓w_comp, ↓wO_some, ↓wO_none, ↓wO_bind, ↓wO_map, ↓wO_gd, List.map_cons, List.map_nil, List.cons_append, List.nil_append, List.replicate, List.getElem?_cons_zero, List.getElem?_cons_succ, List.set_cons_zero, List.set_cons_succ, der_non, der_bl, der_int, der_str, der_tup, der_lst, der_dct, der_ref, ↓oBin, ↓oAdd, ↓oSub, ↓oMul, ↓oMod, ↓oDiv, ↓oPow, ↓oCmp, ↓oTru, ↓oBl, ↓oNeg, ↓oIx, atI_0, atI_1, ixN_20, ixN_21, ↓oLen, ↓oTuple, ↓oInt, ↓oMax, ↓oMin, ↓oCut, ↓oList, ↓tgN, ↓tgT, ↓setAll, ↓listAt, ↓Pk.putAt, ↓wipeS, ↓getAtI, ↓setAtI, ↓oIp, List.length_cons, List.length_nil, Bool.not_true, Bool.not_false, if_true, if_false, ite_true, ite_false, reduceIte, List.length_replicate, Nat.reduceSub, Nat.reduceAdd, Int.reduceLT, Int.reduceLE, Int.reduceNeg, Bool.false_eq_true, Bool.true_eq_false, true_and, and_true, List.length_map, hlx, oSort_strT] | (refine And.intro ?pk1 ?_; (case pk1 => (first | assumption | decide | omega | exact ⟨by assumption, by omega⟩ | (constructor <;> first | assumption | decide | omega) | (simp [okMul]; done))))))
  exact q
noncomputable def nexts (g : List Str) (L : List (List Str)) (l : List Str) : List Str := g.filter fun x => !decide (x ∈ l) && decide (more l x ∈ L)
/-- the sets of a yard are sets of its ground -/
def SetsOk (g : List Str) (L : List (List Str)) : Prop := L.length ≤ 1000000 ∧ g.length ≤ 7 ∧ ∀ l ∈ L, Rises l ∧ ∀ x ∈ l, x ∈ g
theorem SetsOk.len {g : List Str} {L : List (List Str)} (h : SetsOk g L) {l : List Str} (hl : l ∈ L) : l.length ≤ 7 := Nat.le_trans (nodup_len (h.2.2 l hl).1.nodup (h.2.2 l hl).2) h.2.1
theorem may_w {g l : List Str} {L : List (List Str)} (h : SetsOk g L) (hl : l ∈ L) {S : Store} {Q : D → Store → Prop} (q : Q (.lst ((nexts g L l).map D.str)) S) : wE (g_may [dY g L, dT l] S) Q := by
  have hll := h.len hl
  refine w_fn rfl ?_
  unfold b_may
  (repeat (first | (first | refine x_seq ?_ | refine x_set ?_ | refine x_own ?_ | refine x_asg ?_ | refine x_drop ?_ | refine x_ret ?_ | refine x_if ?_ | refine x_nil ?_ | refine x_for ?_ | refine x_augix ?_ | refine x_put ?_ | refine x_dnew ?_ | refine x_putd rfl ?_ | refine x_mt rfl ?_ | refine x_aug rfl ?_ | refine x_frz ?_ | refine x_ext rfl ?_ | refine x_ct ?_ | refine x_bk ?_ | refine x_retN ?_) | simp only [↓w_con, ↓w_var, ↓w_rd, ↓w_e1, ↓w_e2, ↓w_bin, ↓w_cmp, ↓w_ix, ↓w_neg, ↓w_not, ↓w_and, ↓w_or, ↓w_if, ↓w_args0, ↓w_args, ↓w_tup, ↓w_lst, ↓w_L, ↓w_cell, ↓w_call, ↓w_l1, ↓w_l2, ↓w_sortk, ↓w_str, ↓w_part0, ↓w_part, ↓w_cut, ↓w_lcut, ↓w_tval, ↓w_tcmp, ↓w_tnot, ↓w_tand, ↓w_tor, ↓w_tyes, ↓w_seq, ↓w_itB, ↓w_comp, ↓wO_some, ↓wO_none, ↓wO_bind, ↓wO_map, ↓wO_gd, List.map_cons, List.map_nil, List.cons_append, List.nil_append, List.replicate, List.getElem?_cons_zero, List.getElem?_cons_succ, List.set_cons_zero, List.set_cons_succ, der_non, der_bl, der_int, der_str, der_tup, der_lst, der_dct, der_ref, ↓oBin, ↓oAdd, ↓oSub, ↓oMul, ↓oMod, ↓oDiv, ↓oPow, ↓oCmp, ↓oTru, ↓oBl, ↓oNeg, ↓oIx, atI_0, atI_1, ixN_20, ixN_21, ↓oLen, ↓oTuple, ↓oInt, ↓oMax, ↓oMin, ↓oCut, ↓oList, ↓tgN, ↓tgT, ↓setAll, ↓listAt, ↓Pk.putAt, ↓wipeS, ↓getAtI, ↓setAtI, ↓oIp, List.length_cons, List.length_nil, Bool.not_true, Bool.not_false, if_true, if_false, ite_true, ite_false, reduceIte, List.length_replicate, Nat.reduceSub, Nat.reduceAdd, Int.reduceLT, Int.reduceLE, Int.reduceNeg, Bool.false_eq_true, Bool.true_eq_false, true_and, and_true] | (refine And.intro ?pk1 ?_; (case pk1 => (first | assumption | decide | omega | exact ⟨by assumption, by omega⟩ | (constructor <;> first | assumption | decide | omega) | (simp [okMul]; done))))))
  refine need_taken_w (h.2.2 l hl).1 (h.2.2 l hl).2 hl ?_
  (repeat (first | (first | refine x_seq ?_ | refine x_set ?_ | refine x_own ?_ | refine x_asg ?_ | refine x_drop ?_ | refine x_ret ?_ | refine x_if ?_ | refine x_nil ?_ | refine x_for ?_ | refine x_augix ?_ | refine x_put ?_ | refine x_dnew ?_ | refine x_putd rfl ?_ | refine x_mt rfl ?_ | refine x_aug rfl ?_ | refine x_frz ?_ | refine x_ext rfl ?_ | refine x_ct ?_ | refine x_bk ?_ | refine x_retN ?_) | simp only [↓w_con, ↓w_var, ↓w_rd, ↓w_e1, ↓w_e2, ↓w_bin, ↓w_cmp, ↓w_ix, ↓w_neg, ↓w_not, ↓w_and, ↓w_or, ↓w_if, ↓w_args0, ↓w_args, ↓w_tup, ↓w_lst, ↓w_L, ↓w_cell, ↓w_call, ↓w_l1, ↓w_l2, ↓w_sortk, ↓w_str, ↓w_part0, ↓w_part, ↓w_cut, ↓w_lcut, ↓w_tval, ↓w_tcmp, ↓w_tnot, ↓w_tand, ↓w_tor, ↓w_tyes, ↓w_seq, ↓w_itB, ↓w_comp, ↓wO_some, ↓wO_none, ↓wO_bind, ↓wO_map, ↓wO_gd, List.map_cons, List.map_nil, List.cons_append, List.nil_append, List.replicate, List.getElem?_cons_zero, List.getElem?_cons_succ, List.set_cons_zero, List.set_cons_succ, der_non, der_bl, der_int, der_str, der_tup, der_lst, der_dct, der_ref, ↓oBin, ↓oAdd, ↓oSub, ↓oMul, ↓oMod, ↓oDiv, ↓oPow, ↓oCmp, ↓oTru, ↓oBl, ↓oNeg, ↓oIx, atI_0, atI_1, ixN_20, ixN_21, ↓oLen, ↓oTuple, ↓oInt, ↓oMax, ↓oMin, ↓oCut, ↓oList, ↓tgN, ↓tgT, ↓setAll, ↓listAt, ↓Pk.putAt, ↓wipeS, ↓getAtI, ↓setAtI, ↓oIp, List.length_cons, List.length_nil, Bool.not_true, Bool.not_false, if_true, if_false, ite_true, ite_false, reduceIte, List.length_replicate, Nat.reduceSub, Nat.reduceAdd, Int.reduceLT, Int.reduceLE, Int.reduceNeg, Bool.false_eq_true, Bool.true_eq_false, true_and, and_true] | (refine And.intro ?pk1 ?_; (case pk1 => (first | assumption | decide | omega | exact ⟨by assumption, by omega⟩ | (constructor <;> first | assumption | decide | omega) | (simp [okMul]; done))))))
  refine compD_map D.str (fun x => !decide (x ∈ l) && decide (more l x ∈ L)) D.str (fun x _ => ?_) ?_
  · (repeat (first | (first | refine x_seq ?_ | refine x_set ?_ | refine x_own ?_ | refine x_asg ?_ | refine x_drop ?_ | refine x_ret ?_ | refine x_if ?_ | refine x_nil ?_ | refine x_for ?_ | refine x_augix ?_ | refine x_put ?_ | refine x_dnew ?_ | refine x_putd rfl ?_ | refine x_mt rfl ?_ | refine x_aug rfl ?_ | refine x_frz ?_ | refine x_ext rfl ?_ | refine x_ct ?_ | refine x_bk ?_ | refine x_retN ?_) | simp only [↓w_con, ↓w_var, ↓w_rd, ↓w_e1, ↓w_e2, ↓w_bin, ↓w_cmp, ↓w_ix, ↓w_neg, ↓w_not, ↓w_and, ↓w_or, ↓w_if, ↓w_args0, ↓w_args, ↓w_tup, ↓w_lst, ↓w_L, ↓w_cell, ↓w_call, ↓w_l1, ↓w_l2, ↓w_sortk, ↓w_str, ↓w_part0, ↓w_part, ↓w_cut, ↓w_lcut, ↓w_tval, ↓w_tcmp, ↓w_tnot, ↓w_tand, ↓w_tor, ↓w_tyes, ↓w_seq, ↓w_itB, ↓w_comp, ↓wO_some, ↓wO_none, ↓wO_bind, ↓wO_map, ↓wO_gd, List.map_cons, List.map_nil, List.cons_append, List.nil_append, List.replicate, List.getElem?_cons_zero, List.getElem?_cons_succ, List.set_cons_zero, List.set_cons_succ, der_non, der_bl, der_int, der_str, der_tup, der_lst, der_dct, der_ref, ↓oBin, ↓oAdd, ↓oSub, ↓oMul, ↓oMod, ↓oDiv, ↓oPow, ↓oCmp, ↓oTru, ↓oBl, ↓oNeg, ↓oIx, atI_0, atI_1, ixN_20, ixN_21, ↓oLen, ↓oTuple, ↓oInt, ↓oMax, ↓oMin, ↓oCut, ↓oList, ↓tgN, ↓tgT, ↓setAll, ↓listAt, ↓Pk.putAt, ↓wipeS, ↓getAtI, ↓setAtI, ↓oIp, List.length_cons, List.length_nil, Bool.not_true, Bool.not_false, if_true, if_false, ite_true, ite_false, reduceIte, List.length_replicate, Nat.reduceSub, Nat.reduceAdd, Int.reduceLT, Int.reduceLE, Int.reduceNeg, Bool.false_eq_true, Bool.true_eq_false, true_and, and_true, oIn_tup (e := D.str) em_str (by decide), Option.map_some] | (refine And.intro ?pk1 ?_; (case pk1 => (first | assumption | decide | omega | exact ⟨by assumption, by omega⟩ | (constructor <;> first | assumption | decide | omega) | (simp [okMul]; done))))))
    by_cases hx : x ∈ l
    · simp [hx]
    · simp only [hx, decide_false]
      (repeat (first | (first | refine x_seq ?_ | refine x_set ?_ | refine x_own ?_ | refine x_asg ?_ | refine x_drop ?_ | refine x_ret ?_ | refine x_if ?_ | refine x_nil ?_ | refine x_for ?_ | refine x_augix ?_ | refine x_put ?_ | refine x_dnew ?_ | refine x_putd rfl ?_ | refine x_mt rfl ?_ | refine x_aug rfl ?_ | refine x_frz ?_ | refine x_ext rfl ?_ | refine x_ct ?_ | refine x_bk ?_ | refine x_retN ?_) | simp only [↓w_con, ↓w_var, ↓w_rd, ↓w_e1, ↓w_e2, ↓w_bin, ↓w_cmp, ↓w_ix, ↓w_neg, ↓w_not, ↓w_and, ↓w_or, ↓w_if, ↓w_args0, ↓w_args, ↓w_tup, ↓w_lst, ↓w_L, ↓w_cell, ↓w_call, ↓w_l1, ↓w_l2, ↓w_sortk, ↓w_str, ↓w_part0, ↓w_part, ↓w_cut, ↓w_lcut, ↓w_tval, ↓w_tcmp, ↓w_tnot, ↓w_tand, ↓w_tor, ↓w_tyes, ↓w_seq, ↓w_itB, ↓w_comp, ↓wO_some, ↓wO_none, ↓wO_bind, ↓wO_map, ↓wO_gd, List.map_cons, List.map_nil, List.cons_append, List.nil_append, List.replicate, List.getElem?_cons_zero, List.getElem?_cons_succ, List.set_cons_zero, List.set_cons_succ, der_non, der_bl, der_int, der_str, der_tup, der_lst, der_dct, der_ref, ↓oBin, ↓oAdd, ↓oSub, ↓oMul, ↓oMod, ↓oDiv, ↓oPow, ↓oCmp, ↓oTru, ↓oBl, ↓oNeg, ↓oIx, atI_0, atI_1, ixN_20, ixN_21, ↓oLen, ↓oTuple, ↓oInt, ↓oMax, ↓oMin, ↓oCut, ↓oList, ↓tgN, ↓tgT, ↓setAll, ↓listAt, ↓Pk.putAt, ↓wipeS, ↓getAtI, ↓setAtI, ↓oIp, List.length_cons, List.length_nil, Bool.not_true, Bool.not_false, if_true, if_false, ite_true, ite_false, reduceIte, List.length_replicate, Nat.reduceSub, Nat.reduceAdd, Int.reduceLT, Int.reduceLE, Int.reduceNeg, Bool.false_eq_true, Bool.true_eq_false, true_and, and_true] | (refine And.intro ?pk1 ?_; (case pk1 => (first | assumption | decide | omega | exact ⟨by assumption, by omega⟩ | (constructor <;> first | assumption | decide | omega) | (simp [okMul]; done))))))
      refine with_one_w (by omega) ?_
      (repeat (first | (first | refine x_seq ?_ | refine x_set ?_ | refine x_own ?_ | refine x_asg ?_ | refine x_drop ?_ | refine x_ret ?_ | refine x_if ?_ | refine x_nil ?_ | refine x_for ?_ | refine x_augix ?_ | refine x_put ?_ | refine x_dnew ?_ | refine x_putd rfl ?_ | refine x_mt rfl ?_ | refine x_aug rfl ?_ | refine x_frz ?_ | refine x_ext rfl ?_ | refine x_ct ?_ | refine x_bk ?_ | refine x_retN ?_) | simp only [↓w_con, ↓w_var, ↓w_rd, ↓w_e1, ↓w_e2, ↓w_bin, ↓w_cmp, ↓w_ix, ↓w_neg, ↓w_not, ↓w_and, ↓w_or, ↓w_if, ↓w_args0, ↓w_args, ↓w_tup, ↓w_lst, ↓w_L, ↓w_cell, ↓w_call, ↓w_l1, ↓w_l2, ↓w_sortk, ↓w_str, ↓w_part0, ↓w_part, ↓w_cut, ↓w_lcut, ↓w_tval, ↓w_tcmp, ↓w_tnot, ↓w_tand, ↓w_tor, ↓w_tyes, ↓w_seq, ↓w_itB, ↓w_comp, ↓wO_some, ↓wO_none, ↓wO_bind, ↓wO_map, ↓wO_gd, List.map_cons, List.map_nil, List.cons_append, List.nil_append, List.replicate, List.getElem?_cons_zero, List.getElem?_cons_succ, List.set_cons_zero, List.set_cons_succ, der_non, der_bl, der_int, der_str, der_tup, der_lst, der_dct, der_ref, ↓oBin, ↓oAdd, ↓oSub, ↓oMul, ↓oMod, ↓oDiv, ↓oPow, ↓oCmp, ↓oTru, ↓oBl, ↓oNeg, ↓oIx, atI_0, atI_1, ixN_20, ixN_21, ↓oLen, ↓oTuple, ↓oInt, ↓oMax, ↓oMin, ↓oCut, ↓oList, ↓tgN, ↓tgT, ↓setAll, ↓listAt, ↓Pk.putAt, ↓wipeS, ↓getAtI, ↓setAtI, ↓oIp, List.length_cons, List.length_nil, Bool.not_true, Bool.not_false, if_true, if_false, ite_true, ite_false, reduceIte, List.length_replicate, Nat.reduceSub, Nat.reduceAdd, Int.reduceLT, Int.reduceLE, Int.reduceNeg, Bool.false_eq_true, Bool.true_eq_false, true_and, and_true, oIn_tup (e := dT) em_T (by decide)] | (refine And.intro ?pk1 ?_; (case pk1 => (first | assumption | decide | omega | exact ⟨by assumption, by omega⟩ | (constructor <;> first | assumption | decide | omega) | (simp [okMul]; done))))))
      simp
  · (repeat (first | (first | refine x_seq ?_ | refine x_set ?_ | refine x_own ?_ | refine x_asg ?_ | refine x_drop ?_ | refine x_ret ?_ | refine x_if ?_ | refine x_nil ?_ | refine x_for ?_ | refine x_augix ?_ | refine x_put ?_ | refine x_dnew ?_ | refine x_putd rfl ?_ | refine x_mt rfl ?_ | refine x_aug rfl ?_ | refine x_frz ?_ | refine x_ext rfl ?_ | refine x_ct ?_ | refine x_bk ?_ | refine x_retN ?_) | simp only [↓w_con, ↓w_var, ↓w_rd, ↓w_e1, ↓w_e2, ↓w_bin, ↓w_cmp, ↓w_ix, ↓w_neg, ↓w_not, ↓w_and, ↓w_or, ↓w_if, ↓w_args0, ↓w_args, ↓w_tup, ↓w_lst, ↓w_L, ↓w_cell, ↓w_call, ↓w_l1, ↓w_l2, ↓w_sortk, ↓w_str, ↓w_part0, ↓w_part, ↓w_cut, ↓w_lcut, ↓w_tval, ↓w_tcmp, ↓w_tnot, ↓w_tand, ↓w_tor, ↓w_tyes, ↓w_seq, ↓w_itB, ↓w_comp, ↓wO_some, ↓wO_none, ↓wO_bind, ↓wO_map, ↓wO_gd, List.map_cons, List.map_nil, List.cons_append, List.nil_append, List.replicate, List.getElem?_cons_zero, List.getElem?_cons_succ, List.set_cons_zero, List.set_cons_succ, der_non, der_bl, der_int, der_str, der_tup, der_lst, der_dct, der_ref, ↓oBin, ↓oAdd, ↓oSub, ↓oMul, ↓oMod, ↓oDiv, ↓oPow, ↓oCmp, ↓oTru, ↓oBl, ↓oNeg, ↓oIx, atI_0, atI_1, ixN_20, ixN_21, ↓oLen, ↓oTuple, ↓oInt, ↓oMax, ↓oMin, ↓oCut, ↓oList, ↓tgN, ↓tgT, ↓setAll, ↓listAt, ↓Pk.putAt, ↓wipeS, ↓getAtI, ↓setAtI, ↓oIp, List.length_cons, List.length_nil, Bool.not_true, Bool.not_false, if_true, if_false, ite_true, ite_false, reduceIte, List.length_replicate, Nat.reduceSub, Nat.reduceAdd, Int.reduceLT, Int.reduceLE, Int.reduceNeg, Bool.false_eq_true, Bool.true_eq_false, true_and, and_true] | (refine And.intro ?pk1 ?_; (case pk1 => (first | assumption | decide | omega | exact ⟨by assumption, by omega⟩ | (constructor <;> first | assumption | decide | omega) | (simp [okMul]; done))))))
    exact q
/-- may be taken behind any one of those -/
noncomputable def late (L : List (List Str)) (l ns : List Str) (x : Str) : Bool := ns.all fun y => decide (sortS (l ++ [x, y]) ∈ L)
/-- one turn of the inner walk -/
noncomputable def put (g : List Str) (L : List (List Str)) (l : List Str) (B : List (Str × List Str)) (x : Str) : List (Str × List Str) := if x ∉ l ∧ x ∉ nexts g L l ∧ (x, nexts g L l) ∉ B ∧ late L l (nexts g L l) x = true then B ++ [(x, nexts g L l)] else B
noncomputable def least (g : List Str) (L : List (List Str)) : List (Str × List Str) := L.foldl (fun B l => g.foldl (put g L l) B) []
/-! ### what least_rules finds -/
theorem nexts_mem {g l : List Str} {L : List (List Str)} {x : Str} : x ∈ nexts g L l ↔ x ∈ g ∧ x ∉ l ∧ more l x ∈ L := by
  unfold nexts; simp
end Pk
namespace Pk
open PySem PySem.Spec PyProof.Rows L2
noncomputable def b_law_rulesD : Sx :=
  (sSeq (sSet 2 (eBin .Add (eCon (.int 2)) (eCall g_law_next [(eVar 0), (eCon (.int 3))])))
  (sSeq (sOwn 3 (lLst []))
  (sSeq (sFor (itSeq (eVar 1)) (tgN 4)
    (sFor (itB oRng1 [(eIx (eL (lLst [(eCon (.int 0)), (eCon (.int 1)), (eCon (.int 1)), (eCon (.int 2)), (eCon (.int 3)), (eCon (.int 6))])) (eCall g_law_next [(eVar 0), (eCon (.int 6))]))]) (tgN 5)
      (sMt 3 mAppend [(eTup [(eVar 4), (e1 oTuple (eL (lComp [6] (itSeq (eRd 1)) (tgN 6) (tAnd (tCmp .NotEq (eRd 6) (eRd 4)) (tCmp .Eq (eCall g_law_next [(eVar 0), (eVar 2)]) (eCon (.int 0)))) (eVar 6))))])])))
  (sRet (eRd 3)))))
noncomputable def g_law_rulesD : List D → M D := fnOf 7 2 b_law_rulesD
noncomputable def b_law_setsD : Sx :=
  (sSeq (sAsg (tgT [2, 3]) (eTup [(eL (lLst [])), (eL (lLst [(eTup [])]))]))
  (sSeq (sSet 4 (eL (lComp [7] (itSeq (eRd 0)) (tgN 7) tYes (eTup [(eVar 7), (eL (lComp [5, 6] (itSeq (eRd 1)) (tgT [5, 6]) (tCmp .Eq (eRd 5) (eRd 7)) (eVar 6)))]))))
  (sSeq (sWhile (tCmp .NotEq (eRd 3) (eL (lLst [])))
    (sSeq (sSet 2 (eBin .Add (eRd 2) (eRd 3)))
    (sSeq (sDnew 8 true)
    (sSeq (sFor (itSeq (eVar 3)) (tgN 9)
      (sFor (itSeq (eVar 4)) (tgT [7, 10])
        (sIf (tAnd (tCmp .NotIn (eRd 7) (eRd 9)) (tVal (e1 oAll (eL (lComp [6] (itSeq (eRd 10)) (tgN 6) tYes (eCall g_law_meet [(eVar 6), (eVar 9)]))))))
          (sPutD 8 (e1 oTuple (eL (l1 oSort (eBin .Add (eRd 9) (eTup [(eVar 7)]))))) (eCon (.bl true)))
          sNil)))
    (sSet 3 (eL (l1 oSort (eL (l1 oList (eRd 8))))))))))
  (sRet (eRd 2)))))
noncomputable def g_law_setsD : List D → M D := fnOf 11 2 b_law_setsD
noncomputable def b_law_groundD : Sx :=
  (sSeq (sSet 2 (eIx (eL (lLst [(eCon (.int 1)), (eCon (.int 2)), (eCon (.int 3)), (eCon (.int 3)), (eCon (.int 4)), (eCon (.int 4)), (eCon (.int 5)), (eIx (eL (lLst [(eCon (.int 7)), (eCon (.int 5))])) (e1 oInt (eCmp .Gt (eRd 1) (eCon (.int 0)))))])) (eCall g_law_next [(eVar 0), (eCon (.int 8))])))
  (sRet (e1 oTuple (eL (l1 oSort (eCall g_law_namesB [(eVar 0), (eVar 2)]))))))
noncomputable def g_law_groundD : List D → M D := fnOf 3 2 b_law_groundD
/-! ### dicts that hold sets -/
def dKV (l : List Str) : D × D := (dT l, .bl true)
theorem keysL_str : ∀ l : List Str, keysL (l.map D.str) = some (l.map Sum.inr)
  | [] => rfl
  | x :: l => by
    simp only [List.map_cons, keysL, keyD, Option.bind_some, keysL_str l, Option.map_some]
theorem kOf_T (l : List Str) : kOf true (dT l) = some (l.map Sum.inr) := keysL_str l
theorem kOf_iff {l m : List Str} : (kOf true (dT l) = some (m.map Sum.inr)) ↔ l = m := by
  rw [kOf_T]
  constructor
  · intro h
    have h := Option.some.inj h
    exact List.map_inj_right (fun _ _ z => Sum.inr.inj z) |>.mp h
  · rintro rfl; rfl
theorem dPut_T (M : List (List Str)) (l : List Str) : dPut true (M.map dKV) (dT l) (l.map Sum.inr) (.bl true) = (if l ∈ M then M else M ++ [l]).map dKV := by
  unfold dPut
  have e : ((M.map dKV).any fun p => decide (kOf true p.1 = some (l.map Sum.inr))) = decide (l ∈ M) := by
    rw [List.any_map]
    induction M with
    | nil => simp
    | cons a M ih =>
      rw [List.any_cons, ih]
      have : decide (kOf true (dKV a).1 = some (l.map Sum.inr)) = decide (a = l) := decide_eq_decide.mpr kOf_iff
      show (decide (kOf true (dKV a).1 = some (l.map Sum.inr)) || _) = _
      rw [this]
      by_cases h : a = l
      · simp [h]
      · simp [h, Ne.symm h]
  rw [e]
  by_cases h : l ∈ M
  · simp only [h, decide_true, if_true]
    rw [List.map_map]
    refine List.map_congr_left fun a ha => ?_
    show (if kOf true (dT a) = some (l.map Sum.inr) then (dT a, D.bl true) else (dT a, D.bl true)) = _
    split <;> rfl
  · simp only [h, decide_false, if_false, Bool.false_eq_true]
    rw [List.map_append]; rfl
theorem keys_dct (M : List (List Str)) : (M.map dKV).map (·.1) = M.map dT := by rw [List.map_map]; rfl
theorem rulesD_w {n : Nat} {g : List Str} (hg : g.length ≤ 7) {S : Store} (hd : Drw S n) {Q : D → Store → Prop} (q : ∀ (rs : List (Str × List Str)) S', rs.length ≤ 42 → Fr n S S' → Q (.lst (rs.map dB)) S') : wE (g_law_rulesD [.ref n, dT g] S) Q := by
  have hz : 1000000 < sizeLine := by decide
  refine w_fn rfl ?_
  unfold b_law_rulesD
  (repeat (first | (first | refine x_seq ?_ | refine x_set ?_ | refine x_own ?_ | refine x_asg ?_ | refine x_drop ?_ | refine x_ret ?_ | refine x_if ?_ | refine x_nil ?_ | refine x_for ?_ | refine x_augix ?_ | refine x_put ?_ | refine x_dnew ?_ | refine x_putd rfl ?_ | refine x_mt rfl ?_ | refine x_aug rfl ?_ | refine x_frz ?_ | refine x_ext rfl ?_ | refine x_ct ?_ | refine x_bk ?_ | refine x_retN ?_) | simp only [↓w_con, ↓w_var, ↓w_rd, ↓w_e1, ↓w_e2, ↓w_bin, ↓w_cmp, ↓w_ix, ↓w_neg, ↓w_not, ↓w_and, ↓w_or, ↓w_if, ↓w_args0, ↓w_args, ↓w_tup, ↓w_lst, ↓w_L, ↓w_cell, ↓w_call, ↓w_l1, ↓w_l2, ↓w_sortk, ↓w_str, ↓w_part0, ↓w_part, ↓w_cut, ↓w_lcut, ↓w_tval, ↓w_tcmp, ↓w_tnot, ↓w_tand, ↓w_tor, ↓w_tyes, ↓w_seq, ↓w_itB, ↓w_comp, ↓wO_some, ↓wO_none, ↓wO_bind, ↓wO_map, ↓wO_gd, List.map_cons, List.map_nil, List.cons_append, List.nil_append, List.replicate, List.getElem?_cons_zero, List.getElem?_cons_succ, List.set_cons_zero, List.set_cons_succ, der_non, der_bl, der_int, der_str, der_tup, der_lst, der_dct, der_ref, ↓oBin, ↓oAdd, ↓oSub, ↓oMul, ↓oMod, ↓oDiv, ↓oPow, ↓oCmp, ↓oTru, ↓oBl, ↓oNeg, ↓oIx, atI_0, atI_1, ixN_20, ixN_21, ↓oLen, ↓oTuple, ↓oInt, ↓oMax, ↓oMin, ↓oCut, ↓oList, ↓tgN, ↓tgT, ↓setAll, ↓listAt, ↓Pk.putAt, ↓wipeS, ↓getAtI, ↓setAtI, ↓oIp, List.length_cons, List.length_nil, Bool.not_true, Bool.not_false, if_true, if_false, ite_true, ite_false, reduceIte, List.length_replicate, Nat.reduceSub, Nat.reduceAdd, Int.reduceLT, Int.reduceLE, Int.reduceNeg, Bool.false_eq_true, Bool.true_eq_false, true_and, and_true] | (refine And.intro ?pk1 ?_; (case pk1 => (first | assumption | decide | omega | exact ⟨by assumption, by omega⟩ | (constructor <;> first | assumption | decide | omega) | (simp [okMul]; done))))))
  refine next_w hd (by decide) (by decide) fun t S1 h0 h1 fr1 => ?_
  (repeat (first | (first | refine x_seq ?_ | refine x_set ?_ | refine x_own ?_ | refine x_asg ?_ | refine x_drop ?_ | refine x_ret ?_ | refine x_if ?_ | refine x_nil ?_ | refine x_for ?_ | refine x_augix ?_ | refine x_put ?_ | refine x_dnew ?_ | refine x_putd rfl ?_ | refine x_mt rfl ?_ | refine x_aug rfl ?_ | refine x_frz ?_ | refine x_ext rfl ?_ | refine x_ct ?_ | refine x_bk ?_ | refine x_retN ?_) | simp only [↓w_con, ↓w_var, ↓w_rd, ↓w_e1, ↓w_e2, ↓w_bin, ↓w_cmp, ↓w_ix, ↓w_neg, ↓w_not, ↓w_and, ↓w_or, ↓w_if, ↓w_args0, ↓w_args, ↓w_tup, ↓w_lst, ↓w_L, ↓w_cell, ↓w_call, ↓w_l1, ↓w_l2, ↓w_sortk, ↓w_str, ↓w_part0, ↓w_part, ↓w_cut, ↓w_lcut, ↓w_tval, ↓w_tcmp, ↓w_tnot, ↓w_tand, ↓w_tor, ↓w_tyes, ↓w_seq, ↓w_itB, ↓w_comp, ↓wO_some, ↓wO_none, ↓wO_bind, ↓wO_map, ↓wO_gd, List.map_cons, List.map_nil, List.cons_append, List.nil_append, List.replicate, List.getElem?_cons_zero, List.getElem?_cons_succ, List.set_cons_zero, List.set_cons_succ, der_non, der_bl, der_int, der_str, der_tup, der_lst, der_dct, der_ref, ↓oBin, ↓oAdd, ↓oSub, ↓oMul, ↓oMod, ↓oDiv, ↓oPow, ↓oCmp, ↓oTru, ↓oBl, ↓oNeg, ↓oIx, atI_0, atI_1, ixN_20, ixN_21, ↓oLen, ↓oTuple, ↓oInt, ↓oMax, ↓oMin, ↓oCut, ↓oList, ↓tgN, ↓tgT, ↓setAll, ↓listAt, ↓Pk.putAt, ↓wipeS, ↓getAtI, ↓setAtI, ↓oIp, List.length_cons, List.length_nil, Bool.not_true, Bool.not_false, if_true, if_false, ite_true, ite_false, reduceIte, List.length_replicate, Nat.reduceSub, Nat.reduceAdd, Int.reduceLT, Int.reduceLE, Int.reduceNeg, Bool.false_eq_true, Bool.true_eq_false, true_and, and_true] | (refine And.intro ?pk1 ?_; (case pk1 => (first | assumption | decide | omega | exact ⟨by assumption, by omega⟩ | (constructor <;> first | assumption | decide | omega) | (simp [okMul]; done))))))
  refine forD_map D.str (fun rest r S' => ∃ (rs : List (Str × List Str)) (s4 s5 s6 : Slot), rs.length + 6 * rest.length ≤ 42 ∧ Fr n S S' ∧ r = [.val (.ref n), .val (dT g), .val (.int (2 + t)), .own (rs.map dB), s4, s5, s6]) ?_ ?_ g _ S1 ⟨[], Slot.emp, Slot.emp, Slot.emp, by simp only [List.length_nil]; omega, fr1, rfl⟩
  · rintro r S' ⟨rs, s4, s5, s6, hl, fr, rfl⟩
    (repeat (first | (first | refine x_seq ?_ | refine x_set ?_ | refine x_own ?_ | refine x_asg ?_ | refine x_drop ?_ | refine x_ret ?_ | refine x_if ?_ | refine x_nil ?_ | refine x_for ?_ | refine x_augix ?_ | refine x_put ?_ | refine x_dnew ?_ | refine x_putd rfl ?_ | refine x_mt rfl ?_ | refine x_aug rfl ?_ | refine x_frz ?_ | refine x_ext rfl ?_ | refine x_ct ?_ | refine x_bk ?_ | refine x_retN ?_) | simp only [↓w_con, ↓w_var, ↓w_rd, ↓w_e1, ↓w_e2, ↓w_bin, ↓w_cmp, ↓w_ix, ↓w_neg, ↓w_not, ↓w_and, ↓w_or, ↓w_if, ↓w_args0, ↓w_args, ↓w_tup, ↓w_lst, ↓w_L, ↓w_cell, ↓w_call, ↓w_l1, ↓w_l2, ↓w_sortk, ↓w_str, ↓w_part0, ↓w_part, ↓w_cut, ↓w_lcut, ↓w_tval, ↓w_tcmp, ↓w_tnot, ↓w_tand, ↓w_tor, ↓w_tyes, ↓w_seq, ↓w_itB, ↓w_comp, ↓wO_some, ↓wO_none, ↓wO_bind, ↓wO_map, ↓wO_gd, List.map_cons, List.map_nil, List.cons_append, List.nil_append, List.replicate, List.getElem?_cons_zero, List.getElem?_cons_succ, List.set_cons_zero, List.set_cons_succ, der_non, der_bl, der_int, der_str, der_tup, der_lst, der_dct, der_ref, ↓oBin, ↓oAdd, ↓oSub, ↓oMul, ↓oMod, ↓oDiv, ↓oPow, ↓oCmp, ↓oTru, ↓oBl, ↓oNeg, ↓oIx, atI_0, atI_1, ixN_20, ixN_21, ↓oLen, ↓oTuple, ↓oInt, ↓oMax, ↓oMin, ↓oCut, ↓oList, ↓tgN, ↓tgT, ↓setAll, ↓listAt, ↓Pk.putAt, ↓wipeS, ↓getAtI, ↓setAtI, ↓oIp, List.length_cons, List.length_nil, Bool.not_true, Bool.not_false, if_true, if_false, ite_true, ite_false, reduceIte, List.length_replicate, Nat.reduceSub, Nat.reduceAdd, Int.reduceLT, Int.reduceLE, Int.reduceNeg, Bool.false_eq_true, Bool.true_eq_false, true_and, and_true] | (refine And.intro ?pk1 ?_; (case pk1 => (first | assumption | decide | omega | exact ⟨by assumption, by omega⟩ | (constructor <;> first | assumption | decide | omega) | (simp [okMul]; done))))))
    exact q rs S' (by omega) fr
  · rintro x rest r S' ⟨rs, s4, s5, s6, hl, fr, rfl⟩
    simp only [List.length_cons] at hl
    (repeat (first | (first | refine x_seq ?_ | refine x_set ?_ | refine x_own ?_ | refine x_asg ?_ | refine x_drop ?_ | refine x_ret ?_ | refine x_if ?_ | refine x_nil ?_ | refine x_for ?_ | refine x_augix ?_ | refine x_put ?_ | refine x_dnew ?_ | refine x_putd rfl ?_ | refine x_mt rfl ?_ | refine x_aug rfl ?_ | refine x_frz ?_ | refine x_ext rfl ?_ | refine x_ct ?_ | refine x_bk ?_ | refine x_retN ?_) | simp only [↓w_con, ↓w_var, ↓w_rd, ↓w_e1, ↓w_e2, ↓w_bin, ↓w_cmp, ↓w_ix, ↓w_neg, ↓w_not, ↓w_and, ↓w_or, ↓w_if, ↓w_args0, ↓w_args, ↓w_tup, ↓w_lst, ↓w_L, ↓w_cell, ↓w_call, ↓w_l1, ↓w_l2, ↓w_sortk, ↓w_str, ↓w_part0, ↓w_part, ↓w_cut, ↓w_lcut, ↓w_tval, ↓w_tcmp, ↓w_tnot, ↓w_tand, ↓w_tor, ↓w_tyes, ↓w_seq, ↓w_itB, ↓w_comp, ↓wO_some, ↓wO_none, ↓wO_bind, ↓wO_map, ↓wO_gd, List.map_cons, List.map_nil, List.cons_append, List.nil_append, List.replicate, List.getElem?_cons_zero, List.getElem?_cons_succ, List.set_cons_zero, List.set_cons_succ, der_non, der_bl, der_int, der_str, der_tup, der_lst, der_dct, der_ref, ↓oBin, ↓oAdd, ↓oSub, ↓oMul, ↓oMod, ↓oDiv, ↓oPow, ↓oCmp, ↓oTru, ↓oBl, ↓oNeg, ↓oIx, atI_0, atI_1, ixN_20, ixN_21, ↓oLen, ↓oTuple, ↓oInt, ↓oMax, ↓oMin, ↓oCut, ↓oList, ↓tgN, ↓tgT, ↓setAll, ↓listAt, ↓Pk.putAt, ↓wipeS, ↓getAtI, ↓setAtI, ↓oIp, List.length_cons, List.length_nil, Bool.not_true, Bool.not_false, if_true, if_false, ite_true, ite_false, reduceIte, List.length_replicate, Nat.reduceSub, Nat.reduceAdd, Int.reduceLT, Int.reduceLE, Int.reduceNeg, Bool.false_eq_true, Bool.true_eq_false, true_and, and_true] | (refine And.intro ?pk1 ?_; (case pk1 => (first | assumption | decide | omega | exact ⟨by assumption, by omega⟩ | (constructor <;> first | assumption | decide | omega) | (simp [okMul]; done))))))
    refine next_w fr.d (by decide) (by decide) fun u S2 h2 h3 fr2 => ?_
    have hv : ∃ v : Nat, atI [D.int 0, D.int 1, D.int 1, D.int 2, D.int 3, D.int 6] u = some (.int v) ∧ v ≤ 6 := by
      have : u = 0 ∨ u = 1 ∨ u = 2 ∨ u = 3 ∨ u = 4 ∨ u = 5 := by omega
      rcases this with rfl | rfl | rfl | rfl | rfl | rfl
      · exact ⟨0, rfl, by decide⟩
      · exact ⟨1, rfl, by decide⟩
      · exact ⟨1, rfl, by decide⟩
      · exact ⟨2, rfl, by decide⟩
      · exact ⟨3, rfl, by decide⟩
      · exact ⟨6, rfl, by decide⟩
    obtain ⟨v, ev, hv⟩ := hv
    (repeat (first | (first | refine x_seq ?_ | refine x_set ?_ | refine x_own ?_ | refine x_asg ?_ | refine x_drop ?_ | refine x_ret ?_ | refine x_if ?_ | refine x_nil ?_ | refine x_for ?_ | refine x_augix ?_ | refine x_put ?_ | refine x_dnew ?_ | refine x_putd rfl ?_ | refine x_mt rfl ?_ | refine x_aug rfl ?_ | refine x_frz ?_ | refine x_ext rfl ?_ | refine x_ct ?_ | refine x_bk ?_ | refine x_retN ?_) | simp only [↓w_con, ↓w_var, ↓w_rd, ↓w_e1, ↓w_e2, ↓w_bin, ↓w_cmp, ↓w_ix, ↓w_neg, ↓w_not, ↓w_and, ↓w_or, ↓w_if, ↓w_args0, ↓w_args, ↓w_tup, ↓w_lst, ↓w_L, ↓w_cell, ↓w_call, ↓w_l1, ↓w_l2, ↓w_sortk, ↓w_str, ↓w_part0, ↓w_part, ↓w_cut, ↓w_lcut, ↓w_tval, ↓w_tcmp, ↓w_tnot, ↓w_tand, ↓w_tor, ↓w_tyes, ↓w_seq, ↓w_itB, ↓w_comp, ↓wO_some, ↓wO_none, ↓wO_bind, ↓wO_map, ↓wO_gd, List.map_cons, List.map_nil, List.cons_append, List.nil_append, List.replicate, List.getElem?_cons_zero, List.getElem?_cons_succ, List.set_cons_zero, List.set_cons_succ, der_non, der_bl, der_int, der_str, der_tup, der_lst, der_dct, der_ref, ↓oBin, ↓oAdd, ↓oSub, ↓oMul, ↓oMod, ↓oDiv, ↓oPow, ↓oCmp, ↓oTru, ↓oBl, ↓oNeg, ↓oIx, atI_0, atI_1, ixN_20, ixN_21, ↓oLen, ↓oTuple, ↓oInt, ↓oMax, ↓oMin, ↓oCut, ↓oList, ↓tgN, ↓tgT, ↓setAll, ↓listAt, ↓Pk.putAt, ↓wipeS, ↓getAtI, ↓setAtI, ↓oIp, List.length_cons, List.length_nil, Bool.not_true, Bool.not_false, if_true, if_false, ite_true, ite_false, reduceIte, List.length_replicate, Nat.reduceSub, Nat.reduceAdd, Int.reduceLT, Int.reduceLE, Int.reduceNeg, Bool.false_eq_true, Bool.true_eq_false, true_and, and_true, ev, oRng1_nat (Nat.le_trans hv (by decide))] | (refine And.intro ?pk1 ?_; (case pk1 => (first | assumption | decide | omega | exact ⟨by assumption, by omega⟩ | (constructor <;> first | assumption | decide | omega) | (simp [okMul]; done))))))
    refine forD_map (fun k : Nat => D.int k) (fun ks r S' => ∃ (rs : List (Str × List Str)) (s5 s6 : Slot), rs.length + ks.length + 6 * rest.length ≤ 42 ∧ Fr n S S' ∧ r = [.val (.ref n), .val (dT g), .val (.int (2 + t)), .own (rs.map dB), .val (.str x), s5, s6]) ?_ ?_ (List.range v) _ S2 ⟨rs, s5, s6, by simp; omega, fr.trans fr2, rfl⟩
    · rintro r S3 ⟨rs', s5, s6, hl', fr', rfl⟩
      exact ⟨rs', _, _, _, by simpa using hl', fr', rfl⟩
    · rintro k ks r S3 ⟨rs', s5, s6, hl', fr', rfl⟩
      simp only [List.length_cons] at hl'
      (repeat (first | (first | refine x_seq ?_ | refine x_set ?_ | refine x_own ?_ | refine x_asg ?_ | refine x_drop ?_ | refine x_ret ?_ | refine x_if ?_ | refine x_nil ?_ | refine x_for ?_ | refine x_augix ?_ | refine x_put ?_ | refine x_dnew ?_ | refine x_putd rfl ?_ | refine x_mt rfl ?_ | refine x_aug rfl ?_ | refine x_frz ?_ | refine x_ext rfl ?_ | refine x_ct ?_ | refine x_bk ?_ | refine x_retN ?_) | simp only [↓w_con, ↓w_var, ↓w_rd, ↓w_e1, ↓w_e2, ↓w_bin, ↓w_cmp, ↓w_ix, ↓w_neg, ↓w_not, ↓w_and, ↓w_or, ↓w_if, ↓w_args0, ↓w_args, ↓w_tup, ↓w_lst, ↓w_L, ↓w_cell, ↓w_call, ↓w_l1, ↓w_l2, ↓w_sortk, ↓w_str, ↓w_part0, ↓w_part, ↓w_cut, ↓w_lcut, ↓w_tval, ↓w_tcmp, ↓w_tnot, ↓w_tand, ↓w_tor, ↓w_tyes, ↓w_seq, ↓w_itB, ↓w_comp, ↓wO_some, ↓wO_none, ↓wO_bind, ↓wO_map, ↓wO_gd, List.map_cons, List.map_nil, List.cons_append, List.nil_append, List.replicate, List.getElem?_cons_zero, List.getElem?_cons_succ, List.set_cons_zero, List.set_cons_succ, der_non, der_bl, der_int, der_str, der_tup, der_lst, der_dct, der_ref, ↓oBin, ↓oAdd, ↓oSub, ↓oMul, ↓oMod, ↓oDiv, ↓oPow, ↓oCmp, ↓oTru, ↓oBl, ↓oNeg, ↓oIx, atI_0, atI_1, ixN_20, ixN_21, ↓oLen, ↓oTuple, ↓oInt, ↓oMax, ↓oMin, ↓oCut, ↓oList, ↓tgN, ↓tgT, ↓setAll, ↓listAt, ↓Pk.putAt, ↓wipeS, ↓getAtI, ↓setAtI, ↓oIp, List.length_cons, List.length_nil, Bool.not_true, Bool.not_false, if_true, if_false, ite_true, ite_false, reduceIte, List.length_replicate, Nat.reduceSub, Nat.reduceAdd, Int.reduceLT, Int.reduceLE, Int.reduceNeg, Bool.false_eq_true, Bool.true_eq_false, true_and, and_true] | (refine And.intro ?pk1 ?_; (case pk1 => (first | assumption | decide | omega | exact ⟨by assumption, by omega⟩ | (constructor <;> first | assumption | decide | omega) | (simp [okMul]; done))))))
      refine compD_I (fun rest acc S' => ∃ ys zs : List Str, rest = ys.map D.str ∧ acc = zs.map D.str ∧ Fr n S S') ?_ ?_ _ _ ⟨g, [], rfl, rfl, fr'⟩
      · rintro d ds acc S4 ⟨ys, zs, e1, rfl, fr4⟩
        cases ys with
        | nil => cases e1
        | cons y ys =>
          cases e1
          (repeat (first | (first | refine x_seq ?_ | refine x_set ?_ | refine x_own ?_ | refine x_asg ?_ | refine x_drop ?_ | refine x_ret ?_ | refine x_if ?_ | refine x_nil ?_ | refine x_for ?_ | refine x_augix ?_ | refine x_put ?_ | refine x_dnew ?_ | refine x_putd rfl ?_ | refine x_mt rfl ?_ | refine x_aug rfl ?_ | refine x_frz ?_ | refine x_ext rfl ?_ | refine x_ct ?_ | refine x_bk ?_ | refine x_retN ?_) | simp only [↓w_con, ↓w_var, ↓w_rd, ↓w_e1, ↓w_e2, ↓w_bin, ↓w_cmp, ↓w_ix, ↓w_neg, ↓w_not, ↓w_and, ↓w_or, ↓w_if, ↓w_args0, ↓w_args, ↓w_tup, ↓w_lst, ↓w_L, ↓w_cell, ↓w_call, ↓w_l1, ↓w_l2, ↓w_sortk, ↓w_str, ↓w_part0, ↓w_part, ↓w_cut, ↓w_lcut, ↓w_tval, ↓w_tcmp, ↓w_tnot, ↓w_tand, ↓w_tor, ↓w_tyes, ↓w_seq, ↓w_itB, ↓w_comp, ↓wO_some, ↓wO_none, ↓wO_bind, ↓wO_map, ↓wO_gd, List.map_cons, List.map_nil, List.cons_append, List.nil_append, List.replicate, List.getElem?_cons_zero, List.getElem?_cons_succ, List.set_cons_zero, List.set_cons_succ, der_non, der_bl, der_int, der_str, der_tup, der_lst, der_dct, der_ref, ↓oBin, ↓oAdd, ↓oSub, ↓oMul, ↓oMod, ↓oDiv, ↓oPow, ↓oCmp, ↓oTru, ↓oBl, ↓oNeg, ↓oIx, atI_0, atI_1, ixN_20, ixN_21, ↓oLen, ↓oTuple, ↓oInt, ↓oMax, ↓oMin, ↓oCut, ↓oList, ↓tgN, ↓tgT, ↓setAll, ↓listAt, ↓Pk.putAt, ↓wipeS, ↓getAtI, ↓setAtI, ↓oIp, List.length_cons, List.length_nil, Bool.not_true, Bool.not_false, if_true, if_false, ite_true, ite_false, reduceIte, List.length_replicate, Nat.reduceSub, Nat.reduceAdd, Int.reduceLT, Int.reduceLE, Int.reduceNeg, Bool.false_eq_true, Bool.true_eq_false, true_and, and_true, oEq_em em_str (by decide), Option.map_some] | (refine And.intro ?pk1 ?_; (case pk1 => (first | assumption | decide | omega | exact ⟨by assumption, by omega⟩ | (constructor <;> first | assumption | decide | omega) | (simp [okMul]; done))))))
          by_cases hyx : y = x
          · simp only [hyx, decide_true]
            (repeat (first | (first | refine x_seq ?_ | refine x_set ?_ | refine x_own ?_ | refine x_asg ?_ | refine x_drop ?_ | refine x_ret ?_ | refine x_if ?_ | refine x_nil ?_ | refine x_for ?_ | refine x_augix ?_ | refine x_put ?_ | refine x_dnew ?_ | refine x_putd rfl ?_ | refine x_mt rfl ?_ | refine x_aug rfl ?_ | refine x_frz ?_ | refine x_ext rfl ?_ | refine x_ct ?_ | refine x_bk ?_ | refine x_retN ?_) | simp only [↓w_con, ↓w_var, ↓w_rd, ↓w_e1, ↓w_e2, ↓w_bin, ↓w_cmp, ↓w_ix, ↓w_neg, ↓w_not, ↓w_and, ↓w_or, ↓w_if, ↓w_args0, ↓w_args, ↓w_tup, ↓w_lst, ↓w_L, ↓w_cell, ↓w_call, ↓w_l1, ↓w_l2, ↓w_sortk, ↓w_str, ↓w_part0, ↓w_part, ↓w_cut, ↓w_lcut, ↓w_tval, ↓w_tcmp, ↓w_tnot, ↓w_tand, ↓w_tor, ↓w_tyes, ↓w_seq, ↓w_itB, ↓w_comp, ↓wO_some, ↓wO_none, ↓wO_bind, ↓wO_map, ↓wO_gd, List.map_cons, List.map_nil, List.cons_append, List.nil_append, List.replicate, List.getElem?_cons_zero, List.getElem?_cons_succ, List.set_cons_zero, List.set_cons_succ, der_non, der_bl, der_int, der_str, der_tup, der_lst, der_dct, der_ref, ↓oBin, ↓oAdd, ↓oSub, ↓oMul, ↓oMod, ↓oDiv, ↓oPow, ↓oCmp, ↓oTru, ↓oBl, ↓oNeg, ↓oIx, atI_0, atI_1, ixN_20, ixN_21, ↓oLen, ↓oTuple, ↓oInt, ↓oMax, ↓oMin, ↓oCut, ↓oList, ↓tgN, ↓tgT, ↓setAll, ↓listAt, ↓Pk.putAt, ↓wipeS, ↓getAtI, ↓setAtI, ↓oIp, List.length_cons, List.length_nil, Bool.not_true, Bool.not_false, if_true, if_false, ite_true, ite_false, reduceIte, List.length_replicate, Nat.reduceSub, Nat.reduceAdd, Int.reduceLT, Int.reduceLE, Int.reduceNeg, Bool.false_eq_true, Bool.true_eq_false, true_and, and_true] | (refine And.intro ?pk1 ?_; (case pk1 => (first | assumption | decide | omega | exact ⟨by assumption, by omega⟩ | (constructor <;> first | assumption | decide | omega) | (simp [okMul]; done))))))
            exact ⟨ys, zs, rfl, rfl, fr4⟩
          · simp only [hyx, decide_false]
            (repeat (first | (first | refine x_seq ?_ | refine x_set ?_ | refine x_own ?_ | refine x_asg ?_ | refine x_drop ?_ | refine x_ret ?_ | refine x_if ?_ | refine x_nil ?_ | refine x_for ?_ | refine x_augix ?_ | refine x_put ?_ | refine x_dnew ?_ | refine x_putd rfl ?_ | refine x_mt rfl ?_ | refine x_aug rfl ?_ | refine x_frz ?_ | refine x_ext rfl ?_ | refine x_ct ?_ | refine x_bk ?_ | refine x_retN ?_) | simp only [↓w_con, ↓w_var, ↓w_rd, ↓w_e1, ↓w_e2, ↓w_bin, ↓w_cmp, ↓w_ix, ↓w_neg, ↓w_not, ↓w_and, ↓w_or, ↓w_if, ↓w_args0, ↓w_args, ↓w_tup, ↓w_lst, ↓w_L, ↓w_cell, ↓w_call, ↓w_l1, ↓w_l2, ↓w_sortk, ↓w_str, ↓w_part0, ↓w_part, ↓w_cut, ↓w_lcut, ↓w_tval, ↓w_tcmp, ↓w_tnot, ↓w_tand, ↓w_tor, ↓w_tyes, ↓w_seq, ↓w_itB, ↓w_comp, ↓wO_some, ↓wO_none, ↓wO_bind, ↓wO_map, ↓wO_gd, List.map_cons, List.map_nil, List.cons_append, List.nil_append, List.replicate, List.getElem?_cons_zero, List.getElem?_cons_succ, List.set_cons_zero, List.set_cons_succ, der_non, der_bl, der_int, der_str, der_tup, der_lst, der_dct, der_ref, ↓oBin, ↓oAdd, ↓oSub, ↓oMul, ↓oMod, ↓oDiv, ↓oPow, ↓oCmp, ↓oTru, ↓oBl, ↓oNeg, ↓oIx, atI_0, atI_1, ixN_20, ixN_21, ↓oLen, ↓oTuple, ↓oInt, ↓oMax, ↓oMin, ↓oCut, ↓oList, ↓tgN, ↓tgT, ↓setAll, ↓listAt, ↓Pk.putAt, ↓wipeS, ↓getAtI, ↓setAtI, ↓oIp, List.length_cons, List.length_nil, Bool.not_true, Bool.not_false, if_true, if_false, ite_true, ite_false, reduceIte, List.length_replicate, Nat.reduceSub, Nat.reduceAdd, Int.reduceLT, Int.reduceLE, Int.reduceNeg, Bool.false_eq_true, Bool.true_eq_false, true_and, and_true] | (refine And.intro ?pk1 ?_; (case pk1 => (first | assumption | decide | omega | exact ⟨by assumption, by omega⟩ | (constructor <;> first | assumption | decide | omega) | (simp [okMul]; done))))))
            refine next_w fr4.d (by omega) (by omega) fun w S5 h5 h6 fr5 => ?_
            (repeat (first | (first | refine x_seq ?_ | refine x_set ?_ | refine x_own ?_ | refine x_asg ?_ | refine x_drop ?_ | refine x_ret ?_ | refine x_if ?_ | refine x_nil ?_ | refine x_for ?_ | refine x_augix ?_ | refine x_put ?_ | refine x_dnew ?_ | refine x_putd rfl ?_ | refine x_mt rfl ?_ | refine x_aug rfl ?_ | refine x_frz ?_ | refine x_ext rfl ?_ | refine x_ct ?_ | refine x_bk ?_ | refine x_retN ?_) | simp only [↓w_con, ↓w_var, ↓w_rd, ↓w_e1, ↓w_e2, ↓w_bin, ↓w_cmp, ↓w_ix, ↓w_neg, ↓w_not, ↓w_and, ↓w_or, ↓w_if, ↓w_args0, ↓w_args, ↓w_tup, ↓w_lst, ↓w_L, ↓w_cell, ↓w_call, ↓w_l1, ↓w_l2, ↓w_sortk, ↓w_str, ↓w_part0, ↓w_part, ↓w_cut, ↓w_lcut, ↓w_tval, ↓w_tcmp, ↓w_tnot, ↓w_tand, ↓w_tor, ↓w_tyes, ↓w_seq, ↓w_itB, ↓w_comp, ↓wO_some, ↓wO_none, ↓wO_bind, ↓wO_map, ↓wO_gd, List.map_cons, List.map_nil, List.cons_append, List.nil_append, List.replicate, List.getElem?_cons_zero, List.getElem?_cons_succ, List.set_cons_zero, List.set_cons_succ, der_non, der_bl, der_int, der_str, der_tup, der_lst, der_dct, der_ref, ↓oBin, ↓oAdd, ↓oSub, ↓oMul, ↓oMod, ↓oDiv, ↓oPow, ↓oCmp, ↓oTru, ↓oBl, ↓oNeg, ↓oIx, atI_0, atI_1, ixN_20, ixN_21, ↓oLen, ↓oTuple, ↓oInt, ↓oMax, ↓oMin, ↓oCut, ↓oList, ↓tgN, ↓tgT, ↓setAll, ↓listAt, ↓Pk.putAt, ↓wipeS, ↓getAtI, ↓setAtI, ↓oIp, List.length_cons, List.length_nil, Bool.not_true, Bool.not_false, if_true, if_false, ite_true, ite_false, reduceIte, List.length_replicate, Nat.reduceSub, Nat.reduceAdd, Int.reduceLT, Int.reduceLE, Int.reduceNeg, Bool.false_eq_true, Bool.true_eq_false, true_and, and_true, oEq_em em_int (by decide)] | (refine And.intro ?pk1 ?_; (case pk1 => (first | assumption | decide | omega | exact ⟨by assumption, by omega⟩ | (constructor <;> first | assumption | decide | omega) | (simp [okMul]; done))))))
            split
            · (repeat (first | (first | refine x_seq ?_ | refine x_set ?_ | refine x_own ?_ | refine x_asg ?_ | refine x_drop ?_ | refine x_ret ?_ | refine x_if ?_ | refine x_nil ?_ | refine x_for ?_ | refine x_augix ?_ | refine x_put ?_ | refine x_dnew ?_ | refine x_putd rfl ?_ | refine x_mt rfl ?_ | refine x_aug rfl ?_ | refine x_frz ?_ | refine x_ext rfl ?_ | refine x_ct ?_ | refine x_bk ?_ | refine x_retN ?_) | simp only [↓w_con, ↓w_var, ↓w_rd, ↓w_e1, ↓w_e2, ↓w_bin, ↓w_cmp, ↓w_ix, ↓w_neg, ↓w_not, ↓w_and, ↓w_or, ↓w_if, ↓w_args0, ↓w_args, ↓w_tup, ↓w_lst, ↓w_L, ↓w_cell, ↓w_call, ↓w_l1, ↓w_l2, ↓w_sortk, ↓w_str, ↓w_part0, ↓w_part, ↓w_cut, ↓w_lcut, ↓w_tval, ↓w_tcmp, ↓w_tnot, ↓w_tand, ↓w_tor, ↓w_tyes, ↓w_seq, ↓w_itB, ↓w_comp, ↓wO_some, ↓wO_none, ↓wO_bind, ↓wO_map, ↓wO_gd, List.map_cons, List.map_nil, List.cons_append, List.nil_append, List.replicate, List.getElem?_cons_zero, List.getElem?_cons_succ, List.set_cons_zero, List.set_cons_succ, der_non, der_bl, der_int, der_str, der_tup, der_lst, der_dct, der_ref, ↓oBin, ↓oAdd, ↓oSub, ↓oMul, ↓oMod, ↓oDiv, ↓oPow, ↓oCmp, ↓oTru, ↓oBl, ↓oNeg, ↓oIx, atI_0, atI_1, ixN_20, ixN_21, ↓oLen, ↓oTuple, ↓oInt, ↓oMax, ↓oMin, ↓oCut, ↓oList, ↓tgN, ↓tgT, ↓setAll, ↓listAt, ↓Pk.putAt, ↓wipeS, ↓getAtI, ↓setAtI, ↓oIp, List.length_cons, List.length_nil, Bool.not_true, Bool.not_false, if_true, if_false, ite_true, ite_false, reduceIte, List.length_replicate, Nat.reduceSub, Nat.reduceAdd, Int.reduceLT, Int.reduceLE, Int.reduceNeg, Bool.false_eq_true, Bool.true_eq_false, true_and, and_true] | (refine And.intro ?pk1 ?_; (case pk1 => (first | assumption | decide | omega | exact ⟨by assumption, by omega⟩ | (constructor <;> first | assumption | decide | omega) | (simp [okMul]; done))))))
              exact ⟨ys, zs ++ [y], rfl, by simp, fr4.trans fr5⟩
            · exact ⟨ys, zs, rfl, rfl, fr4.trans fr5⟩
      · rintro acc S4 ⟨ys, zs, e1, rfl, fr4⟩
        (repeat (first | (first | refine x_seq ?_ | refine x_set ?_ | refine x_own ?_ | refine x_asg ?_ | refine x_drop ?_ | refine x_ret ?_ | refine x_if ?_ | refine x_nil ?_ | refine x_for ?_ | refine x_augix ?_ | refine x_put ?_ | refine x_dnew ?_ | refine x_putd rfl ?_ | refine x_mt rfl ?_ | refine x_aug rfl ?_ | refine x_frz ?_ | refine x_ext rfl ?_ | refine x_ct ?_ | refine x_bk ?_ | refine x_retN ?_) | simp only [↓w_con, ↓w_var, ↓w_rd, ↓w_e1, ↓w_e2, ↓w_bin, ↓w_cmp, ↓w_ix, ↓w_neg, ↓w_not, ↓w_and, ↓w_or, ↓w_if, ↓w_args0, ↓w_args, ↓w_tup, ↓w_lst, ↓w_L, ↓w_cell, ↓w_call, ↓w_l1, ↓w_l2, ↓w_sortk, ↓w_str, ↓w_part0, ↓w_part, ↓w_cut, ↓w_lcut, ↓w_tval, ↓w_tcmp, ↓w_tnot, ↓w_tand, ↓w_tor, ↓w_tyes, ↓w_seq, ↓w_itB, ↓w_comp, ↓wO_some, ↓wO_none, ↓wO_bind, ↓wO_map, ↓wO_gd, List.map_cons, List.map_nil, List.cons_append, List.nil_append, List.replicate, List.getElem?_cons_zero, List.getElem?_cons_succ, List.set_cons_zero, List.set_cons_succ, der_non, der_bl, der_int, der_str, der_tup, der_lst, der_dct, der_ref, ↓oBin, ↓oAdd, ↓oSub, ↓oMul, ↓oMod, ↓oDiv, ↓oPow, ↓oCmp, ↓oTru, ↓oBl, ↓oNeg, ↓oIx, atI_0, atI_1, ixN_20, ixN_21, ↓oLen, ↓oTuple, ↓oInt, ↓oMax, ↓oMin, ↓oCut, ↓oList, ↓tgN, ↓tgT, ↓setAll, ↓listAt, ↓Pk.putAt, ↓wipeS, ↓getAtI, ↓setAtI, ↓oIp, List.length_cons, List.length_nil, Bool.not_true, Bool.not_false, if_true, if_false, ite_true, ite_false, reduceIte, List.length_replicate, Nat.reduceSub, Nat.reduceAdd, Int.reduceLT, Int.reduceLE, Int.reduceNeg, Bool.false_eq_true, Bool.true_eq_false, true_and, and_true, mAppend, List.length_map] | (refine And.intro ?pk1 ?_; (case pk1 => (first | assumption | decide | omega | exact ⟨by assumption, by omega⟩ | (constructor <;> first | assumption | decide | omega) | (simp [okMul]; done))))))
        exact ⟨rs' ++ [(x, zs)], _, _, by simp; omega, fr4, by rw [List.map_append]; rfl⟩
end Pk
namespace Pk
open PySem PySem.Spec PyProof.Rows L2
def dW (rs : List (Str × List Str)) (x : Str) : D := .tup [.str x, .lst ((rs.filter fun p => decide (p.1 = x)).map fun p => dT p.2)]
theorem wants_ok (rs : List (Str × List Str)) (l : List Str) (x : Str) : ((rs.filter fun p => decide (p.1 = x)).all fun p => p.2.any fun y => decide (y ∈ l)) = rulesOk rs l x := by
  unfold rulesOk
  induction rs with
  | nil => rfl
  | cons p rs ih =>
    rw [List.filter_cons, List.all_cons, ← ih]
    cases h1 : decide (p.1 = x) <;> simp
theorem setsD_w {g : List Str} (hg : g.length ≤ 7) (hr : Rises g) (rs : List (Str × List Str)) {S : Store} {Q : D → Store → Prop} (q : ∀ L : List (List Str), SetsOf g (rulesOk rs) L → Q (.lst (L.map dT)) S) : wE (g_law_setsD [dT g, .lst (rs.map dB)] S) Q := by
  have hz : sizeLine = 16777216 := by decide
  have len7 : ∀ l : List Str, Reach g (rulesOk rs) l → l.length ≤ 7 := fun l h => Nat.le_trans (sub_len h.good.1 h.good.2) hg
  refine w_fn rfl ?_
  unfold b_law_setsD
  (repeat (first | (first | refine x_seq ?_ | refine x_set ?_ | refine x_own ?_ | refine x_asg ?_ | refine x_drop ?_ | refine x_ret ?_ | refine x_if ?_ | refine x_nil ?_ | refine x_for ?_ | refine x_augix ?_ | refine x_put ?_ | refine x_dnew ?_ | refine x_putd rfl ?_ | refine x_mt rfl ?_ | refine x_aug rfl ?_ | refine x_frz ?_ | refine x_ext rfl ?_ | refine x_ct ?_ | refine x_bk ?_ | refine x_retN ?_) | simp only [↓w_con, ↓w_var, ↓w_rd, ↓w_e1, ↓w_e2, ↓w_bin, ↓w_cmp, ↓w_ix, ↓w_neg, ↓w_not, ↓w_and, ↓w_or, ↓w_if, ↓w_args0, ↓w_args, ↓w_tup, ↓w_lst, ↓w_L, ↓w_cell, ↓w_call, ↓w_l1, ↓w_l2, ↓w_sortk, ↓w_str, ↓w_part0, ↓w_part, ↓w_cut, ↓w_lcut, ↓w_tval, ↓w_tcmp, ↓w_tnot, ↓w_tand, ↓w_tor, ↓w_tyes, ↓w_seq, ↓w_itB, ↓w_comp, ↓wO_some, ↓wO_none, ↓wO_bind, ↓wO_map, ↓wO_gd, List.map_cons, List.map_nil, List.cons_append, List.nil_append, List.replicate, List.getElem?_cons_zero, List.getElem?_cons_succ, List.set_cons_zero, List.set_cons_succ, der_non, der_bl, der_int, der_str, der_tup, der_lst, der_dct, der_ref, ↓oBin, ↓oAdd, ↓oSub, ↓oMul, ↓oMod, ↓oDiv, ↓oPow, ↓oCmp, ↓oTru, ↓oBl, ↓oNeg, ↓oIx, atI_0, atI_1, ixN_20, ixN_21, ↓oLen, ↓oTuple, ↓oInt, ↓oMax, ↓oMin, ↓oCut, ↓oList, ↓tgN, ↓tgT, ↓setAll, ↓listAt, ↓Pk.putAt, ↓wipeS, ↓getAtI, ↓setAtI, ↓oIp, List.length_cons, List.length_nil, Bool.not_true, Bool.not_false, if_true, if_false, ite_true, ite_false, reduceIte, List.length_replicate, Nat.reduceSub, Nat.reduceAdd, Int.reduceLT, Int.reduceLE, Int.reduceNeg, Bool.false_eq_true, Bool.true_eq_false, true_and, and_true, Nat.zero_le] | (refine And.intro ?pk1 ?_; (case pk1 => (first | assumption | decide | omega | exact ⟨by assumption, by omega⟩ | (constructor <;> first | assumption | decide | omega) | (simp [okMul]; done))))))
  refine compD_all D.str (dW rs) (fun x _ => ?_) ?_
  · (repeat (first | (first | refine x_seq ?_ | refine x_set ?_ | refine x_own ?_ | refine x_asg ?_ | refine x_drop ?_ | refine x_ret ?_ | refine x_if ?_ | refine x_nil ?_ | refine x_for ?_ | refine x_augix ?_ | refine x_put ?_ | refine x_dnew ?_ | refine x_putd rfl ?_ | refine x_mt rfl ?_ | refine x_aug rfl ?_ | refine x_frz ?_ | refine x_ext rfl ?_ | refine x_ct ?_ | refine x_bk ?_ | refine x_retN ?_) | simp only [↓w_con, ↓w_var, ↓w_rd, ↓w_e1, ↓w_e2, ↓w_bin, ↓w_cmp, ↓w_ix, ↓w_neg, ↓w_not, ↓w_and, ↓w_or, ↓w_if, ↓w_args0, ↓w_args, ↓w_tup, ↓w_lst, ↓w_L, ↓w_cell, ↓w_call, ↓w_l1, ↓w_l2, ↓w_sortk, ↓w_str, ↓w_part0, ↓w_part, ↓w_cut, ↓w_lcut, ↓w_tval, ↓w_tcmp, ↓w_tnot, ↓w_tand, ↓w_tor, ↓w_tyes, ↓w_seq, ↓w_itB, ↓w_comp, ↓wO_some, ↓wO_none, ↓wO_bind, ↓wO_map, ↓wO_gd, List.map_cons, List.map_nil, List.cons_append, List.nil_append, List.replicate, List.getElem?_cons_zero, List.getElem?_cons_succ, List.set_cons_zero, List.set_cons_succ, der_non, der_bl, der_int, der_str, der_tup, der_lst, der_dct, der_ref, ↓oBin, ↓oAdd, ↓oSub, ↓oMul, ↓oMod, ↓oDiv, ↓oPow, ↓oCmp, ↓oTru, ↓oBl, ↓oNeg, ↓oIx, atI_0, atI_1, ixN_20, ixN_21, ↓oLen, ↓oTuple, ↓oInt, ↓oMax, ↓oMin, ↓oCut, ↓oList, ↓tgN, ↓tgT, ↓setAll, ↓listAt, ↓Pk.putAt, ↓wipeS, ↓getAtI, ↓setAtI, ↓oIp, List.length_cons, List.length_nil, Bool.not_true, Bool.not_false, if_true, if_false, ite_true, ite_false, reduceIte, List.length_replicate, Nat.reduceSub, Nat.reduceAdd, Int.reduceLT, Int.reduceLE, Int.reduceNeg, Bool.false_eq_true, Bool.true_eq_false, true_and, and_true] | (refine And.intro ?pk1 ?_; (case pk1 => (first | assumption | decide | omega | exact ⟨by assumption, by omega⟩ | (constructor <;> first | assumption | decide | omega) | (simp [okMul]; done))))))
    refine compD_map dB (fun p => decide (p.1 = x)) (fun p => dT p.2) (fun p _ => ?_) ?_
    · (repeat (first | (first | refine x_seq ?_ | refine x_set ?_ | refine x_own ?_ | refine x_asg ?_ | refine x_drop ?_ | refine x_ret ?_ | refine x_if ?_ | refine x_nil ?_ | refine x_for ?_ | refine x_augix ?_ | refine x_put ?_ | refine x_dnew ?_ | refine x_putd rfl ?_ | refine x_mt rfl ?_ | refine x_aug rfl ?_ | refine x_frz ?_ | refine x_ext rfl ?_ | refine x_ct ?_ | refine x_bk ?_ | refine x_retN ?_) | simp only [↓w_con, ↓w_var, ↓w_rd, ↓w_e1, ↓w_e2, ↓w_bin, ↓w_cmp, ↓w_ix, ↓w_neg, ↓w_not, ↓w_and, ↓w_or, ↓w_if, ↓w_args0, ↓w_args, ↓w_tup, ↓w_lst, ↓w_L, ↓w_cell, ↓w_call, ↓w_l1, ↓w_l2, ↓w_sortk, ↓w_str, ↓w_part0, ↓w_part, ↓w_cut, ↓w_lcut, ↓w_tval, ↓w_tcmp, ↓w_tnot, ↓w_tand, ↓w_tor, ↓w_tyes, ↓w_seq, ↓w_itB, ↓w_comp, ↓wO_some, ↓wO_none, ↓wO_bind, ↓wO_map, ↓wO_gd, List.map_cons, List.map_nil, List.cons_append, List.nil_append, List.replicate, List.getElem?_cons_zero, List.getElem?_cons_succ, List.set_cons_zero, List.set_cons_succ, der_non, der_bl, der_int, der_str, der_tup, der_lst, der_dct, der_ref, ↓oBin, ↓oAdd, ↓oSub, ↓oMul, ↓oMod, ↓oDiv, ↓oPow, ↓oCmp, ↓oTru, ↓oBl, ↓oNeg, ↓oIx, atI_0, atI_1, ixN_20, ixN_21, ↓oLen, ↓oTuple, ↓oInt, ↓oMax, ↓oMin, ↓oCut, ↓oList, ↓tgN, ↓tgT, ↓setAll, ↓listAt, ↓Pk.putAt, ↓wipeS, ↓getAtI, ↓setAtI, ↓oIp, List.length_cons, List.length_nil, Bool.not_true, Bool.not_false, if_true, if_false, ite_true, ite_false, reduceIte, List.length_replicate, Nat.reduceSub, Nat.reduceAdd, Int.reduceLT, Int.reduceLE, Int.reduceNeg, Bool.false_eq_true, Bool.true_eq_false, true_and, and_true, oEq_em em_str (by decide)] | (refine And.intro ?pk1 ?_; (case pk1 => (first | assumption | decide | omega | exact ⟨by assumption, by omega⟩ | (constructor <;> first | assumption | decide | omega) | (simp [okMul]; done))))))
      exact fun _ => trivial
    · (repeat (first | (first | refine x_seq ?_ | refine x_set ?_ | refine x_own ?_ | refine x_asg ?_ | refine x_drop ?_ | refine x_ret ?_ | refine x_if ?_ | refine x_nil ?_ | refine x_for ?_ | refine x_augix ?_ | refine x_put ?_ | refine x_dnew ?_ | refine x_putd rfl ?_ | refine x_mt rfl ?_ | refine x_aug rfl ?_ | refine x_frz ?_ | refine x_ext rfl ?_ | refine x_ct ?_ | refine x_bk ?_ | refine x_retN ?_) | simp only [↓w_con, ↓w_var, ↓w_rd, ↓w_e1, ↓w_e2, ↓w_bin, ↓w_cmp, ↓w_ix, ↓w_neg, ↓w_not, ↓w_and, ↓w_or, ↓w_if, ↓w_args0, ↓w_args, ↓w_tup, ↓w_lst, ↓w_L, ↓w_cell, ↓w_call, ↓w_l1, ↓w_l2, ↓w_sortk, ↓w_str, ↓w_part0, ↓w_part, ↓w_cut, ↓w_lcut, ↓w_tval, ↓w_tcmp, ↓w_tnot, ↓w_tand, ↓w_tor, ↓w_tyes, ↓w_seq, ↓w_itB, ↓w_comp, ↓wO_some, ↓wO_none, ↓wO_bind, ↓wO_map, ↓wO_gd, List.map_cons, List.map_nil, List.cons_append, List.nil_append, List.replicate, List.getElem?_cons_zero, List.getElem?_cons_succ, List.set_cons_zero, List.set_cons_succ, der_non, der_bl, der_int, der_str, der_tup, der_lst, der_dct, der_ref, ↓oBin, ↓oAdd, ↓oSub, ↓oMul, ↓oMod, ↓oDiv, ↓oPow, ↓oCmp, ↓oTru, ↓oBl, ↓oNeg, ↓oIx, atI_0, atI_1, ixN_20, ixN_21, ↓oLen, ↓oTuple, ↓oInt, ↓oMax, ↓oMin, ↓oCut, ↓oList, ↓tgN, ↓tgT, ↓setAll, ↓listAt, ↓Pk.putAt, ↓wipeS, ↓getAtI, ↓setAtI, ↓oIp, List.length_cons, List.length_nil, Bool.not_true, Bool.not_false, if_true, if_false, ite_true, ite_false, reduceIte, List.length_replicate, Nat.reduceSub, Nat.reduceAdd, Int.reduceLT, Int.reduceLE, Int.reduceNeg, Bool.false_eq_true, Bool.true_eq_false, true_and, and_true] | (refine And.intro ?pk1 ?_; (case pk1 => (first | assumption | decide | omega | exact ⟨by assumption, by omega⟩ | (constructor <;> first | assumption | decide | omega) | (simp [okMul]; done))))))
      rfl
  (repeat (first | (first | refine x_seq ?_ | refine x_set ?_ | refine x_own ?_ | refine x_asg ?_ | refine x_drop ?_ | refine x_ret ?_ | refine x_if ?_ | refine x_nil ?_ | refine x_for ?_ | refine x_augix ?_ | refine x_put ?_ | refine x_dnew ?_ | refine x_putd rfl ?_ | refine x_mt rfl ?_ | refine x_aug rfl ?_ | refine x_frz ?_ | refine x_ext rfl ?_ | refine x_ct ?_ | refine x_bk ?_ | refine x_retN ?_) | simp only [↓w_con, ↓w_var, ↓w_rd, ↓w_e1, ↓w_e2, ↓w_bin, ↓w_cmp, ↓w_ix, ↓w_neg, ↓w_not, ↓w_and, ↓w_or, ↓w_if, ↓w_args0, ↓w_args, ↓w_tup, ↓w_lst, ↓w_L, ↓w_cell, ↓w_call, ↓w_l1, ↓w_l2, ↓w_sortk, ↓w_str, ↓w_part0, ↓w_part, ↓w_cut, ↓w_lcut, ↓w_tval, ↓w_tcmp, ↓w_tnot, ↓w_tand, ↓w_tor, ↓w_tyes, ↓w_seq, ↓w_itB, ↓w_comp, ↓wO_some, ↓wO_none, ↓wO_bind, ↓wO_map, ↓wO_gd, List.map_cons, List.map_nil, List.cons_append, List.nil_append, List.replicate, List.getElem?_cons_zero, List.getElem?_cons_succ, List.set_cons_zero, List.set_cons_succ, der_non, der_bl, der_int, der_str, der_tup, der_lst, der_dct, der_ref, ↓oBin, ↓oAdd, ↓oSub, ↓oMul, ↓oMod, ↓oDiv, ↓oPow, ↓oCmp, ↓oTru, ↓oBl, ↓oNeg, ↓oIx, atI_0, atI_1, ixN_20, ixN_21, ↓oLen, ↓oTuple, ↓oInt, ↓oMax, ↓oMin, ↓oCut, ↓oList, ↓tgN, ↓tgT, ↓setAll, ↓listAt, ↓Pk.putAt, ↓wipeS, ↓getAtI, ↓setAtI, ↓oIp, List.length_cons, List.length_nil, Bool.not_true, Bool.not_false, if_true, if_false, ite_true, ite_false, reduceIte, List.length_replicate, Nat.reduceSub, Nat.reduceAdd, Int.reduceLT, Int.reduceLE, Int.reduceNeg, Bool.false_eq_true, Bool.true_eq_false, true_and, and_true] | (refine And.intro ?pk1 ?_; (case pk1 => (first | assumption | decide | omega | exact ⟨by assumption, by omega⟩ | (constructor <;> first | assumption | decide | omega) | (simp [okMul]; done))))))
  refine while_I (k := 9) (fun k r S' => ∃ (j : Nat) (F V : List (List Str)) (s6 s7 s8 s9 s10 : Slot), k + j = 9 ∧ j ≤ 8 ∧ OrdS F ∧ (∀ l, l ∈ F ↔ Reach g (rulesOk rs) l ∧ l.length < j) ∧ V.Pairwise (fun a b => leBy dT a b = true ∧ a ≠ b) ∧ (∀ l, l ∈ V ↔ Reach g (rulesOk rs) l ∧ l.length = j) ∧ S = S' ∧ r = [.val (dT g), .val (.lst (rs.map dB)), .val (.lst (F.map dT)), .val (.lst (V.map dT)), .val (.lst (g.map (dW rs))), .emp, s6, s7, s8, s9, s10]) ?_
    ⟨0, [], [[]], .emp, .emp, .emp, .emp, .emp, rfl, by decide, List.Pairwise.nil, (fun l => by simp), by simp, (fun l => by
      simp only [List.mem_singleton]
      exact ⟨fun z => by subst z; exact ⟨.nil, rfl⟩, fun z => List.length_eq_zero_iff.mp z.2⟩), rfl, rfl⟩
  rintro k r S' ⟨j, F, V, s6, s7, s8, s9, s10, hk, hj, oF, mF, oV, mV, rfl, rfl⟩
  have hFl : F.length ≤ 128 := few_sets hg hr oF.nodup fun l hl => ((mF l).mp hl).1.good
  have nV : V.Nodup := oV.imp fun z => z.2
  have hVl : V.length ≤ 128 := few_sets hg hr nV fun l hl => ((mV l).mp hl).1.good
  (repeat (first | (first | refine x_seq ?_ | refine x_set ?_ | refine x_own ?_ | refine x_asg ?_ | refine x_drop ?_ | refine x_ret ?_ | refine x_if ?_ | refine x_nil ?_ | refine x_for ?_ | refine x_augix ?_ | refine x_put ?_ | refine x_dnew ?_ | refine x_putd rfl ?_ | refine x_mt rfl ?_ | refine x_aug rfl ?_ | refine x_frz ?_ | refine x_ext rfl ?_ | refine x_ct ?_ | refine x_bk ?_ | refine x_retN ?_) | simp only [↓w_con, ↓w_var, ↓w_rd, ↓w_e1, ↓w_e2, ↓w_bin, ↓w_cmp, ↓w_ix, ↓w_neg, ↓w_not, ↓w_and, ↓w_or, ↓w_if, ↓w_args0, ↓w_args, ↓w_tup, ↓w_lst, ↓w_L, ↓w_cell, ↓w_call, ↓w_l1, ↓w_l2, ↓w_sortk, ↓w_str, ↓w_part0, ↓w_part, ↓w_cut, ↓w_lcut, ↓w_tval, ↓w_tcmp, ↓w_tnot, ↓w_tand, ↓w_tor, ↓w_tyes, ↓w_seq, ↓w_itB, ↓w_comp, ↓wO_some, ↓wO_none, ↓wO_bind, ↓wO_map, ↓wO_gd, List.map_cons, List.map_nil, List.cons_append, List.nil_append, List.replicate, List.getElem?_cons_zero, List.getElem?_cons_succ, List.set_cons_zero, List.set_cons_succ, der_non, der_bl, der_int, der_str, der_tup, der_lst, der_dct, der_ref, ↓oBin, ↓oAdd, ↓oSub, ↓oMul, ↓oMod, ↓oDiv, ↓oPow, ↓oCmp, ↓oTru, ↓oBl, ↓oNeg, ↓oIx, atI_0, atI_1, ixN_20, ixN_21, ↓oLen, ↓oTuple, ↓oInt, ↓oMax, ↓oMin, ↓oCut, ↓oList, ↓tgN, ↓tgT, ↓setAll, ↓listAt, ↓Pk.putAt, ↓wipeS, ↓getAtI, ↓setAtI, ↓oIp, List.length_cons, List.length_nil, Bool.not_true, Bool.not_false, if_true, if_false, ite_true, ite_false, reduceIte, List.length_replicate, Nat.reduceSub, Nat.reduceAdd, Int.reduceLT, Int.reduceLE, Int.reduceNeg, Bool.false_eq_true, Bool.true_eq_false, true_and, and_true, oEq_nil (e := dT) em_T (by decide), Option.map_some] | (refine And.intro ?pk1 ?_; (case pk1 => (first | assumption | decide | omega | exact ⟨by assumption, by omega⟩ | (constructor <;> first | assumption | decide | omega) | (simp [okMul]; done))))))
  cases hVe : V with
  | nil =>
    (repeat (first | (first | refine x_seq ?_ | refine x_set ?_ | refine x_own ?_ | refine x_asg ?_ | refine x_drop ?_ | refine x_ret ?_ | refine x_if ?_ | refine x_nil ?_ | refine x_for ?_ | refine x_augix ?_ | refine x_put ?_ | refine x_dnew ?_ | refine x_putd rfl ?_ | refine x_mt rfl ?_ | refine x_aug rfl ?_ | refine x_frz ?_ | refine x_ext rfl ?_ | refine x_ct ?_ | refine x_bk ?_ | refine x_retN ?_) | simp only [↓w_con, ↓w_var, ↓w_rd, ↓w_e1, ↓w_e2, ↓w_bin, ↓w_cmp, ↓w_ix, ↓w_neg, ↓w_not, ↓w_and, ↓w_or, ↓w_if, ↓w_args0, ↓w_args, ↓w_tup, ↓w_lst, ↓w_L, ↓w_cell, ↓w_call, ↓w_l1, ↓w_l2, ↓w_sortk, ↓w_str, ↓w_part0, ↓w_part, ↓w_cut, ↓w_lcut, ↓w_tval, ↓w_tcmp, ↓w_tnot, ↓w_tand, ↓w_tor, ↓w_tyes, ↓w_seq, ↓w_itB, ↓w_comp, ↓wO_some, ↓wO_none, ↓wO_bind, ↓wO_map, ↓wO_gd, List.map_cons, List.map_nil, List.cons_append, List.nil_append, List.replicate, List.getElem?_cons_zero, List.getElem?_cons_succ, List.set_cons_zero, List.set_cons_succ, der_non, der_bl, der_int, der_str, der_tup, der_lst, der_dct, der_ref, ↓oBin, ↓oAdd, ↓oSub, ↓oMul, ↓oMod, ↓oDiv, ↓oPow, ↓oCmp, ↓oTru, ↓oBl, ↓oNeg, ↓oIx, atI_0, atI_1, ixN_20, ixN_21, ↓oLen, ↓oTuple, ↓oInt, ↓oMax, ↓oMin, ↓oCut, ↓oList, ↓tgN, ↓tgT, ↓setAll, ↓listAt, ↓Pk.putAt, ↓wipeS, ↓getAtI, ↓setAtI, ↓oIp, List.length_cons, List.length_nil, Bool.not_true, Bool.not_false, if_true, if_false, ite_true, ite_false, reduceIte, List.length_replicate, Nat.reduceSub, Nat.reduceAdd, Int.reduceLT, Int.reduceLE, Int.reduceNeg, Bool.false_eq_true, Bool.true_eq_false, true_and, and_true, List.isEmpty_nil] | (refine And.intro ?pk1 ?_; (case pk1 => (first | assumption | decide | omega | exact ⟨by assumption, by omega⟩ | (constructor <;> first | assumption | decide | omega) | (simp [okMul]; done))))))
    refine q F ⟨oF, fun l => (mF l).trans ⟨fun z => z.1, fun z => ⟨z, ?_⟩⟩⟩
    -- nothing of so many things comes, so nothing of more
    refine Classical.byContradiction fun hn => ?_
    have none : ∀ l : List Str, Reach g (rulesOk rs) l → j ≤ l.length → False := fun l h => by
      induction h with
      | nil =>
        intro hj0
        have : ([] : List Str) ∈ V := (mV []).mpr ⟨.nil, by simp at hj0; simp [hj0]⟩
        rw [hVe] at this; cases this
      | @more l' x' h hx hn' ho ih =>
        intro hj'
        rw [more_len] at hj'
        by_cases hjl : j ≤ l'.length
        · exact ih hjl
        · have : Pk.more l' x' ∈ V := (mV _).mpr ⟨.more h hx hn' ho, by rw [more_len]; omega⟩
          rw [hVe] at this; cases this
    exact none l z (by omega)
  | cons v0 V0 =>
    rw [← hVe]
    have hj7 : j ≤ 7 := by
      have := (mV v0).mp (by rw [hVe]; simp)
      have := len7 v0 this.1
      omega
    have hFV : F.map dT ++ V.map dT = (F ++ V).map dT := List.map_append.symm
    have hsz : F.length + V.length ≤ sizeLine := by omega
    have hem : V.isEmpty = false := by rw [hVe]; rfl
    (repeat (first | (first | refine x_seq ?_ | refine x_set ?_ | refine x_own ?_ | refine x_asg ?_ | refine x_drop ?_ | refine x_ret ?_ | refine x_if ?_ | refine x_nil ?_ | refine x_for ?_ | refine x_augix ?_ | refine x_put ?_ | refine x_dnew ?_ | refine x_putd rfl ?_ | refine x_mt rfl ?_ | refine x_aug rfl ?_ | refine x_frz ?_ | refine x_ext rfl ?_ | refine x_ct ?_ | refine x_bk ?_ | refine x_retN ?_) | simp only [↓w_con, ↓w_var, ↓w_rd, ↓w_e1, ↓w_e2, ↓w_bin, ↓w_cmp, ↓w_ix, ↓w_neg, ↓w_not, ↓w_and, ↓w_or, ↓w_if, ↓w_args0, ↓w_args, ↓w_tup, ↓w_lst, ↓w_L, ↓w_cell, ↓w_call, ↓w_l1, ↓w_l2, ↓w_sortk, ↓w_str, ↓w_part0, ↓w_part, ↓w_cut, ↓w_lcut, ↓w_tval, ↓w_tcmp, ↓w_tnot, ↓w_tand, ↓w_tor, ↓w_tyes, ↓w_seq, ↓w_itB, ↓w_comp, ↓wO_some, ↓wO_none, ↓wO_bind, ↓wO_map, ↓wO_gd, List.map_cons, List.map_nil, List.cons_append, List.nil_append, List.replicate, List.getElem?_cons_zero, List.getElem?_cons_succ, List.set_cons_zero, List.set_cons_succ, der_non, der_bl, der_int, der_str, der_tup, der_lst, der_dct, der_ref, ↓oBin, ↓oAdd, ↓oSub, ↓oMul, ↓oMod, ↓oDiv, ↓oPow, ↓oCmp, ↓oTru, ↓oBl, ↓oNeg, ↓oIx, atI_0, atI_1, ixN_20, ixN_21, ↓oLen, ↓oTuple, ↓oInt, ↓oMax, ↓oMin, ↓oCut, ↓oList, ↓tgN, ↓tgT, ↓setAll, ↓listAt, ↓Pk.putAt, ↓wipeS, ↓getAtI, ↓setAtI, ↓oIp, List.length_cons, List.length_nil, Bool.not_true, Bool.not_false, if_true, if_false, ite_true, ite_false, reduceIte, List.length_replicate, Nat.reduceSub, Nat.reduceAdd, Int.reduceLT, Int.reduceLE, Int.reduceNeg, Bool.false_eq_true, Bool.true_eq_false, true_and, and_true, hem, List.length_map, hFV] | (refine And.intro ?pk1 ?_; (case pk1 => (first | assumption | decide | omega | exact ⟨by assumption, by omega⟩ | (constructor <;> first | assumption | decide | omega) | (simp [okMul]; done))))))
    refine forD_map dT (fun rest r S' => ∃ (done M : List (List Str)) (s6 s7 s9 s10 : Slot), V = done ++ rest ∧ M.Nodup ∧ (∀ l, l ∈ M ↔ ∃ l' ∈ done, ∃ x ∈ g, x ∉ l' ∧ rulesOk rs l' x = true ∧ l = more l' x) ∧ S = S' ∧ r = [.val (dT g), .val (.lst (rs.map dB)), .val (.lst ((F ++ V).map dT)), .val (.lst (V.map dT)), .val (.lst (g.map (dW rs))), .emp, s6, s7, .ownd true (M.map dKV), s9, s10]) ?_ ?_ V _ _ ⟨[], [], s6, s7, s9, s10, rfl, List.nodup_nil, (fun l => by simp), rfl, rfl⟩
    · rintro r S2 ⟨done, M, s6, s7, s9, s10, e, nM, mM, rfl, rfl⟩
      rw [List.append_nil] at e
      subst e
      have mM' : ∀ l, l ∈ M ↔ Reach g (rulesOk rs) l ∧ l.length = j + 1 := fun l => by
        rw [mM l]
        constructor
        · rintro ⟨l', h1, x, hx, hn, ho, rfl⟩
          obtain ⟨h2, h3⟩ := (mV l').mp h1
          exact ⟨.more h2 hx hn ho, by rw [more_len, h3]⟩
        · rintro ⟨h, hl⟩
          cases h with
          | nil => simp at hl
          | more h hx hn ho =>
            rw [more_len] at hl
            exact ⟨_, (mV _).mpr ⟨h, by omega⟩, _, hx, hn, ho, rfl⟩
      (repeat (first | (first | refine x_seq ?_ | refine x_set ?_ | refine x_own ?_ | refine x_asg ?_ | refine x_drop ?_ | refine x_ret ?_ | refine x_if ?_ | refine x_nil ?_ | refine x_for ?_ | refine x_augix ?_ | refine x_put ?_ | refine x_dnew ?_ | refine x_putd rfl ?_ | refine x_mt rfl ?_ | refine x_aug rfl ?_ | refine x_frz ?_ | refine x_ext rfl ?_ | refine x_ct ?_ | refine x_bk ?_ | refine x_retN ?_) | simp only [↓w_con, ↓w_var, ↓w_rd, ↓w_e1, ↓w_e2, ↓w_bin, ↓w_cmp, ↓w_ix, ↓w_neg, ↓w_not, ↓w_and, ↓w_or, ↓w_if, ↓w_args0, ↓w_args, ↓w_tup, ↓w_lst, ↓w_L, ↓w_cell, ↓w_call, ↓w_l1, ↓w_l2, ↓w_sortk, ↓w_str, ↓w_part0, ↓w_part, ↓w_cut, ↓w_lcut, ↓w_tval, ↓w_tcmp, ↓w_tnot, ↓w_tand, ↓w_tor, ↓w_tyes, ↓w_seq, ↓w_itB, ↓w_comp, ↓wO_some, ↓wO_none, ↓wO_bind, ↓wO_map, ↓wO_gd, List.map_cons, List.map_nil, List.cons_append, List.nil_append, List.replicate, List.getElem?_cons_zero, List.getElem?_cons_succ, List.set_cons_zero, List.set_cons_succ, der_non, der_bl, der_int, der_str, der_tup, der_lst, der_dct, der_ref, ↓oBin, ↓oAdd, ↓oSub, ↓oMul, ↓oMod, ↓oDiv, ↓oPow, ↓oCmp, ↓oTru, ↓oBl, ↓oNeg, ↓oIx, atI_0, atI_1, ixN_20, ixN_21, ↓oLen, ↓oTuple, ↓oInt, ↓oMax, ↓oMin, ↓oCut, ↓oList, ↓tgN, ↓tgT, ↓setAll, ↓listAt, ↓Pk.putAt, ↓wipeS, ↓getAtI, ↓setAtI, ↓oIp, List.length_cons, List.length_nil, Bool.not_true, Bool.not_false, if_true, if_false, ite_true, ite_false, reduceIte, List.length_replicate, Nat.reduceSub, Nat.reduceAdd, Int.reduceLT, Int.reduceLE, Int.reduceNeg, Bool.false_eq_true, Bool.true_eq_false, true_and, and_true, keys_dct, oSort_T] | (refine And.intro ?pk1 ?_; (case pk1 => (first | assumption | decide | omega | exact ⟨by assumption, by omega⟩ | (constructor <;> first | assumption | decide | omega) | (simp [okMul]; done))))))
      have hpm : (M.mergeSort (leBy dT)).Perm M := sort_perm (e := dT) M
      refine ⟨k - 1, by omega, j + 1, F ++ V, M.mergeSort (leBy dT), _, _, _, _, _, by omega, by omega, ?_, fun l => ?_, ?_, fun l => ?_, rfl, rfl⟩
      · refine List.pairwise_append.mpr ⟨oF, ?_, fun a ha b hb => ?_⟩
        · refine List.Pairwise.imp_of_mem (fun ha hb z => ?_) oV
          exact ⟨leO_iff.mpr (.inr ⟨by rw [((mV _).mp ha).2, ((mV _).mp hb).2], z.1⟩), z.2⟩
        · exact ltO_of (by rw [((mV b).mp hb).2]; exact ((mF a).mp ha).2)
      · rw [List.mem_append, mF, mV]
        constructor
        · rintro (z | z)
          · exact ⟨z.1, by omega⟩
          · exact ⟨z.1, by omega⟩
        · rintro ⟨z1, z2⟩
          by_cases hl : l.length < j
          · exact .inl ⟨z1, hl⟩
          · exact .inr ⟨z1, by omega⟩
      · have h1 := sort_pair (e := dT) M
        have h2 : (M.mergeSort (leBy dT)).Nodup := hpm.nodup_iff.mpr nM
        exact List.Pairwise.imp₂ (fun a b x y => ⟨x, y⟩) h1 h2
      · rw [hpm.mem_iff]; exact mM' l
    · rintro l rest r S2 ⟨done, M, s6, s7, s9, s10, e, nM, mM, rfl, rfl⟩
      obtain ⟨hRl, hll⟩ := (mV l).mp (by rw [e]; simp)
      have gl := hRl.good
      (repeat (first | (first | refine x_seq ?_ | refine x_set ?_ | refine x_own ?_ | refine x_asg ?_ | refine x_drop ?_ | refine x_ret ?_ | refine x_if ?_ | refine x_nil ?_ | refine x_for ?_ | refine x_augix ?_ | refine x_put ?_ | refine x_dnew ?_ | refine x_putd rfl ?_ | refine x_mt rfl ?_ | refine x_aug rfl ?_ | refine x_frz ?_ | refine x_ext rfl ?_ | refine x_ct ?_ | refine x_bk ?_ | refine x_retN ?_) | simp only [↓w_con, ↓w_var, ↓w_rd, ↓w_e1, ↓w_e2, ↓w_bin, ↓w_cmp, ↓w_ix, ↓w_neg, ↓w_not, ↓w_and, ↓w_or, ↓w_if, ↓w_args0, ↓w_args, ↓w_tup, ↓w_lst, ↓w_L, ↓w_cell, ↓w_call, ↓w_l1, ↓w_l2, ↓w_sortk, ↓w_str, ↓w_part0, ↓w_part, ↓w_cut, ↓w_lcut, ↓w_tval, ↓w_tcmp, ↓w_tnot, ↓w_tand, ↓w_tor, ↓w_tyes, ↓w_seq, ↓w_itB, ↓w_comp, ↓wO_some, ↓wO_none, ↓wO_bind, ↓wO_map, ↓wO_gd, List.map_cons, List.map_nil, List.cons_append, List.nil_append, List.replicate, List.getElem?_cons_zero, List.getElem?_cons_succ, List.set_cons_zero, List.set_cons_succ, der_non, der_bl, der_int, der_str, der_tup, der_lst, der_dct, der_ref, ↓oBin, ↓oAdd, ↓oSub, ↓oMul, ↓oMod, ↓oDiv, ↓oPow, ↓oCmp, ↓oTru, ↓oBl, ↓oNeg, ↓oIx, atI_0, atI_1, ixN_20, ixN_21, ↓oLen, ↓oTuple, ↓oInt, ↓oMax, ↓oMin, ↓oCut, ↓oList, ↓tgN, ↓tgT, ↓setAll, ↓listAt, ↓Pk.putAt, ↓wipeS, ↓getAtI, ↓setAtI, ↓oIp, List.length_cons, List.length_nil, Bool.not_true, Bool.not_false, if_true, if_false, ite_true, ite_false, reduceIte, List.length_replicate, Nat.reduceSub, Nat.reduceAdd, Int.reduceLT, Int.reduceLE, Int.reduceNeg, Bool.false_eq_true, Bool.true_eq_false, true_and, and_true] | (refine And.intro ?pk1 ?_; (case pk1 => (first | assumption | decide | omega | exact ⟨by assumption, by omega⟩ | (constructor <;> first | assumption | decide | omega) | (simp [okMul]; done))))))
      refine forD_map (dW rs) (fun xs r S' => ∃ (before : List Str) (M : List (List Str)) (s6 s7 s10 : Slot), g = before ++ xs ∧ M.Nodup ∧ (∀ y, y ∈ M ↔ (∃ l' ∈ done, ∃ x ∈ g, x ∉ l' ∧ rulesOk rs l' x = true ∧ y = more l' x) ∨ ∃ x ∈ before, x ∉ l ∧ rulesOk rs l x = true ∧ y = more l x) ∧ S = S' ∧ r = [.val (dT g), .val (.lst (rs.map dB)), .val (.lst ((F ++ V).map dT)), .val (.lst (V.map dT)), .val (.lst (g.map (dW rs))), .emp, s6, s7, .ownd true (M.map dKV), .val (dT l), s10]) ?_ ?_ g _ _ ⟨[], M, s6, s7, s10, rfl, nM, (fun y => by rw [mM y]; simp), rfl, rfl⟩
      · rintro r S2 ⟨before, M, s6, s7, s10, e2, nM, mM, rfl, rfl⟩
        rw [List.append_nil] at e2
        subst e2
        refine ⟨done ++ [l], M, _, _, _, _, by rw [e]; simp, nM, fun y => ?_, rfl, rfl⟩
        rw [mM y]
        constructor
        · rintro (⟨l', h1, z⟩ | ⟨x, z⟩)
          · exact ⟨l', List.mem_append_left _ h1, z⟩
          · exact ⟨l, by simp, x, z⟩
        · rintro ⟨l', h1, x, z⟩
          rcases List.mem_append.mp h1 with h1 | h1
          · exact .inl ⟨l', h1, x, z⟩
          · simp at h1; subst h1; exact .inr ⟨x, z⟩
      · rintro x xs r S2 ⟨before, M, s6, s7, s10, e2, nM, mM, rfl, rfl⟩
        have hxg : x ∈ g := by rw [e2]; simp
        have hMl : M.length ≤ 128 := few_sets hg hr nM fun y hy => by
          rcases (mM y).mp hy with ⟨l', h1, z, hz', hn, ho, rfl⟩ | ⟨z, hz', hn, ho, rfl⟩
          · exact (Reach.more ((mV l').mp (by rw [e]; simp [h1])).1 hz' hn ho).good
          · exact (Reach.more hRl (by rw [e2]; simp [hz']) hn ho).good
        have hlx : l.map D.str ++ [D.str x] = (l ++ [x]).map D.str := by simp
        have hlz : l.length + 1 ≤ sizeLine := by omega
        have hMz : M.length < sizeLine := by omega
        have skip : ∀ (M' : List (List Str)) (s6 s7 s10 : Slot), M' = (if (x ∉ l ∧ rulesOk rs l x = true) ∧ more l x ∉ M then M ++ [more l x] else M) → ∃ (before : List Str) (N : List (List Str)) (s6' s7' s10' : Slot), g = before ++ xs ∧ N.Nodup ∧ (∀ y, y ∈ N ↔ (∃ l' ∈ done, ∃ x ∈ g, x ∉ l' ∧ rulesOk rs l' x = true ∧ y = more l' x) ∨ ∃ x ∈ before, x ∉ l ∧ rulesOk rs l x = true ∧ y = more l x) ∧ S = S ∧ [Slot.val (dT g), .val (.lst (rs.map dB)), .val (.lst ((F ++ V).map dT)), .val (.lst (V.map dT)), .val (.lst (g.map (dW rs))), .emp, s6, s7, .ownd true (M'.map dKV), .val (dT l), s10] = [.val (dT g), .val (.lst (rs.map dB)), .val (.lst ((F ++ V).map dT)), .val (.lst (V.map dT)), .val (.lst (g.map (dW rs))), .emp, s6', s7', .ownd true (N.map dKV), .val (dT l), s10'] := fun M' s6 s7 s10 hc => by
          refine ⟨before ++ [x], M', _, _, _, by rw [e2]; simp, ?_, fun y => ?_, rfl, rfl⟩
          · rw [hc]
            split
            · next h => exact List.nodup_append.mpr ⟨nM, by simp, fun a ha b hb z => by simp at hb; subst hb; subst z; exact h.2 ha⟩
            · exact nM
          have mid : y ∈ M' ↔ y ∈ M ∨ ((x ∉ l ∧ rulesOk rs l x = true) ∧ y = more l x) := by
            rw [hc]
            split
            · next h =>
              rw [List.mem_append, List.mem_singleton]
              exact ⟨fun z => z.imp id fun w => ⟨h.1, w⟩, fun z => z.imp id fun w => w.2⟩
            · next h =>
              refine ⟨.inl, fun z => z.elim id fun w => ?_⟩
              rw [w.2]
              exact Classical.byContradiction fun u => h ⟨w.1, u⟩
          rw [mid, mM y]
          constructor
          · rintro ((z | ⟨w, hw, z⟩) | ⟨⟨h1, h2⟩, rfl⟩)
            · exact .inl z
            · exact .inr ⟨w, List.mem_append_left _ hw, z⟩
            · exact .inr ⟨x, by simp, h1, h2, rfl⟩
          · rintro (z | ⟨w, hw, h1, h2, rfl⟩)
            · exact .inl (.inl z)
            · rcases List.mem_append.mp hw with hw | hw
              · exact .inl (.inr ⟨w, hw, h1, h2, rfl⟩)
              · simp at hw
                subst hw
                exact .inr ⟨⟨h1, h2⟩, rfl⟩
        (repeat (first | (first | refine x_seq ?_ | refine x_set ?_ | refine x_own ?_ | refine x_asg ?_ | refine x_drop ?_ | refine x_ret ?_ | refine x_if ?_ | refine x_nil ?_ | refine x_for ?_ | refine x_augix ?_ | refine x_put ?_ | refine x_dnew ?_ | refine x_putd rfl ?_ | refine x_mt rfl ?_ | refine x_aug rfl ?_ | refine x_frz ?_ | refine x_ext rfl ?_ | refine x_ct ?_ | refine x_bk ?_ | refine x_retN ?_) | simp only [↓w_con, ↓w_var, ↓w_rd, ↓w_e1, ↓w_e2, ↓w_bin, ↓w_cmp, ↓w_ix, ↓w_neg, ↓w_not, ↓w_and, ↓w_or, ↓w_if, ↓w_args0, ↓w_args, ↓w_tup, ↓w_lst, ↓w_L, ↓w_cell, ↓w_call, ↓w_l1, ↓w_l2, ↓w_sortk, ↓w_str, ↓w_part0, ↓w_part, ↓w_cut, ↓w_lcut, ↓w_tval, ↓w_tcmp, ↓w_tnot, ↓w_tand, ↓w_tor, ↓w_tyes, ↓w_seq, ↓w_itB, ↓w_comp, ↓wO_some, ↓wO_none, ↓wO_bind, ↓wO_map, ↓wO_gd, List.map_cons, List.map_nil, List.cons_append, List.nil_append, List.replicate, List.getElem?_cons_zero, List.getElem?_cons_succ, List.set_cons_zero, List.set_cons_succ, der_non, der_bl, der_int, der_str, der_tup, der_lst, der_dct, der_ref, ↓oBin, ↓oAdd, ↓oSub, ↓oMul, ↓oMod, ↓oDiv, ↓oPow, ↓oCmp, ↓oTru, ↓oBl, ↓oNeg, ↓oIx, atI_0, atI_1, ixN_20, ixN_21, ↓oLen, ↓oTuple, ↓oInt, ↓oMax, ↓oMin, ↓oCut, ↓oList, ↓tgN, ↓tgT, ↓setAll, ↓listAt, ↓Pk.putAt, ↓wipeS, ↓getAtI, ↓setAtI, ↓oIp, List.length_cons, List.length_nil, Bool.not_true, Bool.not_false, if_true, if_false, ite_true, ite_false, reduceIte, List.length_replicate, Nat.reduceSub, Nat.reduceAdd, Int.reduceLT, Int.reduceLE, Int.reduceNeg, Bool.false_eq_true, Bool.true_eq_false, true_and, and_true, dW, oIn_tup (e := D.str) em_str (by decide), Option.map_some] | (refine And.intro ?pk1 ?_; (case pk1 => (first | assumption | decide | omega | exact ⟨by assumption, by omega⟩ | (constructor <;> first | assumption | decide | omega) | (simp [okMul]; done))))))
        by_cases hxl : x ∈ l
        · simp only [hxl, decide_true]
          (repeat (first | (first | refine x_seq ?_ | refine x_set ?_ | refine x_own ?_ | refine x_asg ?_ | refine x_drop ?_ | refine x_ret ?_ | refine x_if ?_ | refine x_nil ?_ | refine x_for ?_ | refine x_augix ?_ | refine x_put ?_ | refine x_dnew ?_ | refine x_putd rfl ?_ | refine x_mt rfl ?_ | refine x_aug rfl ?_ | refine x_frz ?_ | refine x_ext rfl ?_ | refine x_ct ?_ | refine x_bk ?_ | refine x_retN ?_) | simp only [↓w_con, ↓w_var, ↓w_rd, ↓w_e1, ↓w_e2, ↓w_bin, ↓w_cmp, ↓w_ix, ↓w_neg, ↓w_not, ↓w_and, ↓w_or, ↓w_if, ↓w_args0, ↓w_args, ↓w_tup, ↓w_lst, ↓w_L, ↓w_cell, ↓w_call, ↓w_l1, ↓w_l2, ↓w_sortk, ↓w_str, ↓w_part0, ↓w_part, ↓w_cut, ↓w_lcut, ↓w_tval, ↓w_tcmp, ↓w_tnot, ↓w_tand, ↓w_tor, ↓w_tyes, ↓w_seq, ↓w_itB, ↓w_comp, ↓wO_some, ↓wO_none, ↓wO_bind, ↓wO_map, ↓wO_gd, List.map_cons, List.map_nil, List.cons_append, List.nil_append, List.replicate, List.getElem?_cons_zero, List.getElem?_cons_succ, List.set_cons_zero, List.set_cons_succ, der_non, der_bl, der_int, der_str, der_tup, der_lst, der_dct, der_ref, ↓oBin, ↓oAdd, ↓oSub, ↓oMul, ↓oMod, ↓oDiv, ↓oPow, ↓oCmp, ↓oTru, ↓oBl, ↓oNeg, ↓oIx, atI_0, atI_1, ixN_20, ixN_21, ↓oLen, ↓oTuple, ↓oInt, ↓oMax, ↓oMin, ↓oCut, ↓oList, ↓tgN, ↓tgT, ↓setAll, ↓listAt, ↓Pk.putAt, ↓wipeS, ↓getAtI, ↓setAtI, ↓oIp, List.length_cons, List.length_nil, Bool.not_true, Bool.not_false, if_true, if_false, ite_true, ite_false, reduceIte, List.length_replicate, Nat.reduceSub, Nat.reduceAdd, Int.reduceLT, Int.reduceLE, Int.reduceNeg, Bool.false_eq_true, Bool.true_eq_false, true_and, and_true] | (refine And.intro ?pk1 ?_; (case pk1 => (first | assumption | decide | omega | exact ⟨by assumption, by omega⟩ | (constructor <;> first | assumption | decide | omega) | (simp [okMul]; done))))))
          exact skip M _ _ _ (by rw [if_neg (by simp [hxl])])
        · simp only [hxl, decide_false]
          (repeat (first | (first | refine x_seq ?_ | refine x_set ?_ | refine x_own ?_ | refine x_asg ?_ | refine x_drop ?_ | refine x_ret ?_ | refine x_if ?_ | refine x_nil ?_ | refine x_for ?_ | refine x_augix ?_ | refine x_put ?_ | refine x_dnew ?_ | refine x_putd rfl ?_ | refine x_mt rfl ?_ | refine x_aug rfl ?_ | refine x_frz ?_ | refine x_ext rfl ?_ | refine x_ct ?_ | refine x_bk ?_ | refine x_retN ?_) | simp only [↓w_con, ↓w_var, ↓w_rd, ↓w_e1, ↓w_e2, ↓w_bin, ↓w_cmp, ↓w_ix, ↓w_neg, ↓w_not, ↓w_and, ↓w_or, ↓w_if, ↓w_args0, ↓w_args, ↓w_tup, ↓w_lst, ↓w_L, ↓w_cell, ↓w_call, ↓w_l1, ↓w_l2, ↓w_sortk, ↓w_str, ↓w_part0, ↓w_part, ↓w_cut, ↓w_lcut, ↓w_tval, ↓w_tcmp, ↓w_tnot, ↓w_tand, ↓w_tor, ↓w_tyes, ↓w_seq, ↓w_itB, ↓w_comp, ↓wO_some, ↓wO_none, ↓wO_bind, ↓wO_map, ↓wO_gd, List.map_cons, List.map_nil, List.cons_append, List.nil_append, List.replicate, List.getElem?_cons_zero, List.getElem?_cons_succ, List.set_cons_zero, List.set_cons_succ, der_non, der_bl, der_int, der_str, der_tup, der_lst, der_dct, der_ref, ↓oBin, ↓oAdd, ↓oSub, ↓oMul, ↓oMod, ↓oDiv, ↓oPow, ↓oCmp, ↓oTru, ↓oBl, ↓oNeg, ↓oIx, atI_0, atI_1, ixN_20, ixN_21, ↓oLen, ↓oTuple, ↓oInt, ↓oMax, ↓oMin, ↓oCut, ↓oList, ↓tgN, ↓tgT, ↓setAll, ↓listAt, ↓Pk.putAt, ↓wipeS, ↓getAtI, ↓setAtI, ↓oIp, List.length_cons, List.length_nil, Bool.not_true, Bool.not_false, if_true, if_false, ite_true, ite_false, reduceIte, List.length_replicate, Nat.reduceSub, Nat.reduceAdd, Int.reduceLT, Int.reduceLE, Int.reduceNeg, Bool.false_eq_true, Bool.true_eq_false, true_and, and_true] | (refine And.intro ?pk1 ?_; (case pk1 => (first | assumption | decide | omega | exact ⟨by assumption, by omega⟩ | (constructor <;> first | assumption | decide | omega) | (simp [okMul]; done))))))
          refine compD_all (fun p : Str × List Str => dT p.2) (fun p => .bl (p.2.any fun y => decide (y ∈ l))) (fun p _ => ?_) ?_
          · (repeat (first | (first | refine x_seq ?_ | refine x_set ?_ | refine x_own ?_ | refine x_asg ?_ | refine x_drop ?_ | refine x_ret ?_ | refine x_if ?_ | refine x_nil ?_ | refine x_for ?_ | refine x_augix ?_ | refine x_put ?_ | refine x_dnew ?_ | refine x_putd rfl ?_ | refine x_mt rfl ?_ | refine x_aug rfl ?_ | refine x_frz ?_ | refine x_ext rfl ?_ | refine x_ct ?_ | refine x_bk ?_ | refine x_retN ?_) | simp only [↓w_con, ↓w_var, ↓w_rd, ↓w_e1, ↓w_e2, ↓w_bin, ↓w_cmp, ↓w_ix, ↓w_neg, ↓w_not, ↓w_and, ↓w_or, ↓w_if, ↓w_args0, ↓w_args, ↓w_tup, ↓w_lst, ↓w_L, ↓w_cell, ↓w_call, ↓w_l1, ↓w_l2, ↓w_sortk, ↓w_str, ↓w_part0, ↓w_part, ↓w_cut, ↓w_lcut, ↓w_tval, ↓w_tcmp, ↓w_tnot, ↓w_tand, ↓w_tor, ↓w_tyes, ↓w_seq, ↓w_itB, ↓w_comp, ↓wO_some, ↓wO_none, ↓wO_bind, ↓wO_map, ↓wO_gd, List.map_cons, List.map_nil, List.cons_append, List.nil_append, List.replicate, List.getElem?_cons_zero, List.getElem?_cons_succ, List.set_cons_zero, List.set_cons_succ, der_non, der_bl, der_int, der_str, der_tup, der_lst, der_dct, der_ref, ↓oBin, ↓oAdd, ↓oSub, ↓oMul, ↓oMod, ↓oDiv, ↓oPow, ↓oCmp, ↓oTru, ↓oBl, ↓oNeg, ↓oIx, atI_0, atI_1, ixN_20, ixN_21, ↓oLen, ↓oTuple, ↓oInt, ↓oMax, ↓oMin, ↓oCut, ↓oList, ↓tgN, ↓tgT, ↓setAll, ↓listAt, ↓Pk.putAt, ↓wipeS, ↓getAtI, ↓setAtI, ↓oIp, List.length_cons, List.length_nil, Bool.not_true, Bool.not_false, if_true, if_false, ite_true, ite_false, reduceIte, List.length_replicate, Nat.reduceSub, Nat.reduceAdd, Int.reduceLT, Int.reduceLE, Int.reduceNeg, Bool.false_eq_true, Bool.true_eq_false, true_and, and_true] | (refine And.intro ?pk1 ?_; (case pk1 => (first | assumption | decide | omega | exact ⟨by assumption, by omega⟩ | (constructor <;> first | assumption | decide | omega) | (simp [okMul]; done))))))
            refine meet_w ?_
            (repeat (first | (first | refine x_seq ?_ | refine x_set ?_ | refine x_own ?_ | refine x_asg ?_ | refine x_drop ?_ | refine x_ret ?_ | refine x_if ?_ | refine x_nil ?_ | refine x_for ?_ | refine x_augix ?_ | refine x_put ?_ | refine x_dnew ?_ | refine x_putd rfl ?_ | refine x_mt rfl ?_ | refine x_aug rfl ?_ | refine x_frz ?_ | refine x_ext rfl ?_ | refine x_ct ?_ | refine x_bk ?_ | refine x_retN ?_) | simp only [↓w_con, ↓w_var, ↓w_rd, ↓w_e1, ↓w_e2, ↓w_bin, ↓w_cmp, ↓w_ix, ↓w_neg, ↓w_not, ↓w_and, ↓w_or, ↓w_if, ↓w_args0, ↓w_args, ↓w_tup, ↓w_lst, ↓w_L, ↓w_cell, ↓w_call, ↓w_l1, ↓w_l2, ↓w_sortk, ↓w_str, ↓w_part0, ↓w_part, ↓w_cut, ↓w_lcut, ↓w_tval, ↓w_tcmp, ↓w_tnot, ↓w_tand, ↓w_tor, ↓w_tyes, ↓w_seq, ↓w_itB, ↓w_comp, ↓wO_some, ↓wO_none, ↓wO_bind, ↓wO_map, ↓wO_gd, List.map_cons, List.map_nil, List.cons_append, List.nil_append, List.replicate, List.getElem?_cons_zero, List.getElem?_cons_succ, List.set_cons_zero, List.set_cons_succ, der_non, der_bl, der_int, der_str, der_tup, der_lst, der_dct, der_ref, ↓oBin, ↓oAdd, ↓oSub, ↓oMul, ↓oMod, ↓oDiv, ↓oPow, ↓oCmp, ↓oTru, ↓oBl, ↓oNeg, ↓oIx, atI_0, atI_1, ixN_20, ixN_21, ↓oLen, ↓oTuple, ↓oInt, ↓oMax, ↓oMin, ↓oCut, ↓oList, ↓tgN, ↓tgT, ↓setAll, ↓listAt, ↓Pk.putAt, ↓wipeS, ↓getAtI, ↓setAtI, ↓oIp, List.length_cons, List.length_nil, Bool.not_true, Bool.not_false, if_true, if_false, ite_true, ite_false, reduceIte, List.length_replicate, Nat.reduceSub, Nat.reduceAdd, Int.reduceLT, Int.reduceLE, Int.reduceNeg, Bool.false_eq_true, Bool.true_eq_false, true_and, and_true] | (refine And.intro ?pk1 ?_; (case pk1 => (first | assumption | decide | omega | exact ⟨by assumption, by omega⟩ | (constructor <;> first | assumption | decide | omega) | (simp [okMul]; done))))))
          (repeat (first | (first | refine x_seq ?_ | refine x_set ?_ | refine x_own ?_ | refine x_asg ?_ | refine x_drop ?_ | refine x_ret ?_ | refine x_if ?_ | refine x_nil ?_ | refine x_for ?_ | refine x_augix ?_ | refine x_put ?_ | refine x_dnew ?_ | refine x_putd rfl ?_ | refine x_mt rfl ?_ | refine x_aug rfl ?_ | refine x_frz ?_ | refine x_ext rfl ?_ | refine x_ct ?_ | refine x_bk ?_ | refine x_retN ?_) | simp only [↓w_con, ↓w_var, ↓w_rd, ↓w_e1, ↓w_e2, ↓w_bin, ↓w_cmp, ↓w_ix, ↓w_neg, ↓w_not, ↓w_and, ↓w_or, ↓w_if, ↓w_args0, ↓w_args, ↓w_tup, ↓w_lst, ↓w_L, ↓w_cell, ↓w_call, ↓w_l1, ↓w_l2, ↓w_sortk, ↓w_str, ↓w_part0, ↓w_part, ↓w_cut, ↓w_lcut, ↓w_tval, ↓w_tcmp, ↓w_tnot, ↓w_tand, ↓w_tor, ↓w_tyes, ↓w_seq, ↓w_itB, ↓w_comp, ↓wO_some, ↓wO_none, ↓wO_bind, ↓wO_map, ↓wO_gd, List.map_cons, List.map_nil, List.cons_append, List.nil_append, List.replicate, List.getElem?_cons_zero, List.getElem?_cons_succ, List.set_cons_zero, List.set_cons_succ, der_non, der_bl, der_int, der_str, der_tup, der_lst, der_dct, der_ref, ↓oBin, ↓oAdd, ↓oSub, ↓oMul, ↓oMod, ↓oDiv, ↓oPow, ↓oCmp, ↓oTru, ↓oBl, ↓oNeg, ↓oIx, atI_0, atI_1, ixN_20, ixN_21, ↓oLen, ↓oTuple, ↓oInt, ↓oMax, ↓oMin, ↓oCut, ↓oList, ↓tgN, ↓tgT, ↓setAll, ↓listAt, ↓Pk.putAt, ↓wipeS, ↓getAtI, ↓setAtI, ↓oIp, List.length_cons, List.length_nil, Bool.not_true, Bool.not_false, if_true, if_false, ite_true, ite_false, reduceIte, List.length_replicate, Nat.reduceSub, Nat.reduceAdd, Int.reduceLT, Int.reduceLE, Int.reduceNeg, Bool.false_eq_true, Bool.true_eq_false, true_and, and_true, oAll_map, wants_ok] | (refine And.intro ?pk1 ?_; (case pk1 => (first | assumption | decide | omega | exact ⟨by assumption, by omega⟩ | (constructor <;> first | assumption | decide | omega) | (simp [okMul]; done))))))
          cases hok : rulesOk rs l x with
          | false =>
            (repeat (first | (first | refine x_seq ?_ | refine x_set ?_ | refine x_own ?_ | refine x_asg ?_ | refine x_drop ?_ | refine x_ret ?_ | refine x_if ?_ | refine x_nil ?_ | refine x_for ?_ | refine x_augix ?_ | refine x_put ?_ | refine x_dnew ?_ | refine x_putd rfl ?_ | refine x_mt rfl ?_ | refine x_aug rfl ?_ | refine x_frz ?_ | refine x_ext rfl ?_ | refine x_ct ?_ | refine x_bk ?_ | refine x_retN ?_) | simp only [↓w_con, ↓w_var, ↓w_rd, ↓w_e1, ↓w_e2, ↓w_bin, ↓w_cmp, ↓w_ix, ↓w_neg, ↓w_not, ↓w_and, ↓w_or, ↓w_if, ↓w_args0, ↓w_args, ↓w_tup, ↓w_lst, ↓w_L, ↓w_cell, ↓w_call, ↓w_l1, ↓w_l2, ↓w_sortk, ↓w_str, ↓w_part0, ↓w_part, ↓w_cut, ↓w_lcut, ↓w_tval, ↓w_tcmp, ↓w_tnot, ↓w_tand, ↓w_tor, ↓w_tyes, ↓w_seq, ↓w_itB, ↓w_comp, ↓wO_some, ↓wO_none, ↓wO_bind, ↓wO_map, ↓wO_gd, List.map_cons, List.map_nil, List.cons_append, List.nil_append, List.replicate, List.getElem?_cons_zero, List.getElem?_cons_succ, List.set_cons_zero, List.set_cons_succ, der_non, der_bl, der_int, der_str, der_tup, der_lst, der_dct, der_ref, ↓oBin, ↓oAdd, ↓oSub, ↓oMul, ↓oMod, ↓oDiv, ↓oPow, ↓oCmp, ↓oTru, ↓oBl, ↓oNeg, ↓oIx, atI_0, atI_1, ixN_20, ixN_21, ↓oLen, ↓oTuple, ↓oInt, ↓oMax, ↓oMin, ↓oCut, ↓oList, ↓tgN, ↓tgT, ↓setAll, ↓listAt, ↓Pk.putAt, ↓wipeS, ↓getAtI, ↓setAtI, ↓oIp, List.length_cons, List.length_nil, Bool.not_true, Bool.not_false, if_true, if_false, ite_true, ite_false, reduceIte, List.length_replicate, Nat.reduceSub, Nat.reduceAdd, Int.reduceLT, Int.reduceLE, Int.reduceNeg, Bool.false_eq_true, Bool.true_eq_false, true_and, and_true] | (refine And.intro ?pk1 ?_; (case pk1 => (first | assumption | decide | omega | exact ⟨by assumption, by omega⟩ | (constructor <;> first | assumption | decide | omega) | (simp [okMul]; done))))))
            exact skip M _ _ _ (by rw [if_neg (by simp [hok])])
          | true =>
            (repeat (first | (first | refine x_seq ?_ | refine x_set ?_ | refine x_own ?_ | refine x_asg ?_ | refine x_drop ?_ | refine x_ret ?_ | refine x_if ?_ | refine x_nil ?_ | refine x_for ?_ | refine x_augix ?_ | refine x_put ?_ | refine x_dnew ?_ | refine x_putd rfl ?_ | refine x_mt rfl ?_ | refine x_aug rfl ?_ | refine x_frz ?_ | refine x_ext rfl ?_ | refine x_ct ?_ | refine x_bk ?_ | refine x_retN ?_) | simp only [↓w_con, ↓w_var, ↓w_rd, ↓w_e1, ↓w_e2, ↓w_bin, ↓w_cmp, ↓w_ix, ↓w_neg, ↓w_not, ↓w_and, ↓w_or, ↓w_if, ↓w_args0, ↓w_args, ↓w_tup, ↓w_lst, ↓w_L, ↓w_cell, ↓w_call, ↓w_l1, ↓w_l2, ↓w_sortk, ↓w_str, ↓w_part0, ↓w_part, ↓w_cut, ↓w_lcut, ↓w_tval, ↓w_tcmp, ↓w_tnot, ↓w_tand, ↓w_tor, ↓w_tyes, ↓w_seq, ↓w_itB, ↓w_comp, ↓wO_some, ↓wO_none, ↓wO_bind, ↓wO_map, ↓wO_gd, List.map_cons, List.map_nil, List.cons_append, List.nil_append, List.replicate, List.getElem?_cons_zero, List.getElem?_cons_succ, List.set_cons_zero, List.set_cons_succ, der_non, der_bl, der_int, der_str, der_tup, der_lst, der_dct, der_ref, ↓oBin, ↓oAdd, ↓oSub, ↓oMul, ↓oMod, ↓oDiv, ↓oPow, ↓oCmp, ↓oTru, ↓oBl, ↓oNeg, ↓oIx, atI_0, atI_1, ixN_20, ixN_21, ↓oLen, ↓oTuple, ↓oInt, ↓oMax, ↓oMin, ↓oCut, ↓oList, ↓tgN, ↓tgT, ↓setAll, ↓listAt, ↓Pk.putAt, ↓wipeS, ↓getAtI, ↓setAtI, ↓oIp, List.length_cons, List.length_nil, Bool.not_true, Bool.not_false, if_true, if_false, ite_true, ite_false, reduceIte, List.length_replicate, Nat.reduceSub, Nat.reduceAdd, Int.reduceLT, Int.reduceLE, Int.reduceNeg, Bool.false_eq_true, Bool.true_eq_false, true_and, and_true, List.length_map, hlx, oSort_strT] | (refine And.intro ?pk1 ?_; (case pk1 => (first | assumption | decide | omega | exact ⟨by assumption, by omega⟩ | (constructor <;> first | assumption | decide | omega) | (simp [okMul]; done))))))
            have hk : kOf true (D.tup ((sortS (l ++ [x])).map D.str)) = some ((sortS (l ++ [x])).map Sum.inr) := kOf_T _
            have hp : dPut true (M.map dKV) (D.tup ((sortS (l ++ [x])).map D.str)) ((sortS (l ++ [x])).map Sum.inr) (.bl true) = (if sortS (l ++ [x]) ∈ M then M else M ++ [sortS (l ++ [x])]).map dKV := dPut_T _ _
            (repeat (first | (first | refine x_seq ?_ | refine x_set ?_ | refine x_own ?_ | refine x_asg ?_ | refine x_drop ?_ | refine x_ret ?_ | refine x_if ?_ | refine x_nil ?_ | refine x_for ?_ | refine x_augix ?_ | refine x_put ?_ | refine x_dnew ?_ | refine x_putd rfl ?_ | refine x_mt rfl ?_ | refine x_aug rfl ?_ | refine x_frz ?_ | refine x_ext rfl ?_ | refine x_ct ?_ | refine x_bk ?_ | refine x_retN ?_) | simp only [↓w_con, ↓w_var, ↓w_rd, ↓w_e1, ↓w_e2, ↓w_bin, ↓w_cmp, ↓w_ix, ↓w_neg, ↓w_not, ↓w_and, ↓w_or, ↓w_if, ↓w_args0, ↓w_args, ↓w_tup, ↓w_lst, ↓w_L, ↓w_cell, ↓w_call, ↓w_l1, ↓w_l2, ↓w_sortk, ↓w_str, ↓w_part0, ↓w_part, ↓w_cut, ↓w_lcut, ↓w_tval, ↓w_tcmp, ↓w_tnot, ↓w_tand, ↓w_tor, ↓w_tyes, ↓w_seq, ↓w_itB, ↓w_comp, ↓wO_some, ↓wO_none, ↓wO_bind, ↓wO_map, ↓wO_gd, List.map_cons, List.map_nil, List.cons_append, List.nil_append, List.replicate, List.getElem?_cons_zero, List.getElem?_cons_succ, List.set_cons_zero, List.set_cons_succ, der_non, der_bl, der_int, der_str, der_tup, der_lst, der_dct, der_ref, ↓oBin, ↓oAdd, ↓oSub, ↓oMul, ↓oMod, ↓oDiv, ↓oPow, ↓oCmp, ↓oTru, ↓oBl, ↓oNeg, ↓oIx, atI_0, atI_1, ixN_20, ixN_21, ↓oLen, ↓oTuple, ↓oInt, ↓oMax, ↓oMin, ↓oCut, ↓oList, ↓tgN, ↓tgT, ↓setAll, ↓listAt, ↓Pk.putAt, ↓wipeS, ↓getAtI, ↓setAtI, ↓oIp, List.length_cons, List.length_nil, Bool.not_true, Bool.not_false, if_true, if_false, ite_true, ite_false, reduceIte, List.length_replicate, Nat.reduceSub, Nat.reduceAdd, Int.reduceLT, Int.reduceLE, Int.reduceNeg, Bool.false_eq_true, Bool.true_eq_false, true_and, and_true, hk, hp] | (refine And.intro ?pk1 ?_; (case pk1 => (first | assumption | decide | omega | exact ⟨by assumption, by omega⟩ | (constructor <;> first | assumption | decide | omega) | (simp [okMul]; done))))))
            refine skip _ _ _ _ ?_
            show (if more l x ∈ M then M else M ++ [more l x]) = _
            by_cases hin : more l x ∈ M
            · rw [if_pos hin, if_neg (by simp [hin])]
            · rw [if_neg hin, if_pos ⟨⟨hxl, hok⟩, hin⟩]
end Pk
namespace Pk
open PySem PySem.Spec PyProof.Rows L2
/-! ### what bars -/
/-- the rests of the brings of a thing -/

theorem groundD_w {n k : Nat} {S : Store} (hd : Drw S n) {Q : D → Store → Prop} (q : ∀ g S', Grd g → Fr n S S' → Q (dT g) S') : wE (g_law_groundD [.ref n, .int k] S) Q := by
  refine w_fn rfl ?_
  unfold b_law_groundD
  (repeat (first | (first | refine x_seq ?_ | refine x_set ?_ | refine x_own ?_ | refine x_asg ?_ | refine x_drop ?_ | refine x_ret ?_ | refine x_if ?_ | refine x_nil ?_ | refine x_for ?_ | refine x_augix ?_ | refine x_put ?_ | refine x_dnew ?_ | refine x_putd rfl ?_ | refine x_mt rfl ?_ | refine x_aug rfl ?_ | refine x_frz ?_ | refine x_ext rfl ?_ | refine x_ct ?_ | refine x_bk ?_ | refine x_retN ?_) | simp only [↓w_con, ↓w_var, ↓w_rd, ↓w_e1, ↓w_e2, ↓w_bin, ↓w_cmp, ↓w_ix, ↓w_neg, ↓w_not, ↓w_and, ↓w_or, ↓w_if, ↓w_args0, ↓w_args, ↓w_tup, ↓w_lst, ↓w_L, ↓w_cell, ↓w_call, ↓w_l1, ↓w_l2, ↓w_sortk, ↓w_str, ↓w_part0, ↓w_part, ↓w_cut, ↓w_lcut, ↓w_tval, ↓w_tcmp, ↓w_tnot, ↓w_tand, ↓w_tor, ↓w_tyes, ↓w_seq, ↓w_itB, ↓w_comp, ↓wO_some, ↓wO_none, ↓wO_bind, ↓wO_map, ↓wO_gd, List.map_cons, List.map_nil, List.cons_append, List.nil_append, List.replicate, List.getElem?_cons_zero, List.getElem?_cons_succ, List.set_cons_zero, List.set_cons_succ, der_non, der_bl, der_int, der_str, der_tup, der_lst, der_dct, der_ref, ↓oBin, ↓oAdd, ↓oSub, ↓oMul, ↓oMod, ↓oDiv, ↓oPow, ↓oCmp, ↓oTru, ↓oBl, ↓oNeg, ↓oIx, atI_0, atI_1, ixN_20, ixN_21, ↓oLen, ↓oTuple, ↓oInt, ↓oMax, ↓oMin, ↓oCut, ↓oList, ↓tgN, ↓tgT, ↓setAll, ↓listAt, ↓Pk.putAt, ↓wipeS, ↓getAtI, ↓setAtI, ↓oIp, List.length_cons, List.length_nil, Bool.not_true, Bool.not_false, if_true, if_false, ite_true, ite_false, reduceIte, List.length_replicate, Nat.reduceSub, Nat.reduceAdd, Int.reduceLT, Int.reduceLE, Int.reduceNeg, Bool.false_eq_true, Bool.true_eq_false, true_and, and_true, oLt] | (refine And.intro ?pk1 ?_; (case pk1 => (first | assumption | decide | omega | exact ⟨by assumption, by omega⟩ | (constructor <;> first | assumption | decide | omega) | (simp [okMul]; done))))))
  obtain ⟨m5, e5, a5, b5⟩ := atI_in (l := [D.int 7, D.int 5]) (u := if decide ((0 : Int) < (k : Int)) = true then 1 else 0) (a := 1) (b := 7) (by split <;> decide) (by split <;> decide) (by decide)
  (repeat (first | (first | refine x_seq ?_ | refine x_set ?_ | refine x_own ?_ | refine x_asg ?_ | refine x_drop ?_ | refine x_ret ?_ | refine x_if ?_ | refine x_nil ?_ | refine x_for ?_ | refine x_augix ?_ | refine x_put ?_ | refine x_dnew ?_ | refine x_putd rfl ?_ | refine x_mt rfl ?_ | refine x_aug rfl ?_ | refine x_frz ?_ | refine x_ext rfl ?_ | refine x_ct ?_ | refine x_bk ?_ | refine x_retN ?_) | simp only [↓w_con, ↓w_var, ↓w_rd, ↓w_e1, ↓w_e2, ↓w_bin, ↓w_cmp, ↓w_ix, ↓w_neg, ↓w_not, ↓w_and, ↓w_or, ↓w_if, ↓w_args0, ↓w_args, ↓w_tup, ↓w_lst, ↓w_L, ↓w_cell, ↓w_call, ↓w_l1, ↓w_l2, ↓w_sortk, ↓w_str, ↓w_part0, ↓w_part, ↓w_cut, ↓w_lcut, ↓w_tval, ↓w_tcmp, ↓w_tnot, ↓w_tand, ↓w_tor, ↓w_tyes, ↓w_seq, ↓w_itB, ↓w_comp, ↓wO_some, ↓wO_none, ↓wO_bind, ↓wO_map, ↓wO_gd, List.map_cons, List.map_nil, List.cons_append, List.nil_append, List.replicate, List.getElem?_cons_zero, List.getElem?_cons_succ, List.set_cons_zero, List.set_cons_succ, der_non, der_bl, der_int, der_str, der_tup, der_lst, der_dct, der_ref, ↓oBin, ↓oAdd, ↓oSub, ↓oMul, ↓oMod, ↓oDiv, ↓oPow, ↓oCmp, ↓oTru, ↓oBl, ↓oNeg, ↓oIx, atI_0, atI_1, ixN_20, ixN_21, ↓oLen, ↓oTuple, ↓oInt, ↓oMax, ↓oMin, ↓oCut, ↓oList, ↓tgN, ↓tgT, ↓setAll, ↓listAt, ↓Pk.putAt, ↓wipeS, ↓getAtI, ↓setAtI, ↓oIp, List.length_cons, List.length_nil, Bool.not_true, Bool.not_false, if_true, if_false, ite_true, ite_false, reduceIte, List.length_replicate, Nat.reduceSub, Nat.reduceAdd, Int.reduceLT, Int.reduceLE, Int.reduceNeg, Bool.false_eq_true, Bool.true_eq_false, true_and, and_true, e5] | (refine And.intro ?pk1 ?_; (case pk1 => (first | assumption | decide | omega | exact ⟨by assumption, by omega⟩ | (constructor <;> first | assumption | decide | omega) | (simp [okMul]; done))))))
  refine next_w hd (by decide) (by decide) fun u S2 hu0 hu1 fr2 => ?_
  obtain ⟨m, e6, am, bm⟩ := atI_in (l := [D.int 1, D.int 2, D.int 3, D.int 3, D.int 4, D.int 4, D.int 5, D.int m5]) (u := u) (a := 1) (b := 7) hu0 hu1 (by simp [natIn]; omega)
  (repeat (first | (first | refine x_seq ?_ | refine x_set ?_ | refine x_own ?_ | refine x_asg ?_ | refine x_drop ?_ | refine x_ret ?_ | refine x_if ?_ | refine x_nil ?_ | refine x_for ?_ | refine x_augix ?_ | refine x_put ?_ | refine x_dnew ?_ | refine x_putd rfl ?_ | refine x_mt rfl ?_ | refine x_aug rfl ?_ | refine x_frz ?_ | refine x_ext rfl ?_ | refine x_ct ?_ | refine x_bk ?_ | refine x_retN ?_) | simp only [↓w_con, ↓w_var, ↓w_rd, ↓w_e1, ↓w_e2, ↓w_bin, ↓w_cmp, ↓w_ix, ↓w_neg, ↓w_not, ↓w_and, ↓w_or, ↓w_if, ↓w_args0, ↓w_args, ↓w_tup, ↓w_lst, ↓w_L, ↓w_cell, ↓w_call, ↓w_l1, ↓w_l2, ↓w_sortk, ↓w_str, ↓w_part0, ↓w_part, ↓w_cut, ↓w_lcut, ↓w_tval, ↓w_tcmp, ↓w_tnot, ↓w_tand, ↓w_tor, ↓w_tyes, ↓w_seq, ↓w_itB, ↓w_comp, ↓wO_some, ↓wO_none, ↓wO_bind, ↓wO_map, ↓wO_gd, List.map_cons, List.map_nil, List.cons_append, List.nil_append, List.replicate, List.getElem?_cons_zero, List.getElem?_cons_succ, List.set_cons_zero, List.set_cons_succ, der_non, der_bl, der_int, der_str, der_tup, der_lst, der_dct, der_ref, ↓oBin, ↓oAdd, ↓oSub, ↓oMul, ↓oMod, ↓oDiv, ↓oPow, ↓oCmp, ↓oTru, ↓oBl, ↓oNeg, ↓oIx, atI_0, atI_1, ixN_20, ixN_21, ↓oLen, ↓oTuple, ↓oInt, ↓oMax, ↓oMin, ↓oCut, ↓oList, ↓tgN, ↓tgT, ↓setAll, ↓listAt, ↓Pk.putAt, ↓wipeS, ↓getAtI, ↓setAtI, ↓oIp, List.length_cons, List.length_nil, Bool.not_true, Bool.not_false, if_true, if_false, ite_true, ite_false, reduceIte, List.length_replicate, Nat.reduceSub, Nat.reduceAdd, Int.reduceLT, Int.reduceLE, Int.reduceNeg, Bool.false_eq_true, Bool.true_eq_false, true_and, and_true, e6] | (refine And.intro ?pk1 ?_; (case pk1 => (first | assumption | decide | omega | exact ⟨by assumption, by omega⟩ | (constructor <;> first | assumption | decide | omega) | (simp [okMul]; done))))))
  refine namesB_w (by omega) fr2.d fun ws S3 hws fr3 => ?_
  (repeat (first | (first | refine x_seq ?_ | refine x_set ?_ | refine x_own ?_ | refine x_asg ?_ | refine x_drop ?_ | refine x_ret ?_ | refine x_if ?_ | refine x_nil ?_ | refine x_for ?_ | refine x_augix ?_ | refine x_put ?_ | refine x_dnew ?_ | refine x_putd rfl ?_ | refine x_mt rfl ?_ | refine x_aug rfl ?_ | refine x_frz ?_ | refine x_ext rfl ?_ | refine x_ct ?_ | refine x_bk ?_ | refine x_retN ?_) | simp only [↓w_con, ↓w_var, ↓w_rd, ↓w_e1, ↓w_e2, ↓w_bin, ↓w_cmp, ↓w_ix, ↓w_neg, ↓w_not, ↓w_and, ↓w_or, ↓w_if, ↓w_args0, ↓w_args, ↓w_tup, ↓w_lst, ↓w_L, ↓w_cell, ↓w_call, ↓w_l1, ↓w_l2, ↓w_sortk, ↓w_str, ↓w_part0, ↓w_part, ↓w_cut, ↓w_lcut, ↓w_tval, ↓w_tcmp, ↓w_tnot, ↓w_tand, ↓w_tor, ↓w_tyes, ↓w_seq, ↓w_itB, ↓w_comp, ↓wO_some, ↓wO_none, ↓wO_bind, ↓wO_map, ↓wO_gd, List.map_cons, List.map_nil, List.cons_append, List.nil_append, List.replicate, List.getElem?_cons_zero, List.getElem?_cons_succ, List.set_cons_zero, List.set_cons_succ, der_non, der_bl, der_int, der_str, der_tup, der_lst, der_dct, der_ref, ↓oBin, ↓oAdd, ↓oSub, ↓oMul, ↓oMod, ↓oDiv, ↓oPow, ↓oCmp, ↓oTru, ↓oBl, ↓oNeg, ↓oIx, atI_0, atI_1, ixN_20, ixN_21, ↓oLen, ↓oTuple, ↓oInt, ↓oMax, ↓oMin, ↓oCut, ↓oList, ↓tgN, ↓tgT, ↓setAll, ↓listAt, ↓Pk.putAt, ↓wipeS, ↓getAtI, ↓setAtI, ↓oIp, List.length_cons, List.length_nil, Bool.not_true, Bool.not_false, if_true, if_false, ite_true, ite_false, reduceIte, List.length_replicate, Nat.reduceSub, Nat.reduceAdd, Int.reduceLT, Int.reduceLE, Int.reduceNeg, Bool.false_eq_true, Bool.true_eq_false, true_and, and_true, oSort_str] | (refine And.intro ?pk1 ?_; (case pk1 => (first | assumption | decide | omega | exact ⟨by assumption, by omega⟩ | (constructor <;> first | assumption | decide | omega) | (simp [okMul]; done))))))
  exact q _ _ (grd_of hws am bm) (fr2.trans fr3)
/-- the greatest set within some things -/
def Greatest (L : List (List Str)) (c u : List Str) : Prop := u ∈ L ∧ (∀ x ∈ u, x ∈ c) ∧ ∀ l ∈ L, (∀ x ∈ l, x ∈ c) → ∀ x ∈ l, x ∈ u
end Pk
namespace Pk
open PySem PySem.Spec PyProof.Rows L2
end Pk
namespace Pk
open PySem PySem.Spec PyProof.Rows L2
noncomputable def b_top : Sx :=
  (sRet (eIx (eIx (eRd 0) (eCon (.int 1))) (eNeg (eCon (.int 1)))))
noncomputable def g_top : List D → M D := fnOf 1 1 b_top
theorem top_w {g u : List Str} {L : List (List Str)} {S : Store} {Q : D → Store → Prop} (q : Q (dT u) S) : wE (g_top [dY g (L ++ [u])] S) Q := by
  refine w_fn rfl ?_
  unfold b_top
  have e : atI ((L ++ [u]).map dT) (-1) = some (dT u) := by rw [List.map_append]; exact atI_last'
  (repeat (first | (first | refine x_seq ?_ | refine x_set ?_ | refine x_own ?_ | refine x_asg ?_ | refine x_drop ?_ | refine x_ret ?_ | refine x_if ?_ | refine x_nil ?_ | refine x_for ?_ | refine x_augix ?_ | refine x_put ?_ | refine x_dnew ?_ | refine x_putd rfl ?_ | refine x_mt rfl ?_ | refine x_aug rfl ?_ | refine x_frz ?_ | refine x_ext rfl ?_ | refine x_ct ?_ | refine x_bk ?_ | refine x_retN ?_) | simp only [↓w_con, ↓w_var, ↓w_rd, ↓w_e1, ↓w_e2, ↓w_bin, ↓w_cmp, ↓w_ix, ↓w_neg, ↓w_not, ↓w_and, ↓w_or, ↓w_if, ↓w_args0, ↓w_args, ↓w_tup, ↓w_lst, ↓w_L, ↓w_cell, ↓w_call, ↓w_l1, ↓w_l2, ↓w_sortk, ↓w_str, ↓w_part0, ↓w_part, ↓w_cut, ↓w_lcut, ↓w_tval, ↓w_tcmp, ↓w_tnot, ↓w_tand, ↓w_tor, ↓w_tyes, ↓w_seq, ↓w_itB, ↓w_comp, ↓wO_some, ↓wO_none, ↓wO_bind, ↓wO_map, ↓wO_gd, List.map_cons, List.map_nil, List.cons_append, List.nil_append, List.replicate, List.getElem?_cons_zero, List.getElem?_cons_succ, List.set_cons_zero, List.set_cons_succ, der_non, der_bl, der_int, der_str, der_tup, der_lst, der_dct, der_ref, ↓oBin, ↓oAdd, ↓oSub, ↓oMul, ↓oMod, ↓oDiv, ↓oPow, ↓oCmp, ↓oTru, ↓oBl, ↓oNeg, ↓oIx, atI_0, atI_1, ixN_20, ixN_21, ↓oLen, ↓oTuple, ↓oInt, ↓oMax, ↓oMin, ↓oCut, ↓oList, ↓tgN, ↓tgT, ↓setAll, ↓listAt, ↓Pk.putAt, ↓wipeS, ↓getAtI, ↓setAtI, ↓oIp, List.length_cons, List.length_nil, Bool.not_true, Bool.not_false, if_true, if_false, ite_true, ite_false, reduceIte, List.length_replicate, Nat.reduceSub, Nat.reduceAdd, Int.reduceLT, Int.reduceLE, Int.reduceNeg, Bool.false_eq_true, Bool.true_eq_false, true_and, and_true, e] | (refine And.intro ?pk1 ?_; (case pk1 => (first | assumption | decide | omega | exact ⟨by assumption, by omega⟩ | (constructor <;> first | assumption | decide | omega) | (simp [okMul]; done))))))
  exact q
end Pk
namespace Pk
open PySem PySem.Spec PyProof.Rows L2
section
variable {g : List Str} {ok : List Str → Str → Bool} {L : List (List Str)}
end
end Pk
namespace Pk
open PySem PySem.Spec PyProof.Rows L2
end Pk
set_option maxHeartbeats 2000000
namespace Pk
open PySem PySem.Spec PyProof.Rows L2
theorem Fr.app {n : Nat} {S : Store} (h : Drw S n) (T : Store) : Fr n S (S ++ T) := by
  obtain ⟨x, c, e, hx⟩ := h
  have hn : n < S.length := (List.getElem?_eq_some_iff.mp e).1
  refine ⟨by simp, fun j hj _ => List.getElem?_append_left hj, x, c, ?_, hx⟩
  rw [List.getElem?_append_left hn]
  exact e
theorem Fr.set {n c : Nat} {S S' : Store} (h : Fr n S S') (hc : S.length ≤ c) (hd : Drw S n) (x : Cell) : Fr n S (S'.set c x) := by
  obtain ⟨a, b, e, _⟩ := hd
  have hn : n < S.length := (List.getElem?_eq_some_iff.mp e).1
  obtain ⟨x', c', e', hx'⟩ := h.d
  refine ⟨by simp; exact h.1, fun j hj hn => ?_, x', c', ?_, hx'⟩
  · rw [List.getElem?_set_ne (by omega)]
    exact h.2.1 j hj hn
  · rw [List.getElem?_set_ne (by omega)]
    exact e'
end Pk
set_option maxHeartbeats 2000000
namespace Pk
open PySem PySem.Spec PyProof.Rows L2
/-- equal to itself, and small -/
def Slf (k : Nat) (d : D) : Prop := PyData.eqv (py d) (py d) = true ∧ dat d = true ∧ (py d).depth ≤ k
theorem Slf.up {k j : Nat} {d : D} (h : Slf k d) (hj : k ≤ j) : Slf j d := ⟨h.1, h.2.1, Nat.le_trans h.2.2 hj⟩
theorem Slf.tup {k : Nat} {l : List D} (h : ∀ d ∈ l, Slf k d) : Slf (k + 1) (.tup l) := by
  refine ⟨?_, ?_, ?_⟩
  · simp only [py, PyData.eqv, pys_map]
    induction l with
    | nil => rfl
    | cons a l ih =>
      simp only [List.map_cons, PyData.eqvAll, Bool.and_eq_true]
      exact ⟨(h a (by simp)).1, ih fun d hd => h d (by simp [hd])⟩
  · simp only [Pk.dat, dats_all, List.all_eq_true]
    exact fun d hd => (h d hd).2.1
  · simp only [py, PyData.depth, pys_map]
    refine Nat.add_le_add_right (depthAll_le fun d hd => ?_) 1
    obtain ⟨x, hx, rfl⟩ := List.mem_map.mp hd
    exact (h x hx).2.2
end Pk
set_option maxHeartbeats 2000000
namespace Pk
open PySem PySem.Spec PyProof.Rows L2
end Pk
namespace K16
open PySem PySem.Spec PyProof.Rows L2 Pk
/-- law(_law_script): slots 0=_law_script 1=_law_k 2=_law_draw 3=_law_ground_here 4=_law_sets_here 5=_law_yard 6=_law_counts 7=_law_some 8=_law_nexts 9=_law_x 10=_law_whole -/
noncomputable def b_law : Sx :=
  (sSeq (sFor (itB oRng1 [(e2 oMax (eCon (.int 1)) (e2 oMin (eCon (.int 3)) (e1 oLen (eRd 0))))]) (tgN 1)
    (sSeq (sSet 2 (eCall g_law_start [(eVar 0), (eVar 1)]))
    (sSeq (sSet 3 (eCall g_law_groundD [(eVar 2), (eVar 1)]))
    (sSeq (sSet 4 (eCall g_law_setsD [(eVar 3), (eCall g_law_rulesD [(eVar 2), (eVar 3)])]))
    (sSeq (sSet 5 (eTup [(eVar 3), (e1 oTuple (eRd 4))]))
    (sSeq (sOwn 6 (lLst [(eCon (.int 0)), (eCon (.int 0))]))
    (sSeq (sFor (itSeq (eVar 4)) (tgN 7)
      (sSeq (sSet 8 (eCall g_may [(eVar 5), (eVar 7)]))
      (sSeq (sIf (tOr (tNot (tVal (e1 (oIsT "list") (eRd 8)))) (tCmp .NotEq (eL (lComp [9] (itSeq (eRd 8)) (tgN 9) (tCmp .In (eRd 9) (eRd 7)) (eVar 9))) (eL (lLst []))))
        (sRet (eCon (.bl false)))
        sNil)
      (sSeq (sIf (tCmp .NotEq (eRd 8) (eL (lComp [9] (itSeq (eRd 3)) (tgN 9) (tCmp .In (eRd 9) (eRd 8)) (eVar 9))))
        (sRet (eCon (.bl false)))
        sNil)
      (sIf (tCmp .Eq (eBin .Add (e1 oLen (eRd 8)) (e1 oLen (eRd 7))) (e1 oLen (eRd 3)))
        (sAugIx 6 (eBin .Mod (e1 oLen (eRd 8)) (eCon (.int 2))) .Add (eCon (.int 1)))
        sNil)))))
    (sSeq (sSet 10 (e1 oTuple (eL (lComp [9] (itSeq (eRd 3)) (tgN 9) (tCmp .NotEq (eL (lComp [7] (itSeq (eRd 4)) (tgN 7) (tCmp .In (eRd 9) (eRd 7)) (eVar 7))) (eL (lLst []))) (eVar 9)))))
    (sSeq (sIf (tOr (tCmp .NotEq (eIx (eRd 6) (eCon (.int 0))) (eIx (eRd 6) (eCon (.int 1)))) (tCmp .NotEq (eCmp .Gt (eIx (eRd 6) (eCon (.int 0))) (eCon (.int 0))) (eCmp .Eq (eRd 10) (eRd 3))))
      (sRet (eCon (.bl false)))
      sNil)
    (sIf (tCmp .NotEq (eCall g_top [(eVar 5)]) (eRd 10))
      (sRet (eCon (.bl false)))
      sNil))))))))))
  (sRet (eCon (.bl true))))
noncomputable def g_law : List D → M D := fnOf 11 1 b_law
end K16
set_option maxHeartbeats 2000000
namespace K16
open PySem L2 Pk
/-- the sum over all parts of a list -/
def sumS : List Str → (List Str → Int) → Int
  | [], f => f []
  | x :: g, f => sumS g f + sumS g fun A => f (x :: A)
theorem sumS_congr : ∀ {g : List Str} {f h : List Str → Int}, (∀ A, A.Sublist g → f A = h A) → sumS g f = sumS g h
  | [], f, h, e => e [] (List.Sublist.refl _)
  | x :: g, f, h, e => by
    simp only [sumS]
    rw [sumS_congr fun A hA => e A (hA.trans (List.sublist_cons_self x g)), sumS_congr (f := fun A => f (x :: A)) fun A hA => e (x :: A) (hA.cons_cons x)]
theorem sumS_zero : ∀ g : List Str, (sumS g fun _ => 0) = 0
  | [] => rfl
  | x :: g => by simp only [sumS, sumS_zero g]; rfl
theorem sumS_add : ∀ (g : List Str) (f h : List Str → Int), (sumS g fun A => f A + h A) = sumS g f + sumS g h
  | [], f, h => rfl
  | x :: g, f, h => by
    simp only [sumS]
    rw [sumS_add g f h, sumS_add g (fun A => f (x :: A)) fun A => h (x :: A)]
    omega
theorem sumS_neg : ∀ (g : List Str) (f : List Str → Int), (sumS g fun A => -f A) = -sumS g f
  | [], f => rfl
  | x :: g, f => by
    simp only [sumS]
    rw [sumS_neg g f, sumS_neg g fun A => f (x :: A)]
    omega
theorem sumS_sum {α : Type} (g : List Str) (f : α → List Str → Int) : ∀ L : List α, (sumS g fun A => (L.map fun F => f F A).sum) = (L.map fun F => sumS g (f F)).sum
  | [] => by simp only [List.map_nil, List.sum_nil]; exact sumS_zero g
  | F :: L => by
    simp only [List.map_cons, List.sum_cons]
    rw [sumS_add g (f F) fun A => (L.map fun F => f F A).sum, sumS_sum g f L]
def sg (n : Nat) : Int := if n % 2 = 0 then 1 else -1
theorem sg_succ (n : Nat) : sg (n + 1) = -sg n := by
  unfold sg
  split <;> split <;> omega
theorem sg_add (n m : Nat) : sg (n + m) = sg n * sg m := by
  unfold sg
  split <;> split <;> split <;> first | rfl | omega
theorem sum_sg {g : List Str} (h : g ≠ []) : (sumS g fun A => sg A.length) = 0 := by
  cases g with
  | nil => exact (h rfl).elim
  | cons x g =>
    simp only [sumS, List.length_cons, sg_succ]
    rw [sumS_neg g fun A => sg A.length]
    omega
/-- between a set and what must not come -/
def okA (F N : List Str) (g A : List Str) : Bool := g.all fun x => (!decide (x ∈ F) || decide (x ∈ A)) && (!decide (x ∈ N) || !decide (x ∈ A))
theorem sum_ok {F N : List Str} (hd : ∀ x ∈ F, x ∉ N) : ∀ g : List Str, g.Nodup → (sumS g fun A => if okA F N g A = true then sg A.length else 0) = if g.all (fun x => decide (x ∈ F) || decide (x ∈ N)) = true then sg (g.filter fun x => decide (x ∈ F)).length else 0
  | [], _ => rfl
  | x :: g, hn => by
    obtain ⟨hx, hg⟩ := List.nodup_cons.mp hn
    have ih := sum_ok hd g hg
    simp only [sumS]
    have e1 : (sumS g fun A => if okA F N (x :: g) A = true then sg A.length else 0) = sumS g fun A => if x ∈ F then 0 else if okA F N g A = true then sg A.length else 0 := sumS_congr fun A hA => by
      have hxA : x ∉ A := fun z => hx (hA.subset z)
      simp only [okA, List.all_cons, hxA, decide_false, Bool.or_false, Bool.not_false, Bool.or_true, Bool.and_true]
      by_cases hF : x ∈ F
      · simp [hF]
      · simp [hF]
    have e2 : (sumS g fun A => if okA F N (x :: g) (x :: A) = true then sg (x :: A).length else 0) = sumS g fun A => if x ∈ N then 0 else -(if okA F N g A = true then sg A.length else 0) := sumS_congr fun A hA => by
      have hy : (g.all fun y => (!decide (y ∈ F) || decide (y ∈ x :: A)) && (!decide (y ∈ N) || !decide (y ∈ x :: A))) = okA F N g A := by
        unfold okA
        rw [Bool.eq_iff_iff, List.all_eq_true, List.all_eq_true]
        have : ∀ y ∈ g, (decide (y ∈ x :: A)) = decide (y ∈ A) := fun y hy => by
          have : y ≠ x := fun e => hx (e ▸ hy)
          simp [this]
        exact ⟨fun z y hy => by rw [← this y hy]; exact z y hy, fun z y hy => by rw [this y hy]; exact z y hy⟩
      have hxx : decide (x ∈ x :: A) = true := by simp
      rw [show okA F N (x :: g) (x :: A) = (((!decide (x ∈ F) || decide (x ∈ x :: A)) && (!decide (x ∈ N) || !decide (x ∈ x :: A))) && okA F N g A) from by
        rw [← hy]; rfl]
      rw [hxx, List.length_cons, sg_succ]
      by_cases hN : x ∈ N
      · simp [hN]
      · simp only [hN, decide_false, Bool.not_false, Bool.true_or, Bool.or_true, Bool.true_and, if_false]
        split <;> simp
    rw [e1, e2]
    by_cases hF : x ∈ F
    · have hN := hd x hF
      simp only [hF, hN, if_true, if_false, List.all_cons, decide_true, Bool.true_or, Bool.true_and, List.filter_cons, List.length_cons, sg_succ]
      rw [sumS_zero, sumS_neg g fun A => if okA F N g A = true then sg A.length else 0, ih]
      split <;> omega
    · by_cases hN : x ∈ N
      · simp only [hF, hN, if_true, if_false, List.all_cons, decide_true, decide_false, Bool.false_or, Bool.true_and, List.filter_cons, Bool.false_eq_true]
        rw [sumS_zero, ih]
        split <;> omega
      · simp only [hF, hN, if_false, List.all_cons, decide_false, Bool.or_self, Bool.false_and, Bool.false_eq_true]
        rw [sumS_neg g fun A => if okA F N g A = true then sg A.length else 0]
        omega
variable {g : List Str} {ok : List Str → Str → Bool} {L : List (List Str)}
theorem up (hm : MonoK ok) {b : List Str} (hb : Reach g ok b) : ∀ {a : List Str}, Reach g ok a → (¬ ∀ x ∈ b, x ∈ a) → ∃ y ∈ b, y ∉ a ∧ Reach g ok (more a y) := by
  induction hb with
  | nil => intro a _ h; exact (h fun x hx => by cases hx).elim
  | @more l x hl hx hn ho ih =>
    intro a ha h
    by_cases c : ∀ z ∈ l, z ∈ a
    · have hxa : x ∉ a := fun z => h fun y hy => (mem_more.mp hy).elim (c y) fun w => by rw [w]; exact z
      exact ⟨x, mem_more.mpr (.inr rfl), hxa, .more ha hx hxa (hm l a x c ho)⟩
    · obtain ⟨y, h1, h2, h3⟩ := ih ha c
      exact ⟨y, mem_more.mpr (.inl h1), h2, h3⟩
theorem greatest (hm : MonoK ok) (hL : SetsOf g ok L) (A : List Str) : ∃ u, Greatest L A u := by
  have key : ∀ (n : Nat) (u : List Str), u ∈ L → (∀ x ∈ u, x ∈ A) → g.length - u.length ≤ n → ∃ u, Greatest L A u := by
    intro n
    induction n with
    | zero =>
      intro u hu hA hn
      have gu := hL.good u hu
      have := sub_len gu.1 gu.2
      refine ⟨u, hu, hA, fun l hl hlA => ?_⟩
      apply Classical.byContradiction
      intro hc
      obtain ⟨y, _, hy, hr⟩ := up hm ((hL.mem l).mp hl) ((hL.mem u).mp hu) hc
      have := sub_len hr.good.1 hr.good.2
      rw [more_len] at this
      omega
    | succ n ih =>
      intro u hu hA hn
      by_cases c : ∀ l ∈ L, (∀ x ∈ l, x ∈ A) → ∀ x ∈ l, x ∈ u
      · exact ⟨u, hu, hA, c⟩
      · obtain ⟨l, hl⟩ := Classical.not_forall.mp c
        obtain ⟨hl, hl2⟩ := Classical.not_imp.mp hl
        obtain ⟨hlA, hc⟩ := Classical.not_imp.mp hl2
        obtain ⟨y, hy1, hy, hr⟩ := up hm ((hL.mem l).mp hl) ((hL.mem u).mp hu) hc
        refine ih (more u y) ((hL.mem _).mpr hr) (fun x hx => (mem_more.mp hx).elim (hA x) fun w => by rw [w]; exact hlA y hy1) ?_
        rw [more_len]; omega
  exact key g.length [] ((hL.mem []).mpr .nil) (fun x hx => by cases hx) (by simp)
/-- the parts whose greatest set it is -/
noncomputable def fib (g : List Str) (L : List (List Str)) (F A : List Str) : Bool := okA F (nexts g L F) g A
theorem okA_iff {F N A : List Str} (hF : ∀ x ∈ F, x ∈ g) (hN : ∀ x ∈ N, x ∈ g) : okA F N g A = true ↔ (∀ x ∈ F, x ∈ A) ∧ ∀ x ∈ N, x ∉ A := by
  unfold okA
  rw [List.all_eq_true]
  constructor
  · intro h
    refine ⟨fun x hx => ?_, fun x hx => ?_⟩
    · have := h x (hF x hx)
      simp only [Bool.and_eq_true, Bool.or_eq_true, Bool.not_eq_true', decide_eq_false_iff_not, decide_eq_true_eq] at this
      exact this.1.resolve_left fun z => z hx
    · have := h x (hN x hx)
      simp only [Bool.and_eq_true, Bool.or_eq_true, Bool.not_eq_true', decide_eq_false_iff_not, decide_eq_true_eq] at this
      exact this.2.resolve_left fun z => z hx
  · rintro ⟨h1, h2⟩ x hx
    simp only [Bool.and_eq_true, Bool.or_eq_true, Bool.not_eq_true', decide_eq_false_iff_not, decide_eq_true_eq]
    exact ⟨by by_cases c : x ∈ F; exact .inr (h1 x c); exact .inl c, by by_cases c : x ∈ N; exact .inr (h2 x c); exact .inl c⟩
theorem fib_iff (hm : MonoK ok) (hL : SetsOf g ok L) {A u F : List Str} (hu : Greatest L A u) (hF : F ∈ L) : fib g L F A = true ↔ F = u := by
  unfold fib
  rw [okA_iff (hL.good F hF).2 fun x hx => (nexts_mem.mp hx).1]
  constructor
  · rintro ⟨h1, h2⟩
    have h3 := hu.2.2 F hF h1
    apply Classical.byContradiction
    intro hne
    have hc : ¬ ∀ x ∈ u, x ∈ F := fun z => hne (sub_eq (hL.good F hF).1 (hL.good u hu.1).1 h3 (sub_len (hL.good u hu.1).1 z))
    obtain ⟨y, hy1, hy, hr⟩ := up hm ((hL.mem u).mp hu.1) ((hL.mem F).mp hF) hc
    exact h2 y (nexts_mem.mpr ⟨(hL.good u hu.1).2 y hy1, hy, (hL.mem _).mpr hr⟩) (hu.2.1 y hy1)
  · rintro rfl
    refine ⟨hu.2.1, fun x hx hxA => ?_⟩
    obtain ⟨h1, h2, h3⟩ := nexts_mem.mp hx
    exact h2 (hu.2.2 _ h3 (fun y hy => (mem_more.mp hy).elim (hu.2.1 y) fun w => by rw [w]; exact hxA) x (mem_more.mpr (.inr rfl)))
theorem sum_one {c : Int} {p : List Str → Bool} {u : List Str} : ∀ {L : List (List Str)}, L.Nodup → u ∈ L → (∀ F ∈ L, p F = true ↔ F = u) → (L.map fun F => if p F = true then c else 0).sum = c
  | [], _, h, _ => by cases h
  | F :: L, hn, h, hp => by
    obtain ⟨h1, h2⟩ := List.nodup_cons.mp hn
    simp only [List.map_cons, List.sum_cons]
    by_cases e : F = u
    · subst e
      rw [if_pos ((hp F (by simp)).mpr rfl)]
      have : (L.map fun F => if p F = true then c else 0) = L.map fun _ => 0 := List.map_congr_left fun G hG => if_neg fun z => h1 ((hp G (by simp [hG])).mp z ▸ hG)
      rw [this]
      have z : ∀ L : List (List Str), (L.map fun _ => (0 : Int)).sum = 0 := fun L => by
        induction L with
        | nil => rfl
        | cons a L ih => simp only [List.map_cons, List.sum_cons, ih]; rfl
      rw [z]; omega
    · rw [if_neg fun z => e ((hp F (by simp)).mp z), sum_one h2 ((List.mem_cons.mp h).resolve_left fun z => e z.symm) fun G hG => hp G (by simp [hG])]
      omega
/-- all that is left may be taken -/
noncomputable def free (g : List Str) (L : List (List Str)) (F : List Str) : Bool := decide ((nexts g L F).length + F.length = g.length)
theorem free_iff (hg : Rises g) (hL : SetsOf g ok L) {F : List Str} (hF : F ∈ L) : free g L F = true ↔ g.all (fun x => decide (x ∈ F) || decide (x ∈ nexts g L F)) = true := by
  unfold free
  rw [decide_eq_true_eq, List.all_eq_true]
  have gF := hL.good F hF
  have hN : Rises (nexts g L F) := List.Pairwise.filter _ hg
  have hnd : (nexts g L F ++ F).Nodup := List.nodup_append.mpr ⟨hN.nodup, gF.1.nodup, fun x hx y hy e => by subst e; exact (nexts_mem.mp hx).2.1 hy⟩
  have hsub : ∀ x ∈ nexts g L F ++ F, x ∈ g := fun x hx => (List.mem_append.mp hx).elim (fun z => (nexts_mem.mp z).1) (gF.2 x)
  constructor
  · intro h x hx
    apply Classical.byContradiction
    intro hc
    simp only [Bool.or_eq_true, decide_eq_true_eq, not_or] at hc
    have h1 : (x :: (nexts g L F ++ F)).length ≤ g.length := nodup_len (List.nodup_cons.mpr ⟨fun z => (List.mem_append.mp z).elim hc.2 hc.1, hnd⟩) fun y hy => by
      rcases List.mem_cons.mp hy with rfl | hy
      · exact hx
      · exact hsub y hy
    simp at h1
    omega
  · intro h
    have h1 := nodup_len hnd hsub
    have h2 : g.length ≤ (nexts g L F ++ F).length := nodup_len hg.nodup fun x hx => by
      have := h x hx
      simp only [Bool.or_eq_true, decide_eq_true_eq] at this
      exact List.mem_append.mpr this.symm
    rw [List.length_append] at h1 h2
    omega
theorem free_sum (hg : Rises g) (hne : g ≠ []) (hm : MonoK ok) (hL : SetsOf g ok L) : (L.map fun F => if free g L F = true then sg F.length else 0).sum = 0 := by
  have h1 := sum_sg hne
  have h2 : (sumS g fun A => sg A.length) = sumS g fun A => (L.map fun F => if fib g L F A = true then sg A.length else 0).sum := sumS_congr fun A _ => by
    obtain ⟨u, hu⟩ := greatest hm hL A
    exact (sum_one hL.ord.nodup hu.1 fun F hF => fib_iff hm hL hu hF).symm
  rw [h2, sumS_sum g (fun F A => if fib g L F A = true then sg A.length else 0) L] at h1
  refine (congrArg List.sum (List.map_congr_left fun F hF => ?_)).trans h1
  have gF := hL.good F hF
  have e := sum_ok (F := F) (N := nexts g L F) (fun x hx hz => (nexts_mem.mp hz).2.1 hx) g hg.nodup
  unfold fib
  rw [e]
  have ef : g.filter (fun x => decide (x ∈ F)) = F := rises_ext (List.Pairwise.filter _ hg) gF.1 fun x => by
    simp only [List.mem_filter, decide_eq_true_eq]
    exact ⟨fun z => z.2, fun z => ⟨gF.2 x z, z⟩⟩
  rw [ef]
  by_cases c : free g L F = true
  · rw [if_pos c, if_pos ((free_iff hg hL hF).mp c)]
  · rw [if_neg c, if_neg fun z => c ((free_iff hg hL hF).mpr z)]
/-- as many leave an even number as an odd one -/
theorem free_nexts (hg : Rises g) (hne : g ≠ []) (hm : MonoK ok) (hL : SetsOf g ok L) : (L.map fun F => if free g L F = true then sg (nexts g L F).length else 0).sum = 0 := by
  have h := free_sum hg hne hm hL
  have key : ∀ M : List (List Str), (M.map fun F => if free g L F = true then sg (nexts g L F).length else 0).sum = sg g.length * (M.map fun F => if free g L F = true then sg F.length else 0).sum := fun M => by
    induction M with
    | nil => simp
    | cons F M ih =>
      simp only [List.map_cons, List.sum_cons, ih, Int.mul_add]
      congr 1
      by_cases c : free g L F = true
      · rw [if_pos c, if_pos c]
        have c' := c
        unfold free at c'
        rw [decide_eq_true_eq] at c'
        rw [← c', sg_add, Int.mul_assoc]
        have : sg F.length * sg F.length = 1 := by unfold sg; split <;> rfl
        rw [this, Int.mul_one]
      · rw [if_neg c, if_neg c]; simp
  rw [key, h, Int.mul_zero]
end K16
set_option maxHeartbeats 4000000
namespace K16
open PySem L2 Pk
noncomputable abbrev val (g : List Str) (L : List (List Str)) (M : List (List Str)) : Int := (M.map fun F => if free g L F = true then sg (nexts g L F).length else 0).sum
theorem val_snoc (g : List Str) (L M : List (List Str)) (l : List Str) : val g L (M ++ [l]) = val g L M + if free g L l = true then sg (nexts g L l).length else 0 := by
  unfold val
  rw [List.map_append, List.sum_append]
  simp
noncomputable def whole (g : List Str) (L : List (List Str)) : List Str := g.filter fun x => !(L.filter fun l => decide (x ∈ l)).isEmpty
theorem mem_whole {g : List Str} {L : List (List Str)} {x : Str} : x ∈ whole g L ↔ x ∈ g ∧ ∃ l ∈ L, x ∈ l := by
  unfold whole
  rw [List.mem_filter]
  constructor
  · rintro ⟨h1, h2⟩
    refine ⟨h1, ?_⟩
    cases e : L.filter fun l => decide (x ∈ l) with
    | nil => rw [e] at h2; simp at h2
    | cons l M =>
      have : l ∈ L.filter fun l => decide (x ∈ l) := by rw [e]; simp
      rw [List.mem_filter] at this
      exact ⟨l, this.1, by simpa using this.2⟩
  · rintro ⟨h1, l, hl, hx⟩
    refine ⟨h1, ?_⟩
    have : l ∈ L.filter fun l => decide (x ∈ l) := List.mem_filter.mpr ⟨hl, by simpa using hx⟩
    cases e : L.filter fun l => decide (x ∈ l) with
    | nil => rw [e] at this; cases this
    | cons _ _ => rfl
theorem top_whole {g : List Str} {ok : List Str → Str → Bool} {L : List (List Str)} (hg : Rises g) (hm : MonoK ok) (hL : SetsOf g ok L) : ∃ L0, L = L0 ++ [whole g L] := by
  obtain ⟨u, hu⟩ := greatest hm hL g
  have hall : ∀ l ∈ L, ∀ x ∈ l, x ∈ u := fun l hl => hu.2.2 l hl (hL.good l hl).2
  have e : whole g L = u := rises_ext (List.Pairwise.filter _ hg) (hL.good u hu.1).1 fun x => by
    rw [mem_whole]
    exact ⟨fun ⟨_, l, hl, hx⟩ => hall l hl x hx, fun hx => ⟨(hL.good u hu.1).2 x hx, u, hu.1, hx⟩⟩
  rw [e]
  obtain ⟨a, b, e⟩ := List.append_of_mem hu.1
  cases b with
  | nil => exact ⟨a, e⟩
  | cons y b =>
    have ho := hL.ord
    rw [e] at ho
    have h1 : ltO u y := (List.pairwise_cons.mp (List.pairwise_append.mp ho).2.1).1 y (by simp)
    have hy : y ∈ L := by rw [e]; simp
    have := sub_eq (hL.good y hy).1 (hL.good u hu.1).1 (hall y hy) (ltO_len h1)
    subst this
    exact (ltO_irr h1).elim
theorem free_whole {g : List Str} {ok : List Str → Str → Bool} {L : List (List Str)} (hg : Rises g) (hm : MonoK ok) (hL : SetsOf g ok L) : (∃ l ∈ L, free g L l = true) ↔ whole g L = g := by
  constructor
  · rintro ⟨l, hl, hf⟩
    have h := List.all_eq_true.mp ((free_iff hg hL hl).mp hf)
    refine rises_ext (List.Pairwise.filter _ hg) hg fun x => ?_
    rw [mem_whole]
    refine ⟨fun z => z.1, fun hx => ⟨hx, ?_⟩⟩
    have := h x hx
    simp only [Bool.or_eq_true, decide_eq_true_eq] at this
    rcases this with z | z
    · exact ⟨l, hl, z⟩
    · exact ⟨more l x, (nexts_mem.mp z).2.2, mem_more.mpr (.inr rfl)⟩
  · intro h
    obtain ⟨L0, e⟩ := top_whole hg hm hL
    rw [h] at e
    have hgL : g ∈ L := by rw [e]; simp
    refine ⟨g, hgL, ?_⟩
    rw [free_iff hg hL hgL, List.all_eq_true]
    intro x hx
    simp [hx]
theorem law_true (ns : List Int) (h : ns.length ≤ 63) : ∃ S', g_law [.lst (ns.map D.int)] [] = .ok (.bl true) S' := by
  suffices h : wE (g_law [.lst (ns.map D.int)] []) fun d _ => d = .bl true by
    obtain ⟨d, S', e, rfl⟩ := wE_ex h
    exact ⟨S', e⟩
  have hz : sizeLine = 16777216 := by decide
  obtain ⟨v, ev, hv⟩ := cells_nat ns.length 3 (by decide)
  refine w_fn rfl ?_
  unfold b_law
  (repeat (first | (first | refine x_seq ?_ | refine x_set ?_ | refine x_own ?_ | refine x_asg ?_ | refine x_drop ?_ | refine x_ret ?_ | refine x_if ?_ | refine x_nil ?_ | refine x_for ?_ | refine x_augix ?_ | refine x_put ?_ | refine x_dnew ?_ | refine x_putd rfl ?_ | refine x_mt rfl ?_ | refine x_aug rfl ?_ | refine x_frz ?_ | refine x_ext rfl ?_ | refine x_ct ?_ | refine x_bk ?_ | refine x_retN ?_) | simp only [↓w_con, ↓w_var, ↓w_rd, ↓w_e1, ↓w_e2, ↓w_bin, ↓w_cmp, ↓w_ix, ↓w_neg, ↓w_not, ↓w_and, ↓w_or, ↓w_if, ↓w_args0, ↓w_args, ↓w_tup, ↓w_lst, ↓w_L, ↓w_cell, ↓w_call, ↓w_l1, ↓w_l2, ↓w_sortk, ↓w_str, ↓w_part0, ↓w_part, ↓w_cut, ↓w_lcut, ↓w_tval, ↓w_tcmp, ↓w_tnot, ↓w_tand, ↓w_tor, ↓w_tyes, ↓w_seq, ↓w_itB, ↓w_comp, ↓wO_some, ↓wO_none, ↓wO_bind, ↓wO_map, ↓wO_gd, List.map_cons, List.map_nil, List.cons_append, List.nil_append, List.replicate, List.getElem?_cons_zero, List.getElem?_cons_succ, List.set_cons_zero, List.set_cons_succ, der_non, der_bl, der_int, der_str, der_tup, der_lst, der_dct, der_ref, ↓oBin, ↓oAdd, ↓oSub, ↓oMul, ↓oMod, ↓oDiv, ↓oPow, ↓oCmp, ↓oTru, ↓oBl, ↓oNeg, ↓oIx, atI_0, atI_1, ixN_20, ixN_21, ↓oLen, ↓oTuple, ↓oInt, ↓oMax, ↓oMin, ↓oCut, ↓oList, ↓tgN, ↓tgT, ↓setAll, ↓listAt, ↓Pk.putAt, ↓wipeS, ↓getAtI, ↓setAtI, ↓oIp, List.length_cons, List.length_nil, Bool.not_true, Bool.not_false, if_true, if_false, ite_true, ite_false, reduceIte, List.length_replicate, Nat.reduceSub, Nat.reduceAdd, Int.reduceLT, Int.reduceLE, Int.reduceNeg, Bool.false_eq_true, Bool.true_eq_false, true_and, and_true, List.length_map] | (refine And.intro ?pk1 ?_; (case pk1 => (first | assumption | decide | omega | exact ⟨by assumption, by omega⟩ | (constructor <;> first | assumption | decide | omega) | (simp [okMul]; done))))))
  erw [ev]
  (repeat (first | (first | refine x_seq ?_ | refine x_set ?_ | refine x_own ?_ | refine x_asg ?_ | refine x_drop ?_ | refine x_ret ?_ | refine x_if ?_ | refine x_nil ?_ | refine x_for ?_ | refine x_augix ?_ | refine x_put ?_ | refine x_dnew ?_ | refine x_putd rfl ?_ | refine x_mt rfl ?_ | refine x_aug rfl ?_ | refine x_frz ?_ | refine x_ext rfl ?_ | refine x_ct ?_ | refine x_bk ?_ | refine x_retN ?_) | simp only [↓w_con, ↓w_var, ↓w_rd, ↓w_e1, ↓w_e2, ↓w_bin, ↓w_cmp, ↓w_ix, ↓w_neg, ↓w_not, ↓w_and, ↓w_or, ↓w_if, ↓w_args0, ↓w_args, ↓w_tup, ↓w_lst, ↓w_L, ↓w_cell, ↓w_call, ↓w_l1, ↓w_l2, ↓w_sortk, ↓w_str, ↓w_part0, ↓w_part, ↓w_cut, ↓w_lcut, ↓w_tval, ↓w_tcmp, ↓w_tnot, ↓w_tand, ↓w_tor, ↓w_tyes, ↓w_seq, ↓w_itB, ↓w_comp, ↓wO_some, ↓wO_none, ↓wO_bind, ↓wO_map, ↓wO_gd, List.map_cons, List.map_nil, List.cons_append, List.nil_append, List.replicate, List.getElem?_cons_zero, List.getElem?_cons_succ, List.set_cons_zero, List.set_cons_succ, der_non, der_bl, der_int, der_str, der_tup, der_lst, der_dct, der_ref, ↓oBin, ↓oAdd, ↓oSub, ↓oMul, ↓oMod, ↓oDiv, ↓oPow, ↓oCmp, ↓oTru, ↓oBl, ↓oNeg, ↓oIx, atI_0, atI_1, ixN_20, ixN_21, ↓oLen, ↓oTuple, ↓oInt, ↓oMax, ↓oMin, ↓oCut, ↓oList, ↓tgN, ↓tgT, ↓setAll, ↓listAt, ↓Pk.putAt, ↓wipeS, ↓getAtI, ↓setAtI, ↓oIp, List.length_cons, List.length_nil, Bool.not_true, Bool.not_false, if_true, if_false, ite_true, ite_false, reduceIte, List.length_replicate, Nat.reduceSub, Nat.reduceAdd, Int.reduceLT, Int.reduceLE, Int.reduceNeg, Bool.false_eq_true, Bool.true_eq_false, true_and, and_true, oRng1_nat (Nat.le_trans hv (by decide))] | (refine And.intro ?pk1 ?_; (case pk1 => (first | assumption | decide | omega | exact ⟨by assumption, by omega⟩ | (constructor <;> first | assumption | decide | omega) | (simp [okMul]; done))))))
  refine forD_map (fun k : Nat => D.int k) (fun ks r S' => ∃ s1 s2 s3 s4 s5 s6 s7 s8 s10, r = [.val (.lst (ns.map D.int)), s1, s2, s3, s4, s5, s6, s7, s8, .emp, s10]) ?_ ?_ (List.range v) _ _ ⟨.emp, .emp, .emp, .emp, .emp, .emp, .emp, .emp, .emp, rfl⟩
  · rintro r S' ⟨s1, s2, s3, s4, s5, s6, s7, s8, s10, rfl⟩
    (repeat (first | (first | refine x_seq ?_ | refine x_set ?_ | refine x_own ?_ | refine x_asg ?_ | refine x_drop ?_ | refine x_ret ?_ | refine x_if ?_ | refine x_nil ?_ | refine x_for ?_ | refine x_augix ?_ | refine x_put ?_ | refine x_dnew ?_ | refine x_putd rfl ?_ | refine x_mt rfl ?_ | refine x_aug rfl ?_ | refine x_frz ?_ | refine x_ext rfl ?_ | refine x_ct ?_ | refine x_bk ?_ | refine x_retN ?_) | simp only [↓w_con, ↓w_var, ↓w_rd, ↓w_e1, ↓w_e2, ↓w_bin, ↓w_cmp, ↓w_ix, ↓w_neg, ↓w_not, ↓w_and, ↓w_or, ↓w_if, ↓w_args0, ↓w_args, ↓w_tup, ↓w_lst, ↓w_L, ↓w_cell, ↓w_call, ↓w_l1, ↓w_l2, ↓w_sortk, ↓w_str, ↓w_part0, ↓w_part, ↓w_cut, ↓w_lcut, ↓w_tval, ↓w_tcmp, ↓w_tnot, ↓w_tand, ↓w_tor, ↓w_tyes, ↓w_seq, ↓w_itB, ↓w_comp, ↓wO_some, ↓wO_none, ↓wO_bind, ↓wO_map, ↓wO_gd, List.map_cons, List.map_nil, List.cons_append, List.nil_append, List.replicate, List.getElem?_cons_zero, List.getElem?_cons_succ, List.set_cons_zero, List.set_cons_succ, der_non, der_bl, der_int, der_str, der_tup, der_lst, der_dct, der_ref, ↓oBin, ↓oAdd, ↓oSub, ↓oMul, ↓oMod, ↓oDiv, ↓oPow, ↓oCmp, ↓oTru, ↓oBl, ↓oNeg, ↓oIx, atI_0, atI_1, ixN_20, ixN_21, ↓oLen, ↓oTuple, ↓oInt, ↓oMax, ↓oMin, ↓oCut, ↓oList, ↓tgN, ↓tgT, ↓setAll, ↓listAt, ↓Pk.putAt, ↓wipeS, ↓getAtI, ↓setAtI, ↓oIp, List.length_cons, List.length_nil, Bool.not_true, Bool.not_false, if_true, if_false, ite_true, ite_false, reduceIte, List.length_replicate, Nat.reduceSub, Nat.reduceAdd, Int.reduceLT, Int.reduceLE, Int.reduceNeg, Bool.false_eq_true, Bool.true_eq_false, true_and, and_true] | (refine And.intro ?pk1 ?_; (case pk1 => (first | assumption | decide | omega | exact ⟨by assumption, by omega⟩ | (constructor <;> first | assumption | decide | omega) | (simp [okMul]; done))))))
  · rintro k ks r S ⟨s1, s2, s3, s4, s5, s6, s7, s8, s10, rfl⟩
    (repeat (first | (first | refine x_seq ?_ | refine x_set ?_ | refine x_own ?_ | refine x_asg ?_ | refine x_drop ?_ | refine x_ret ?_ | refine x_if ?_ | refine x_nil ?_ | refine x_for ?_ | refine x_augix ?_ | refine x_put ?_ | refine x_dnew ?_ | refine x_putd rfl ?_ | refine x_mt rfl ?_ | refine x_aug rfl ?_ | refine x_frz ?_ | refine x_ext rfl ?_ | refine x_ct ?_ | refine x_bk ?_ | refine x_retN ?_) | simp only [↓w_con, ↓w_var, ↓w_rd, ↓w_e1, ↓w_e2, ↓w_bin, ↓w_cmp, ↓w_ix, ↓w_neg, ↓w_not, ↓w_and, ↓w_or, ↓w_if, ↓w_args0, ↓w_args, ↓w_tup, ↓w_lst, ↓w_L, ↓w_cell, ↓w_call, ↓w_l1, ↓w_l2, ↓w_sortk, ↓w_str, ↓w_part0, ↓w_part, ↓w_cut, ↓w_lcut, ↓w_tval, ↓w_tcmp, ↓w_tnot, ↓w_tand, ↓w_tor, ↓w_tyes, ↓w_seq, ↓w_itB, ↓w_comp, ↓wO_some, ↓wO_none, ↓wO_bind, ↓wO_map, ↓wO_gd, List.map_cons, List.map_nil, List.cons_append, List.nil_append, List.replicate, List.getElem?_cons_zero, List.getElem?_cons_succ, List.set_cons_zero, List.set_cons_succ, der_non, der_bl, der_int, der_str, der_tup, der_lst, der_dct, der_ref, ↓oBin, ↓oAdd, ↓oSub, ↓oMul, ↓oMod, ↓oDiv, ↓oPow, ↓oCmp, ↓oTru, ↓oBl, ↓oNeg, ↓oIx, atI_0, atI_1, ixN_20, ixN_21, ↓oLen, ↓oTuple, ↓oInt, ↓oMax, ↓oMin, ↓oCut, ↓oList, ↓tgN, ↓tgT, ↓setAll, ↓listAt, ↓Pk.putAt, ↓wipeS, ↓getAtI, ↓setAtI, ↓oIp, List.length_cons, List.length_nil, Bool.not_true, Bool.not_false, if_true, if_false, ite_true, ite_false, reduceIte, List.length_replicate, Nat.reduceSub, Nat.reduceAdd, Int.reduceLT, Int.reduceLE, Int.reduceNeg, Bool.false_eq_true, Bool.true_eq_false, true_and, and_true] | (refine And.intro ?pk1 ?_; (case pk1 => (first | assumption | decide | omega | exact ⟨by assumption, by omega⟩ | (constructor <;> first | assumption | decide | omega) | (simp [okMul]; done))))))
    refine start_w fun x0 hx0 => ?_
    have hd := drw_new S x0 hx0 k
    generalize S.length = n at hd ⊢
    generalize S ++ [Cell.lst [.int x0, .int k]] = S1 at hd ⊢
    (repeat (first | (first | refine x_seq ?_ | refine x_set ?_ | refine x_own ?_ | refine x_asg ?_ | refine x_drop ?_ | refine x_ret ?_ | refine x_if ?_ | refine x_nil ?_ | refine x_for ?_ | refine x_augix ?_ | refine x_put ?_ | refine x_dnew ?_ | refine x_putd rfl ?_ | refine x_mt rfl ?_ | refine x_aug rfl ?_ | refine x_frz ?_ | refine x_ext rfl ?_ | refine x_ct ?_ | refine x_bk ?_ | refine x_retN ?_) | simp only [↓w_con, ↓w_var, ↓w_rd, ↓w_e1, ↓w_e2, ↓w_bin, ↓w_cmp, ↓w_ix, ↓w_neg, ↓w_not, ↓w_and, ↓w_or, ↓w_if, ↓w_args0, ↓w_args, ↓w_tup, ↓w_lst, ↓w_L, ↓w_cell, ↓w_call, ↓w_l1, ↓w_l2, ↓w_sortk, ↓w_str, ↓w_part0, ↓w_part, ↓w_cut, ↓w_lcut, ↓w_tval, ↓w_tcmp, ↓w_tnot, ↓w_tand, ↓w_tor, ↓w_tyes, ↓w_seq, ↓w_itB, ↓w_comp, ↓wO_some, ↓wO_none, ↓wO_bind, ↓wO_map, ↓wO_gd, List.map_cons, List.map_nil, List.cons_append, List.nil_append, List.replicate, List.getElem?_cons_zero, List.getElem?_cons_succ, List.set_cons_zero, List.set_cons_succ, der_non, der_bl, der_int, der_str, der_tup, der_lst, der_dct, der_ref, ↓oBin, ↓oAdd, ↓oSub, ↓oMul, ↓oMod, ↓oDiv, ↓oPow, ↓oCmp, ↓oTru, ↓oBl, ↓oNeg, ↓oIx, atI_0, atI_1, ixN_20, ixN_21, ↓oLen, ↓oTuple, ↓oInt, ↓oMax, ↓oMin, ↓oCut, ↓oList, ↓tgN, ↓tgT, ↓setAll, ↓listAt, ↓Pk.putAt, ↓wipeS, ↓getAtI, ↓setAtI, ↓oIp, List.length_cons, List.length_nil, Bool.not_true, Bool.not_false, if_true, if_false, ite_true, ite_false, reduceIte, List.length_replicate, Nat.reduceSub, Nat.reduceAdd, Int.reduceLT, Int.reduceLE, Int.reduceNeg, Bool.false_eq_true, Bool.true_eq_false, true_and, and_true] | (refine And.intro ?pk1 ?_; (case pk1 => (first | assumption | decide | omega | exact ⟨by assumption, by omega⟩ | (constructor <;> first | assumption | decide | omega) | (simp [okMul]; done))))))
    refine groundD_w hd fun g S2 hg fr2 => ?_
    (repeat (first | (first | refine x_seq ?_ | refine x_set ?_ | refine x_own ?_ | refine x_asg ?_ | refine x_drop ?_ | refine x_ret ?_ | refine x_if ?_ | refine x_nil ?_ | refine x_for ?_ | refine x_augix ?_ | refine x_put ?_ | refine x_dnew ?_ | refine x_putd rfl ?_ | refine x_mt rfl ?_ | refine x_aug rfl ?_ | refine x_frz ?_ | refine x_ext rfl ?_ | refine x_ct ?_ | refine x_bk ?_ | refine x_retN ?_) | simp only [↓w_con, ↓w_var, ↓w_rd, ↓w_e1, ↓w_e2, ↓w_bin, ↓w_cmp, ↓w_ix, ↓w_neg, ↓w_not, ↓w_and, ↓w_or, ↓w_if, ↓w_args0, ↓w_args, ↓w_tup, ↓w_lst, ↓w_L, ↓w_cell, ↓w_call, ↓w_l1, ↓w_l2, ↓w_sortk, ↓w_str, ↓w_part0, ↓w_part, ↓w_cut, ↓w_lcut, ↓w_tval, ↓w_tcmp, ↓w_tnot, ↓w_tand, ↓w_tor, ↓w_tyes, ↓w_seq, ↓w_itB, ↓w_comp, ↓wO_some, ↓wO_none, ↓wO_bind, ↓wO_map, ↓wO_gd, List.map_cons, List.map_nil, List.cons_append, List.nil_append, List.replicate, List.getElem?_cons_zero, List.getElem?_cons_succ, List.set_cons_zero, List.set_cons_succ, der_non, der_bl, der_int, der_str, der_tup, der_lst, der_dct, der_ref, ↓oBin, ↓oAdd, ↓oSub, ↓oMul, ↓oMod, ↓oDiv, ↓oPow, ↓oCmp, ↓oTru, ↓oBl, ↓oNeg, ↓oIx, atI_0, atI_1, ixN_20, ixN_21, ↓oLen, ↓oTuple, ↓oInt, ↓oMax, ↓oMin, ↓oCut, ↓oList, ↓tgN, ↓tgT, ↓setAll, ↓listAt, ↓Pk.putAt, ↓wipeS, ↓getAtI, ↓setAtI, ↓oIp, List.length_cons, List.length_nil, Bool.not_true, Bool.not_false, if_true, if_false, ite_true, ite_false, reduceIte, List.length_replicate, Nat.reduceSub, Nat.reduceAdd, Int.reduceLT, Int.reduceLE, Int.reduceNeg, Bool.false_eq_true, Bool.true_eq_false, true_and, and_true] | (refine And.intro ?pk1 ?_; (case pk1 => (first | assumption | decide | omega | exact ⟨by assumption, by omega⟩ | (constructor <;> first | assumption | decide | omega) | (simp [okMul]; done))))))
    refine rulesD_w (g := g) hg.2.2.1 fr2.d fun rs S4 hrs fr4 => ?_
    (repeat (first | (first | refine x_seq ?_ | refine x_set ?_ | refine x_own ?_ | refine x_asg ?_ | refine x_drop ?_ | refine x_ret ?_ | refine x_if ?_ | refine x_nil ?_ | refine x_for ?_ | refine x_augix ?_ | refine x_put ?_ | refine x_dnew ?_ | refine x_putd rfl ?_ | refine x_mt rfl ?_ | refine x_aug rfl ?_ | refine x_frz ?_ | refine x_ext rfl ?_ | refine x_ct ?_ | refine x_bk ?_ | refine x_retN ?_) | simp only [↓w_con, ↓w_var, ↓w_rd, ↓w_e1, ↓w_e2, ↓w_bin, ↓w_cmp, ↓w_ix, ↓w_neg, ↓w_not, ↓w_and, ↓w_or, ↓w_if, ↓w_args0, ↓w_args, ↓w_tup, ↓w_lst, ↓w_L, ↓w_cell, ↓w_call, ↓w_l1, ↓w_l2, ↓w_sortk, ↓w_str, ↓w_part0, ↓w_part, ↓w_cut, ↓w_lcut, ↓w_tval, ↓w_tcmp, ↓w_tnot, ↓w_tand, ↓w_tor, ↓w_tyes, ↓w_seq, ↓w_itB, ↓w_comp, ↓wO_some, ↓wO_none, ↓wO_bind, ↓wO_map, ↓wO_gd, List.map_cons, List.map_nil, List.cons_append, List.nil_append, List.replicate, List.getElem?_cons_zero, List.getElem?_cons_succ, List.set_cons_zero, List.set_cons_succ, der_non, der_bl, der_int, der_str, der_tup, der_lst, der_dct, der_ref, ↓oBin, ↓oAdd, ↓oSub, ↓oMul, ↓oMod, ↓oDiv, ↓oPow, ↓oCmp, ↓oTru, ↓oBl, ↓oNeg, ↓oIx, atI_0, atI_1, ixN_20, ixN_21, ↓oLen, ↓oTuple, ↓oInt, ↓oMax, ↓oMin, ↓oCut, ↓oList, ↓tgN, ↓tgT, ↓setAll, ↓listAt, ↓Pk.putAt, ↓wipeS, ↓getAtI, ↓setAtI, ↓oIp, List.length_cons, List.length_nil, Bool.not_true, Bool.not_false, if_true, if_false, ite_true, ite_false, reduceIte, List.length_replicate, Nat.reduceSub, Nat.reduceAdd, Int.reduceLT, Int.reduceLE, Int.reduceNeg, Bool.false_eq_true, Bool.true_eq_false, true_and, and_true] | (refine And.intro ?pk1 ?_; (case pk1 => (first | assumption | decide | omega | exact ⟨by assumption, by omega⟩ | (constructor <;> first | assumption | decide | omega) | (simp [okMul]; done))))))
    refine setsD_w (g := g) hg.2.2.1 hg.1 rs fun L hL => ?_
    have hLl := hL.le hg.2.2.1 hg.1
    have hOk : SetsOk g L := ⟨by omega, hg.2.2.1, hL.good⟩
    have hm := rulesOk_mono rs
    have hgne : g ≠ [] := fun e => by have := hg.2.1; rw [e] at this; simp at this
    have hsum := free_nexts hg.1 hgne hm hL
    have hfw := free_whole hg.1 hm hL
    have htw := top_whole hg.1 hm hL
    (repeat (first | (first | refine x_seq ?_ | refine x_set ?_ | refine x_own ?_ | refine x_asg ?_ | refine x_drop ?_ | refine x_ret ?_ | refine x_if ?_ | refine x_nil ?_ | refine x_for ?_ | refine x_augix ?_ | refine x_put ?_ | refine x_dnew ?_ | refine x_putd rfl ?_ | refine x_mt rfl ?_ | refine x_aug rfl ?_ | refine x_frz ?_ | refine x_ext rfl ?_ | refine x_ct ?_ | refine x_bk ?_ | refine x_retN ?_) | simp only [↓w_con, ↓w_var, ↓w_rd, ↓w_e1, ↓w_e2, ↓w_bin, ↓w_cmp, ↓w_ix, ↓w_neg, ↓w_not, ↓w_and, ↓w_or, ↓w_if, ↓w_args0, ↓w_args, ↓w_tup, ↓w_lst, ↓w_L, ↓w_cell, ↓w_call, ↓w_l1, ↓w_l2, ↓w_sortk, ↓w_str, ↓w_part0, ↓w_part, ↓w_cut, ↓w_lcut, ↓w_tval, ↓w_tcmp, ↓w_tnot, ↓w_tand, ↓w_tor, ↓w_tyes, ↓w_seq, ↓w_itB, ↓w_comp, ↓wO_some, ↓wO_none, ↓wO_bind, ↓wO_map, ↓wO_gd, List.map_cons, List.map_nil, List.cons_append, List.nil_append, List.replicate, List.getElem?_cons_zero, List.getElem?_cons_succ, List.set_cons_zero, List.set_cons_succ, der_non, der_bl, der_int, der_str, der_tup, der_lst, der_dct, der_ref, ↓oBin, ↓oAdd, ↓oSub, ↓oMul, ↓oMod, ↓oDiv, ↓oPow, ↓oCmp, ↓oTru, ↓oBl, ↓oNeg, ↓oIx, atI_0, atI_1, ixN_20, ixN_21, ↓oLen, ↓oTuple, ↓oInt, ↓oMax, ↓oMin, ↓oCut, ↓oList, ↓tgN, ↓tgT, ↓setAll, ↓listAt, ↓Pk.putAt, ↓wipeS, ↓getAtI, ↓setAtI, ↓oIp, List.length_cons, List.length_nil, Bool.not_true, Bool.not_false, if_true, if_false, ite_true, ite_false, reduceIte, List.length_replicate, Nat.reduceSub, Nat.reduceAdd, Int.reduceLT, Int.reduceLE, Int.reduceNeg, Bool.false_eq_true, Bool.true_eq_false, true_and, and_true] | (refine And.intro ?pk1 ?_; (case pk1 => (first | assumption | decide | omega | exact ⟨by assumption, by omega⟩ | (constructor <;> first | assumption | decide | omega) | (simp [okMul]; done))))))
    refine forD_map dT (fun rest r S' => ∃ (dn : List (List Str)) (c0 c1 : Int) (s7 s8 : Slot), L = dn ++ rest ∧ 0 ≤ c0 ∧ 0 ≤ c1 ∧ c0 - c1 = val g L dn ∧ (0 < c0 + c1 ↔ ∃ l ∈ dn, free g L l = true) ∧ S4 = S' ∧ r = [.val (.lst (ns.map D.int)), .val (.int k), .val (.ref n), .val (dT g), .val (.lst (L.map dT)), .val (dY g L), .own [.int c0, .int c1], s7, s8, .emp, s10]) ?_ ?_ L _ _ ⟨[], 0, 0, s7, s8, rfl, by decide, by decide, rfl, by simp, rfl, rfl⟩
    · rintro r S' ⟨dn, c0, c1, s7, s8, e, h0, h1, hv, hf, rfl, rfl⟩
      rw [List.append_nil] at e
      subst e
      have hc : c0 = c1 := by
        have : val g L L = 0 := hsum
        omega
      subst hc
      (repeat (first | (first | refine x_seq ?_ | refine x_set ?_ | refine x_own ?_ | refine x_asg ?_ | refine x_drop ?_ | refine x_ret ?_ | refine x_if ?_ | refine x_nil ?_ | refine x_for ?_ | refine x_augix ?_ | refine x_put ?_ | refine x_dnew ?_ | refine x_putd rfl ?_ | refine x_mt rfl ?_ | refine x_aug rfl ?_ | refine x_frz ?_ | refine x_ext rfl ?_ | refine x_ct ?_ | refine x_bk ?_ | refine x_retN ?_) | simp only [↓w_con, ↓w_var, ↓w_rd, ↓w_e1, ↓w_e2, ↓w_bin, ↓w_cmp, ↓w_ix, ↓w_neg, ↓w_not, ↓w_and, ↓w_or, ↓w_if, ↓w_args0, ↓w_args, ↓w_tup, ↓w_lst, ↓w_L, ↓w_cell, ↓w_call, ↓w_l1, ↓w_l2, ↓w_sortk, ↓w_str, ↓w_part0, ↓w_part, ↓w_cut, ↓w_lcut, ↓w_tval, ↓w_tcmp, ↓w_tnot, ↓w_tand, ↓w_tor, ↓w_tyes, ↓w_seq, ↓w_itB, ↓w_comp, ↓wO_some, ↓wO_none, ↓wO_bind, ↓wO_map, ↓wO_gd, List.map_cons, List.map_nil, List.cons_append, List.nil_append, List.replicate, List.getElem?_cons_zero, List.getElem?_cons_succ, List.set_cons_zero, List.set_cons_succ, der_non, der_bl, der_int, der_str, der_tup, der_lst, der_dct, der_ref, ↓oBin, ↓oAdd, ↓oSub, ↓oMul, ↓oMod, ↓oDiv, ↓oPow, ↓oCmp, ↓oTru, ↓oBl, ↓oNeg, ↓oIx, atI_0, atI_1, ixN_20, ixN_21, ↓oLen, ↓oTuple, ↓oInt, ↓oMax, ↓oMin, ↓oCut, ↓oList, ↓tgN, ↓tgT, ↓setAll, ↓listAt, ↓Pk.putAt, ↓wipeS, ↓getAtI, ↓setAtI, ↓oIp, List.length_cons, List.length_nil, Bool.not_true, Bool.not_false, if_true, if_false, ite_true, ite_false, reduceIte, List.length_replicate, Nat.reduceSub, Nat.reduceAdd, Int.reduceLT, Int.reduceLE, Int.reduceNeg, Bool.false_eq_true, Bool.true_eq_false, true_and, and_true] | (refine And.intro ?pk1 ?_; (case pk1 => (first | assumption | decide | omega | exact ⟨by assumption, by omega⟩ | (constructor <;> first | assumption | decide | omega) | (simp [okMul]; done))))))
      refine compD_map D.str (fun x => !(L.filter fun l => decide (x ∈ l)).isEmpty) D.str (fun x _ => ?_) ?_
      · (repeat (first | (first | refine x_seq ?_ | refine x_set ?_ | refine x_own ?_ | refine x_asg ?_ | refine x_drop ?_ | refine x_ret ?_ | refine x_if ?_ | refine x_nil ?_ | refine x_for ?_ | refine x_augix ?_ | refine x_put ?_ | refine x_dnew ?_ | refine x_putd rfl ?_ | refine x_mt rfl ?_ | refine x_aug rfl ?_ | refine x_frz ?_ | refine x_ext rfl ?_ | refine x_ct ?_ | refine x_bk ?_ | refine x_retN ?_) | simp only [↓w_con, ↓w_var, ↓w_rd, ↓w_e1, ↓w_e2, ↓w_bin, ↓w_cmp, ↓w_ix, ↓w_neg, ↓w_not, ↓w_and, ↓w_or, ↓w_if, ↓w_args0, ↓w_args, ↓w_tup, ↓w_lst, ↓w_L, ↓w_cell, ↓w_call, ↓w_l1, ↓w_l2, ↓w_sortk, ↓w_str, ↓w_part0, ↓w_part, ↓w_cut, ↓w_lcut, ↓w_tval, ↓w_tcmp, ↓w_tnot, ↓w_tand, ↓w_tor, ↓w_tyes, ↓w_seq, ↓w_itB, ↓w_comp, ↓wO_some, ↓wO_none, ↓wO_bind, ↓wO_map, ↓wO_gd, List.map_cons, List.map_nil, List.cons_append, List.nil_append, List.replicate, List.getElem?_cons_zero, List.getElem?_cons_succ, List.set_cons_zero, List.set_cons_succ, der_non, der_bl, der_int, der_str, der_tup, der_lst, der_dct, der_ref, ↓oBin, ↓oAdd, ↓oSub, ↓oMul, ↓oMod, ↓oDiv, ↓oPow, ↓oCmp, ↓oTru, ↓oBl, ↓oNeg, ↓oIx, atI_0, atI_1, ixN_20, ixN_21, ↓oLen, ↓oTuple, ↓oInt, ↓oMax, ↓oMin, ↓oCut, ↓oList, ↓tgN, ↓tgT, ↓setAll, ↓listAt, ↓Pk.putAt, ↓wipeS, ↓getAtI, ↓setAtI, ↓oIp, List.length_cons, List.length_nil, Bool.not_true, Bool.not_false, if_true, if_false, ite_true, ite_false, reduceIte, List.length_replicate, Nat.reduceSub, Nat.reduceAdd, Int.reduceLT, Int.reduceLE, Int.reduceNeg, Bool.false_eq_true, Bool.true_eq_false, true_and, and_true] | (refine And.intro ?pk1 ?_; (case pk1 => (first | assumption | decide | omega | exact ⟨by assumption, by omega⟩ | (constructor <;> first | assumption | decide | omega) | (simp [okMul]; done))))))
        refine compD_map dT (fun l => decide (x ∈ l)) dT (fun l _ => ?_) ?_
        · (repeat (first | (first | refine x_seq ?_ | refine x_set ?_ | refine x_own ?_ | refine x_asg ?_ | refine x_drop ?_ | refine x_ret ?_ | refine x_if ?_ | refine x_nil ?_ | refine x_for ?_ | refine x_augix ?_ | refine x_put ?_ | refine x_dnew ?_ | refine x_putd rfl ?_ | refine x_mt rfl ?_ | refine x_aug rfl ?_ | refine x_frz ?_ | refine x_ext rfl ?_ | refine x_ct ?_ | refine x_bk ?_ | refine x_retN ?_) | simp only [↓w_con, ↓w_var, ↓w_rd, ↓w_e1, ↓w_e2, ↓w_bin, ↓w_cmp, ↓w_ix, ↓w_neg, ↓w_not, ↓w_and, ↓w_or, ↓w_if, ↓w_args0, ↓w_args, ↓w_tup, ↓w_lst, ↓w_L, ↓w_cell, ↓w_call, ↓w_l1, ↓w_l2, ↓w_sortk, ↓w_str, ↓w_part0, ↓w_part, ↓w_cut, ↓w_lcut, ↓w_tval, ↓w_tcmp, ↓w_tnot, ↓w_tand, ↓w_tor, ↓w_tyes, ↓w_seq, ↓w_itB, ↓w_comp, ↓wO_some, ↓wO_none, ↓wO_bind, ↓wO_map, ↓wO_gd, List.map_cons, List.map_nil, List.cons_append, List.nil_append, List.replicate, List.getElem?_cons_zero, List.getElem?_cons_succ, List.set_cons_zero, List.set_cons_succ, der_non, der_bl, der_int, der_str, der_tup, der_lst, der_dct, der_ref, ↓oBin, ↓oAdd, ↓oSub, ↓oMul, ↓oMod, ↓oDiv, ↓oPow, ↓oCmp, ↓oTru, ↓oBl, ↓oNeg, ↓oIx, atI_0, atI_1, ixN_20, ixN_21, ↓oLen, ↓oTuple, ↓oInt, ↓oMax, ↓oMin, ↓oCut, ↓oList, ↓tgN, ↓tgT, ↓setAll, ↓listAt, ↓Pk.putAt, ↓wipeS, ↓getAtI, ↓setAtI, ↓oIp, List.length_cons, List.length_nil, Bool.not_true, Bool.not_false, if_true, if_false, ite_true, ite_false, reduceIte, List.length_replicate, Nat.reduceSub, Nat.reduceAdd, Int.reduceLT, Int.reduceLE, Int.reduceNeg, Bool.false_eq_true, Bool.true_eq_false, true_and, and_true, oIn_tup (e := D.str) em_str (by decide), Option.map_some] | (refine And.intro ?pk1 ?_; (case pk1 => (first | assumption | decide | omega | exact ⟨by assumption, by omega⟩ | (constructor <;> first | assumption | decide | omega) | (simp [okMul]; done))))))
          exact fun _ => trivial
        (repeat (first | (first | refine x_seq ?_ | refine x_set ?_ | refine x_own ?_ | refine x_asg ?_ | refine x_drop ?_ | refine x_ret ?_ | refine x_if ?_ | refine x_nil ?_ | refine x_for ?_ | refine x_augix ?_ | refine x_put ?_ | refine x_dnew ?_ | refine x_putd rfl ?_ | refine x_mt rfl ?_ | refine x_aug rfl ?_ | refine x_frz ?_ | refine x_ext rfl ?_ | refine x_ct ?_ | refine x_bk ?_ | refine x_retN ?_) | simp only [↓w_con, ↓w_var, ↓w_rd, ↓w_e1, ↓w_e2, ↓w_bin, ↓w_cmp, ↓w_ix, ↓w_neg, ↓w_not, ↓w_and, ↓w_or, ↓w_if, ↓w_args0, ↓w_args, ↓w_tup, ↓w_lst, ↓w_L, ↓w_cell, ↓w_call, ↓w_l1, ↓w_l2, ↓w_sortk, ↓w_str, ↓w_part0, ↓w_part, ↓w_cut, ↓w_lcut, ↓w_tval, ↓w_tcmp, ↓w_tnot, ↓w_tand, ↓w_tor, ↓w_tyes, ↓w_seq, ↓w_itB, ↓w_comp, ↓wO_some, ↓wO_none, ↓wO_bind, ↓wO_map, ↓wO_gd, List.map_cons, List.map_nil, List.cons_append, List.nil_append, List.replicate, List.getElem?_cons_zero, List.getElem?_cons_succ, List.set_cons_zero, List.set_cons_succ, der_non, der_bl, der_int, der_str, der_tup, der_lst, der_dct, der_ref, ↓oBin, ↓oAdd, ↓oSub, ↓oMul, ↓oMod, ↓oDiv, ↓oPow, ↓oCmp, ↓oTru, ↓oBl, ↓oNeg, ↓oIx, atI_0, atI_1, ixN_20, ixN_21, ↓oLen, ↓oTuple, ↓oInt, ↓oMax, ↓oMin, ↓oCut, ↓oList, ↓tgN, ↓tgT, ↓setAll, ↓listAt, ↓Pk.putAt, ↓wipeS, ↓getAtI, ↓setAtI, ↓oIp, List.length_cons, List.length_nil, Bool.not_true, Bool.not_false, if_true, if_false, ite_true, ite_false, reduceIte, List.length_replicate, Nat.reduceSub, Nat.reduceAdd, Int.reduceLT, Int.reduceLE, Int.reduceNeg, Bool.false_eq_true, Bool.true_eq_false, true_and, and_true, oEq_nil (e := dT) em_T (by decide), Option.map_some] | (refine And.intro ?pk1 ?_; (case pk1 => (first | assumption | decide | omega | exact ⟨by assumption, by omega⟩ | (constructor <;> first | assumption | decide | omega) | (simp [okMul]; done))))))
        exact fun _ => trivial
      have ew : (g.filter fun x => !(L.filter fun l => decide (x ∈ l)).isEmpty) = whole g L := rfl
      rw [ew]
      have hg0 : decide ((0 : Int) < c0) = decide (whole g L = g) := by
        by_cases c : whole g L = g
        · have := hf.mpr (hfw.mpr c)
          rw [decide_eq_true c, decide_eq_true (by omega)]
        · have : ¬ (0 < c0 + c0) := fun z => c (hfw.mp (hf.mp z))
          rw [decide_eq_false c, decide_eq_false (by omega)]
      (repeat (first | (first | refine x_seq ?_ | refine x_set ?_ | refine x_own ?_ | refine x_asg ?_ | refine x_drop ?_ | refine x_ret ?_ | refine x_if ?_ | refine x_nil ?_ | refine x_for ?_ | refine x_augix ?_ | refine x_put ?_ | refine x_dnew ?_ | refine x_putd rfl ?_ | refine x_mt rfl ?_ | refine x_aug rfl ?_ | refine x_frz ?_ | refine x_ext rfl ?_ | refine x_ct ?_ | refine x_bk ?_ | refine x_retN ?_) | simp only [↓w_con, ↓w_var, ↓w_rd, ↓w_e1, ↓w_e2, ↓w_bin, ↓w_cmp, ↓w_ix, ↓w_neg, ↓w_not, ↓w_and, ↓w_or, ↓w_if, ↓w_args0, ↓w_args, ↓w_tup, ↓w_lst, ↓w_L, ↓w_cell, ↓w_call, ↓w_l1, ↓w_l2, ↓w_sortk, ↓w_str, ↓w_part0, ↓w_part, ↓w_cut, ↓w_lcut, ↓w_tval, ↓w_tcmp, ↓w_tnot, ↓w_tand, ↓w_tor, ↓w_tyes, ↓w_seq, ↓w_itB, ↓w_comp, ↓wO_some, ↓wO_none, ↓wO_bind, ↓wO_map, ↓wO_gd, List.map_cons, List.map_nil, List.cons_append, List.nil_append, List.replicate, List.getElem?_cons_zero, List.getElem?_cons_succ, List.set_cons_zero, List.set_cons_succ, der_non, der_bl, der_int, der_str, der_tup, der_lst, der_dct, der_ref, ↓oBin, ↓oAdd, ↓oSub, ↓oMul, ↓oMod, ↓oDiv, ↓oPow, ↓oCmp, ↓oTru, ↓oBl, ↓oNeg, ↓oIx, atI_0, atI_1, ixN_20, ixN_21, ↓oLen, ↓oTuple, ↓oInt, ↓oMax, ↓oMin, ↓oCut, ↓oList, ↓tgN, ↓tgT, ↓setAll, ↓listAt, ↓Pk.putAt, ↓wipeS, ↓getAtI, ↓setAtI, ↓oIp, List.length_cons, List.length_nil, Bool.not_true, Bool.not_false, if_true, if_false, ite_true, ite_false, reduceIte, List.length_replicate, Nat.reduceSub, Nat.reduceAdd, Int.reduceLT, Int.reduceLE, Int.reduceNeg, Bool.false_eq_true, Bool.true_eq_false, true_and, and_true, oEq_em em_int (by decide), decide_true, Option.map_some, oLt, hg0, oEq_tup em_str (by decide), oEq_em em_bl (by decide)] | (refine And.intro ?pk1 ?_; (case pk1 => (first | assumption | decide | omega | exact ⟨by assumption, by omega⟩ | (constructor <;> first | assumption | decide | omega) | (simp [okMul]; done))))))
      obtain ⟨L0, eL⟩ := htw
      have htp : ∀ {S : Store} {Q : D → Store → Prop}, Q (dT (whole g L)) S → wE (g_top [dY g L] S) Q := by
        intro S Q q
        rw [eL]
        exact top_w q
      refine htp ?_
      (repeat (first | (first | refine x_seq ?_ | refine x_set ?_ | refine x_own ?_ | refine x_asg ?_ | refine x_drop ?_ | refine x_ret ?_ | refine x_if ?_ | refine x_nil ?_ | refine x_for ?_ | refine x_augix ?_ | refine x_put ?_ | refine x_dnew ?_ | refine x_putd rfl ?_ | refine x_mt rfl ?_ | refine x_aug rfl ?_ | refine x_frz ?_ | refine x_ext rfl ?_ | refine x_ct ?_ | refine x_bk ?_ | refine x_retN ?_) | simp only [↓w_con, ↓w_var, ↓w_rd, ↓w_e1, ↓w_e2, ↓w_bin, ↓w_cmp, ↓w_ix, ↓w_neg, ↓w_not, ↓w_and, ↓w_or, ↓w_if, ↓w_args0, ↓w_args, ↓w_tup, ↓w_lst, ↓w_L, ↓w_cell, ↓w_call, ↓w_l1, ↓w_l2, ↓w_sortk, ↓w_str, ↓w_part0, ↓w_part, ↓w_cut, ↓w_lcut, ↓w_tval, ↓w_tcmp, ↓w_tnot, ↓w_tand, ↓w_tor, ↓w_tyes, ↓w_seq, ↓w_itB, ↓w_comp, ↓wO_some, ↓wO_none, ↓wO_bind, ↓wO_map, ↓wO_gd, List.map_cons, List.map_nil, List.cons_append, List.nil_append, List.replicate, List.getElem?_cons_zero, List.getElem?_cons_succ, List.set_cons_zero, List.set_cons_succ, der_non, der_bl, der_int, der_str, der_tup, der_lst, der_dct, der_ref, ↓oBin, ↓oAdd, ↓oSub, ↓oMul, ↓oMod, ↓oDiv, ↓oPow, ↓oCmp, ↓oTru, ↓oBl, ↓oNeg, ↓oIx, atI_0, atI_1, ixN_20, ixN_21, ↓oLen, ↓oTuple, ↓oInt, ↓oMax, ↓oMin, ↓oCut, ↓oList, ↓tgN, ↓tgT, ↓setAll, ↓listAt, ↓Pk.putAt, ↓wipeS, ↓getAtI, ↓setAtI, ↓oIp, List.length_cons, List.length_nil, Bool.not_true, Bool.not_false, if_true, if_false, ite_true, ite_false, reduceIte, List.length_replicate, Nat.reduceSub, Nat.reduceAdd, Int.reduceLT, Int.reduceLE, Int.reduceNeg, Bool.false_eq_true, Bool.true_eq_false, true_and, and_true, oEq_tup em_str (by decide), decide_true, Option.map_some] | (refine And.intro ?pk1 ?_; (case pk1 => (first | assumption | decide | omega | exact ⟨by assumption, by omega⟩ | (constructor <;> first | assumption | decide | omega) | (simp [okMul]; done))))))
      exact ⟨_, _, _, _, _, _, _, _, _, rfl⟩
    · rintro l rest r S' ⟨dn, c0, c1, s7, s8, e, h0, h1, hv, hf, rfl, rfl⟩
      have hlL : l ∈ L := by rw [e]; simp
      (repeat (first | (first | refine x_seq ?_ | refine x_set ?_ | refine x_own ?_ | refine x_asg ?_ | refine x_drop ?_ | refine x_ret ?_ | refine x_if ?_ | refine x_nil ?_ | refine x_for ?_ | refine x_augix ?_ | refine x_put ?_ | refine x_dnew ?_ | refine x_putd rfl ?_ | refine x_mt rfl ?_ | refine x_aug rfl ?_ | refine x_frz ?_ | refine x_ext rfl ?_ | refine x_ct ?_ | refine x_bk ?_ | refine x_retN ?_) | simp only [↓w_con, ↓w_var, ↓w_rd, ↓w_e1, ↓w_e2, ↓w_bin, ↓w_cmp, ↓w_ix, ↓w_neg, ↓w_not, ↓w_and, ↓w_or, ↓w_if, ↓w_args0, ↓w_args, ↓w_tup, ↓w_lst, ↓w_L, ↓w_cell, ↓w_call, ↓w_l1, ↓w_l2, ↓w_sortk, ↓w_str, ↓w_part0, ↓w_part, ↓w_cut, ↓w_lcut, ↓w_tval, ↓w_tcmp, ↓w_tnot, ↓w_tand, ↓w_tor, ↓w_tyes, ↓w_seq, ↓w_itB, ↓w_comp, ↓wO_some, ↓wO_none, ↓wO_bind, ↓wO_map, ↓wO_gd, List.map_cons, List.map_nil, List.cons_append, List.nil_append, List.replicate, List.getElem?_cons_zero, List.getElem?_cons_succ, List.set_cons_zero, List.set_cons_succ, der_non, der_bl, der_int, der_str, der_tup, der_lst, der_dct, der_ref, ↓oBin, ↓oAdd, ↓oSub, ↓oMul, ↓oMod, ↓oDiv, ↓oPow, ↓oCmp, ↓oTru, ↓oBl, ↓oNeg, ↓oIx, atI_0, atI_1, ixN_20, ixN_21, ↓oLen, ↓oTuple, ↓oInt, ↓oMax, ↓oMin, ↓oCut, ↓oList, ↓tgN, ↓tgT, ↓setAll, ↓listAt, ↓Pk.putAt, ↓wipeS, ↓getAtI, ↓setAtI, ↓oIp, List.length_cons, List.length_nil, Bool.not_true, Bool.not_false, if_true, if_false, ite_true, ite_false, reduceIte, List.length_replicate, Nat.reduceSub, Nat.reduceAdd, Int.reduceLT, Int.reduceLE, Int.reduceNeg, Bool.false_eq_true, Bool.true_eq_false, true_and, and_true] | (refine And.intro ?pk1 ?_; (case pk1 => (first | assumption | decide | omega | exact ⟨by assumption, by omega⟩ | (constructor <;> first | assumption | decide | omega) | (simp [okMul]; done))))))
      refine may_w hOk hlL ?_
      (repeat (first | (first | refine x_seq ?_ | refine x_set ?_ | refine x_own ?_ | refine x_asg ?_ | refine x_drop ?_ | refine x_ret ?_ | refine x_if ?_ | refine x_nil ?_ | refine x_for ?_ | refine x_augix ?_ | refine x_put ?_ | refine x_dnew ?_ | refine x_putd rfl ?_ | refine x_mt rfl ?_ | refine x_aug rfl ?_ | refine x_frz ?_ | refine x_ext rfl ?_ | refine x_ct ?_ | refine x_bk ?_ | refine x_retN ?_) | simp only [↓w_con, ↓w_var, ↓w_rd, ↓w_e1, ↓w_e2, ↓w_bin, ↓w_cmp, ↓w_ix, ↓w_neg, ↓w_not, ↓w_and, ↓w_or, ↓w_if, ↓w_args0, ↓w_args, ↓w_tup, ↓w_lst, ↓w_L, ↓w_cell, ↓w_call, ↓w_l1, ↓w_l2, ↓w_sortk, ↓w_str, ↓w_part0, ↓w_part, ↓w_cut, ↓w_lcut, ↓w_tval, ↓w_tcmp, ↓w_tnot, ↓w_tand, ↓w_tor, ↓w_tyes, ↓w_seq, ↓w_itB, ↓w_comp, ↓wO_some, ↓wO_none, ↓wO_bind, ↓wO_map, ↓wO_gd, List.map_cons, List.map_nil, List.cons_append, List.nil_append, List.replicate, List.getElem?_cons_zero, List.getElem?_cons_succ, List.set_cons_zero, List.set_cons_succ, der_non, der_bl, der_int, der_str, der_tup, der_lst, der_dct, der_ref, ↓oBin, ↓oAdd, ↓oSub, ↓oMul, ↓oMod, ↓oDiv, ↓oPow, ↓oCmp, ↓oTru, ↓oBl, ↓oNeg, ↓oIx, atI_0, atI_1, ixN_20, ixN_21, ↓oLen, ↓oTuple, ↓oInt, ↓oMax, ↓oMin, ↓oCut, ↓oList, ↓tgN, ↓tgT, ↓setAll, ↓listAt, ↓Pk.putAt, ↓wipeS, ↓getAtI, ↓setAtI, ↓oIp, List.length_cons, List.length_nil, Bool.not_true, Bool.not_false, if_true, if_false, ite_true, ite_false, reduceIte, List.length_replicate, Nat.reduceSub, Nat.reduceAdd, Int.reduceLT, Int.reduceLE, Int.reduceNeg, Bool.false_eq_true, Bool.true_eq_false, true_and, and_true, isT_lst] | (refine And.intro ?pk1 ?_; (case pk1 => (first | assumption | decide | omega | exact ⟨by assumption, by omega⟩ | (constructor <;> first | assumption | decide | omega) | (simp [okMul]; done))))))
      refine compD_map D.str (fun x => decide (x ∈ l)) D.str (fun x _ => ?_) ?_
      · (repeat (first | (first | refine x_seq ?_ | refine x_set ?_ | refine x_own ?_ | refine x_asg ?_ | refine x_drop ?_ | refine x_ret ?_ | refine x_if ?_ | refine x_nil ?_ | refine x_for ?_ | refine x_augix ?_ | refine x_put ?_ | refine x_dnew ?_ | refine x_putd rfl ?_ | refine x_mt rfl ?_ | refine x_aug rfl ?_ | refine x_frz ?_ | refine x_ext rfl ?_ | refine x_ct ?_ | refine x_bk ?_ | refine x_retN ?_) | simp only [↓w_con, ↓w_var, ↓w_rd, ↓w_e1, ↓w_e2, ↓w_bin, ↓w_cmp, ↓w_ix, ↓w_neg, ↓w_not, ↓w_and, ↓w_or, ↓w_if, ↓w_args0, ↓w_args, ↓w_tup, ↓w_lst, ↓w_L, ↓w_cell, ↓w_call, ↓w_l1, ↓w_l2, ↓w_sortk, ↓w_str, ↓w_part0, ↓w_part, ↓w_cut, ↓w_lcut, ↓w_tval, ↓w_tcmp, ↓w_tnot, ↓w_tand, ↓w_tor, ↓w_tyes, ↓w_seq, ↓w_itB, ↓w_comp, ↓wO_some, ↓wO_none, ↓wO_bind, ↓wO_map, ↓wO_gd, List.map_cons, List.map_nil, List.cons_append, List.nil_append, List.replicate, List.getElem?_cons_zero, List.getElem?_cons_succ, List.set_cons_zero, List.set_cons_succ, der_non, der_bl, der_int, der_str, der_tup, der_lst, der_dct, der_ref, ↓oBin, ↓oAdd, ↓oSub, ↓oMul, ↓oMod, ↓oDiv, ↓oPow, ↓oCmp, ↓oTru, ↓oBl, ↓oNeg, ↓oIx, atI_0, atI_1, ixN_20, ixN_21, ↓oLen, ↓oTuple, ↓oInt, ↓oMax, ↓oMin, ↓oCut, ↓oList, ↓tgN, ↓tgT, ↓setAll, ↓listAt, ↓Pk.putAt, ↓wipeS, ↓getAtI, ↓setAtI, ↓oIp, List.length_cons, List.length_nil, Bool.not_true, Bool.not_false, if_true, if_false, ite_true, ite_false, reduceIte, List.length_replicate, Nat.reduceSub, Nat.reduceAdd, Int.reduceLT, Int.reduceLE, Int.reduceNeg, Bool.false_eq_true, Bool.true_eq_false, true_and, and_true, oIn_tup (e := D.str) em_str (by decide), Option.map_some] | (refine And.intro ?pk1 ?_; (case pk1 => (first | assumption | decide | omega | exact ⟨by assumption, by omega⟩ | (constructor <;> first | assumption | decide | omega) | (simp [okMul]; done))))))
        exact fun _ => trivial
      have ee : (nexts g L l).filter (fun x => decide (x ∈ l)) = [] := by
        rw [List.filter_eq_nil_iff]
        intro x hx
        simp only [decide_eq_true_eq]
        exact (nexts_mem.mp hx).2.1
      rw [ee]
      have eN : oEq (.lst []) (.lst []) = some true := by
        have := oEq_lst (e := D.str) em_str (by decide) [] []
        simpa using this
      (repeat (first | (first | refine x_seq ?_ | refine x_set ?_ | refine x_own ?_ | refine x_asg ?_ | refine x_drop ?_ | refine x_ret ?_ | refine x_if ?_ | refine x_nil ?_ | refine x_for ?_ | refine x_augix ?_ | refine x_put ?_ | refine x_dnew ?_ | refine x_putd rfl ?_ | refine x_mt rfl ?_ | refine x_aug rfl ?_ | refine x_frz ?_ | refine x_ext rfl ?_ | refine x_ct ?_ | refine x_bk ?_ | refine x_retN ?_) | simp only [↓w_con, ↓w_var, ↓w_rd, ↓w_e1, ↓w_e2, ↓w_bin, ↓w_cmp, ↓w_ix, ↓w_neg, ↓w_not, ↓w_and, ↓w_or, ↓w_if, ↓w_args0, ↓w_args, ↓w_tup, ↓w_lst, ↓w_L, ↓w_cell, ↓w_call, ↓w_l1, ↓w_l2, ↓w_sortk, ↓w_str, ↓w_part0, ↓w_part, ↓w_cut, ↓w_lcut, ↓w_tval, ↓w_tcmp, ↓w_tnot, ↓w_tand, ↓w_tor, ↓w_tyes, ↓w_seq, ↓w_itB, ↓w_comp, ↓wO_some, ↓wO_none, ↓wO_bind, ↓wO_map, ↓wO_gd, List.map_cons, List.map_nil, List.cons_append, List.nil_append, List.replicate, List.getElem?_cons_zero, List.getElem?_cons_succ, List.set_cons_zero, List.set_cons_succ, der_non, der_bl, der_int, der_str, der_tup, der_lst, der_dct, der_ref, ↓oBin, ↓oAdd, ↓oSub, ↓oMul, ↓oMod, ↓oDiv, ↓oPow, ↓oCmp, ↓oTru, ↓oBl, ↓oNeg, ↓oIx, atI_0, atI_1, ixN_20, ixN_21, ↓oLen, ↓oTuple, ↓oInt, ↓oMax, ↓oMin, ↓oCut, ↓oList, ↓tgN, ↓tgT, ↓setAll, ↓listAt, ↓Pk.putAt, ↓wipeS, ↓getAtI, ↓setAtI, ↓oIp, List.length_cons, List.length_nil, Bool.not_true, Bool.not_false, if_true, if_false, ite_true, ite_false, reduceIte, List.length_replicate, Nat.reduceSub, Nat.reduceAdd, Int.reduceLT, Int.reduceLE, Int.reduceNeg, Bool.false_eq_true, Bool.true_eq_false, true_and, and_true, eN, Option.map_some] | (refine And.intro ?pk1 ?_; (case pk1 => (first | assumption | decide | omega | exact ⟨by assumption, by omega⟩ | (constructor <;> first | assumption | decide | omega) | (simp [okMul]; done))))))
      refine compD_map D.str (fun x => decide (x ∈ nexts g L l)) D.str (fun x _ => ?_) ?_
      · (repeat (first | (first | refine x_seq ?_ | refine x_set ?_ | refine x_own ?_ | refine x_asg ?_ | refine x_drop ?_ | refine x_ret ?_ | refine x_if ?_ | refine x_nil ?_ | refine x_for ?_ | refine x_augix ?_ | refine x_put ?_ | refine x_dnew ?_ | refine x_putd rfl ?_ | refine x_mt rfl ?_ | refine x_aug rfl ?_ | refine x_frz ?_ | refine x_ext rfl ?_ | refine x_ct ?_ | refine x_bk ?_ | refine x_retN ?_) | simp only [↓w_con, ↓w_var, ↓w_rd, ↓w_e1, ↓w_e2, ↓w_bin, ↓w_cmp, ↓w_ix, ↓w_neg, ↓w_not, ↓w_and, ↓w_or, ↓w_if, ↓w_args0, ↓w_args, ↓w_tup, ↓w_lst, ↓w_L, ↓w_cell, ↓w_call, ↓w_l1, ↓w_l2, ↓w_sortk, ↓w_str, ↓w_part0, ↓w_part, ↓w_cut, ↓w_lcut, ↓w_tval, ↓w_tcmp, ↓w_tnot, ↓w_tand, ↓w_tor, ↓w_tyes, ↓w_seq, ↓w_itB, ↓w_comp, ↓wO_some, ↓wO_none, ↓wO_bind, ↓wO_map, ↓wO_gd, List.map_cons, List.map_nil, List.cons_append, List.nil_append, List.replicate, List.getElem?_cons_zero, List.getElem?_cons_succ, List.set_cons_zero, List.set_cons_succ, der_non, der_bl, der_int, der_str, der_tup, der_lst, der_dct, der_ref, ↓oBin, ↓oAdd, ↓oSub, ↓oMul, ↓oMod, ↓oDiv, ↓oPow, ↓oCmp, ↓oTru, ↓oBl, ↓oNeg, ↓oIx, atI_0, atI_1, ixN_20, ixN_21, ↓oLen, ↓oTuple, ↓oInt, ↓oMax, ↓oMin, ↓oCut, ↓oList, ↓tgN, ↓tgT, ↓setAll, ↓listAt, ↓Pk.putAt, ↓wipeS, ↓getAtI, ↓setAtI, ↓oIp, List.length_cons, List.length_nil, Bool.not_true, Bool.not_false, if_true, if_false, ite_true, ite_false, reduceIte, List.length_replicate, Nat.reduceSub, Nat.reduceAdd, Int.reduceLT, Int.reduceLE, Int.reduceNeg, Bool.false_eq_true, Bool.true_eq_false, true_and, and_true, oIn_lst (e := D.str) em_str (by decide), Option.map_some] | (refine And.intro ?pk1 ?_; (case pk1 => (first | assumption | decide | omega | exact ⟨by assumption, by omega⟩ | (constructor <;> first | assumption | decide | omega) | (simp [okMul]; done))))))
        exact fun _ => trivial
      have ee2 : g.filter (fun x => decide (x ∈ nexts g L l)) = nexts g L l := rises_ext (List.Pairwise.filter _ hg.1) (List.Pairwise.filter _ hg.1) fun x => by
        simp only [List.mem_filter, decide_eq_true_eq]
        exact ⟨fun z => z.2, fun z => ⟨(nexts_mem.mp z).1, z⟩⟩
      rw [ee2]
      have eqL : oEq (D.lst ((nexts g L l).map D.str)) (D.lst ((nexts g L l).map D.str)) = some true := by rw [oEq_lst em_str (by decide)]; simp
      (repeat (first | (first | refine x_seq ?_ | refine x_set ?_ | refine x_own ?_ | refine x_asg ?_ | refine x_drop ?_ | refine x_ret ?_ | refine x_if ?_ | refine x_nil ?_ | refine x_for ?_ | refine x_augix ?_ | refine x_put ?_ | refine x_dnew ?_ | refine x_putd rfl ?_ | refine x_mt rfl ?_ | refine x_aug rfl ?_ | refine x_frz ?_ | refine x_ext rfl ?_ | refine x_ct ?_ | refine x_bk ?_ | refine x_retN ?_) | simp only [↓w_con, ↓w_var, ↓w_rd, ↓w_e1, ↓w_e2, ↓w_bin, ↓w_cmp, ↓w_ix, ↓w_neg, ↓w_not, ↓w_and, ↓w_or, ↓w_if, ↓w_args0, ↓w_args, ↓w_tup, ↓w_lst, ↓w_L, ↓w_cell, ↓w_call, ↓w_l1, ↓w_l2, ↓w_sortk, ↓w_str, ↓w_part0, ↓w_part, ↓w_cut, ↓w_lcut, ↓w_tval, ↓w_tcmp, ↓w_tnot, ↓w_tand, ↓w_tor, ↓w_tyes, ↓w_seq, ↓w_itB, ↓w_comp, ↓wO_some, ↓wO_none, ↓wO_bind, ↓wO_map, ↓wO_gd, List.map_cons, List.map_nil, List.cons_append, List.nil_append, List.replicate, List.getElem?_cons_zero, List.getElem?_cons_succ, List.set_cons_zero, List.set_cons_succ, der_non, der_bl, der_int, der_str, der_tup, der_lst, der_dct, der_ref, ↓oBin, ↓oAdd, ↓oSub, ↓oMul, ↓oMod, ↓oDiv, ↓oPow, ↓oCmp, ↓oTru, ↓oBl, ↓oNeg, ↓oIx, atI_0, atI_1, ixN_20, ixN_21, ↓oLen, ↓oTuple, ↓oInt, ↓oMax, ↓oMin, ↓oCut, ↓oList, ↓tgN, ↓tgT, ↓setAll, ↓listAt, ↓Pk.putAt, ↓wipeS, ↓getAtI, ↓setAtI, ↓oIp, List.length_cons, List.length_nil, Bool.not_true, Bool.not_false, if_true, if_false, ite_true, ite_false, reduceIte, List.length_replicate, Nat.reduceSub, Nat.reduceAdd, Int.reduceLT, Int.reduceLE, Int.reduceNeg, Bool.false_eq_true, Bool.true_eq_false, true_and, and_true, eqL, Option.map_some, List.length_map, oEq_em em_int (by decide)] | (refine And.intro ?pk1 ?_; (case pk1 => (first | assumption | decide | omega | exact ⟨by assumption, by omega⟩ | (constructor <;> first | assumption | decide | omega) | (simp [okMul]; done))))))
      have hfr : decide (((nexts g L l).length : Int) + (l.length : Int) = (g.length : Int)) = free g L l := by
        unfold free
        by_cases c : (nexts g L l).length + l.length = g.length
        · rw [decide_eq_true c, decide_eq_true (by omega)]
        · rw [decide_eq_false c, decide_eq_false (by omega)]
      simp only [hfr]
      have vs := val_snoc g L dn l
      cases hfl : free g L l with
      | false =>
        (repeat (first | (first | refine x_seq ?_ | refine x_set ?_ | refine x_own ?_ | refine x_asg ?_ | refine x_drop ?_ | refine x_ret ?_ | refine x_if ?_ | refine x_nil ?_ | refine x_for ?_ | refine x_augix ?_ | refine x_put ?_ | refine x_dnew ?_ | refine x_putd rfl ?_ | refine x_mt rfl ?_ | refine x_aug rfl ?_ | refine x_frz ?_ | refine x_ext rfl ?_ | refine x_ct ?_ | refine x_bk ?_ | refine x_retN ?_) | simp only [↓w_con, ↓w_var, ↓w_rd, ↓w_e1, ↓w_e2, ↓w_bin, ↓w_cmp, ↓w_ix, ↓w_neg, ↓w_not, ↓w_and, ↓w_or, ↓w_if, ↓w_args0, ↓w_args, ↓w_tup, ↓w_lst, ↓w_L, ↓w_cell, ↓w_call, ↓w_l1, ↓w_l2, ↓w_sortk, ↓w_str, ↓w_part0, ↓w_part, ↓w_cut, ↓w_lcut, ↓w_tval, ↓w_tcmp, ↓w_tnot, ↓w_tand, ↓w_tor, ↓w_tyes, ↓w_seq, ↓w_itB, ↓w_comp, ↓wO_some, ↓wO_none, ↓wO_bind, ↓wO_map, ↓wO_gd, List.map_cons, List.map_nil, List.cons_append, List.nil_append, List.replicate, List.getElem?_cons_zero, List.getElem?_cons_succ, List.set_cons_zero, List.set_cons_succ, der_non, der_bl, der_int, der_str, der_tup, der_lst, der_dct, der_ref, ↓oBin, ↓oAdd, ↓oSub, ↓oMul, ↓oMod, ↓oDiv, ↓oPow, ↓oCmp, ↓oTru, ↓oBl, ↓oNeg, ↓oIx, atI_0, atI_1, ixN_20, ixN_21, ↓oLen, ↓oTuple, ↓oInt, ↓oMax, ↓oMin, ↓oCut, ↓oList, ↓tgN, ↓tgT, ↓setAll, ↓listAt, ↓Pk.putAt, ↓wipeS, ↓getAtI, ↓setAtI, ↓oIp, List.length_cons, List.length_nil, Bool.not_true, Bool.not_false, if_true, if_false, ite_true, ite_false, reduceIte, List.length_replicate, Nat.reduceSub, Nat.reduceAdd, Int.reduceLT, Int.reduceLE, Int.reduceNeg, Bool.false_eq_true, Bool.true_eq_false, true_and, and_true] | (refine And.intro ?pk1 ?_; (case pk1 => (first | assumption | decide | omega | exact ⟨by assumption, by omega⟩ | (constructor <;> first | assumption | decide | omega) | (simp [okMul]; done))))))
        rw [hfl] at vs
        simp only [Bool.false_eq_true, if_false] at vs
        refine ⟨dn ++ [l], c0, c1, _, _, by rw [e]; simp, h0, h1, by omega, hf.trans ?_, rfl, rfl⟩
        constructor
        · rintro ⟨a, ha, z⟩; exact ⟨a, by simp [ha], z⟩
        · rintro ⟨a, ha, z⟩
          rcases List.mem_append.mp ha with w | w
          · exact ⟨a, w, z⟩
          · simp at w; rw [w, hfl] at z; cases z
      | true =>
        rw [hfl] at vs
        simp only [if_true] at vs
        have hex : ∃ a ∈ dn ++ [l], free g L a = true := ⟨l, by simp, hfl⟩
        by_cases hp : (nexts g L l).length % 2 = 0
        · have hmod : ((nexts g L l).length : Int) % 2 = 0 := by omega
          have hsg : sg (nexts g L l).length = 1 := by unfold sg; rw [if_pos hp]
          (repeat (first | (first | refine x_seq ?_ | refine x_set ?_ | refine x_own ?_ | refine x_asg ?_ | refine x_drop ?_ | refine x_ret ?_ | refine x_if ?_ | refine x_nil ?_ | refine x_for ?_ | refine x_augix ?_ | refine x_put ?_ | refine x_dnew ?_ | refine x_putd rfl ?_ | refine x_mt rfl ?_ | refine x_aug rfl ?_ | refine x_frz ?_ | refine x_ext rfl ?_ | refine x_ct ?_ | refine x_bk ?_ | refine x_retN ?_) | simp only [↓w_con, ↓w_var, ↓w_rd, ↓w_e1, ↓w_e2, ↓w_bin, ↓w_cmp, ↓w_ix, ↓w_neg, ↓w_not, ↓w_and, ↓w_or, ↓w_if, ↓w_args0, ↓w_args, ↓w_tup, ↓w_lst, ↓w_L, ↓w_cell, ↓w_call, ↓w_l1, ↓w_l2, ↓w_sortk, ↓w_str, ↓w_part0, ↓w_part, ↓w_cut, ↓w_lcut, ↓w_tval, ↓w_tcmp, ↓w_tnot, ↓w_tand, ↓w_tor, ↓w_tyes, ↓w_seq, ↓w_itB, ↓w_comp, ↓wO_some, ↓wO_none, ↓wO_bind, ↓wO_map, ↓wO_gd, List.map_cons, List.map_nil, List.cons_append, List.nil_append, List.replicate, List.getElem?_cons_zero, List.getElem?_cons_succ, List.set_cons_zero, List.set_cons_succ, der_non, der_bl, der_int, der_str, der_tup, der_lst, der_dct, der_ref, ↓oBin, ↓oAdd, ↓oSub, ↓oMul, ↓oMod, ↓oDiv, ↓oPow, ↓oCmp, ↓oTru, ↓oBl, ↓oNeg, ↓oIx, atI_0, atI_1, ixN_20, ixN_21, ↓oLen, ↓oTuple, ↓oInt, ↓oMax, ↓oMin, ↓oCut, ↓oList, ↓tgN, ↓tgT, ↓setAll, ↓listAt, ↓Pk.putAt, ↓wipeS, ↓getAtI, ↓setAtI, ↓oIp, List.length_cons, List.length_nil, Bool.not_true, Bool.not_false, if_true, if_false, ite_true, ite_false, reduceIte, List.length_replicate, Nat.reduceSub, Nat.reduceAdd, Int.reduceLT, Int.reduceLE, Int.reduceNeg, Bool.false_eq_true, Bool.true_eq_false, true_and, and_true, List.length_map, hmod] | (refine And.intro ?pk1 ?_; (case pk1 => (first | assumption | decide | omega | exact ⟨by assumption, by omega⟩ | (constructor <;> first | assumption | decide | omega) | (simp [okMul]; done))))))
          rw [hsg] at vs
          refine ⟨dn ++ [l], c0 + 1, c1, _, _, by rw [e]; simp, by omega, h1, by omega, ⟨fun _ => hex, fun _ => by omega⟩, rfl, rfl⟩
        · have hmod : ((nexts g L l).length : Int) % 2 = 1 := by omega
          have hsg : sg (nexts g L l).length = -1 := by unfold sg; rw [if_neg hp]
          (repeat (first | (first | refine x_seq ?_ | refine x_set ?_ | refine x_own ?_ | refine x_asg ?_ | refine x_drop ?_ | refine x_ret ?_ | refine x_if ?_ | refine x_nil ?_ | refine x_for ?_ | refine x_augix ?_ | refine x_put ?_ | refine x_dnew ?_ | refine x_putd rfl ?_ | refine x_mt rfl ?_ | refine x_aug rfl ?_ | refine x_frz ?_ | refine x_ext rfl ?_ | refine x_ct ?_ | refine x_bk ?_ | refine x_retN ?_) | simp only [↓w_con, ↓w_var, ↓w_rd, ↓w_e1, ↓w_e2, ↓w_bin, ↓w_cmp, ↓w_ix, ↓w_neg, ↓w_not, ↓w_and, ↓w_or, ↓w_if, ↓w_args0, ↓w_args, ↓w_tup, ↓w_lst, ↓w_L, ↓w_cell, ↓w_call, ↓w_l1, ↓w_l2, ↓w_sortk, ↓w_str, ↓w_part0, ↓w_part, ↓w_cut, ↓w_lcut, ↓w_tval, ↓w_tcmp, ↓w_tnot, ↓w_tand, ↓w_tor, ↓w_tyes, ↓w_seq, ↓w_itB, ↓w_comp, ↓wO_some, ↓wO_none, ↓wO_bind, ↓wO_map, ↓wO_gd, List.map_cons, List.map_nil, List.cons_append, List.nil_append, List.replicate, List.getElem?_cons_zero, List.getElem?_cons_succ, List.set_cons_zero, List.set_cons_succ, der_non, der_bl, der_int, der_str, der_tup, der_lst, der_dct, der_ref, ↓oBin, ↓oAdd, ↓oSub, ↓oMul, ↓oMod, ↓oDiv, ↓oPow, ↓oCmp, ↓oTru, ↓oBl, ↓oNeg, ↓oIx, atI_0, atI_1, ixN_20, ixN_21, ↓oLen, ↓oTuple, ↓oInt, ↓oMax, ↓oMin, ↓oCut, ↓oList, ↓tgN, ↓tgT, ↓setAll, ↓listAt, ↓Pk.putAt, ↓wipeS, ↓getAtI, ↓setAtI, ↓oIp, List.length_cons, List.length_nil, Bool.not_true, Bool.not_false, if_true, if_false, ite_true, ite_false, reduceIte, List.length_replicate, Nat.reduceSub, Nat.reduceAdd, Int.reduceLT, Int.reduceLE, Int.reduceNeg, Bool.false_eq_true, Bool.true_eq_false, true_and, and_true, List.length_map, hmod] | (refine And.intro ?pk1 ?_; (case pk1 => (first | assumption | decide | omega | exact ⟨by assumption, by omega⟩ | (constructor <;> first | assumption | decide | omega) | (simp [okMul]; done))))))
          rw [hsg] at vs
          refine ⟨dn ++ [l], c0, c1 + 1, _, _, by rw [e]; simp, h0, by omega, by omega, ⟨fun _ => hex, fun _ => by omega⟩, rfl, rfl⟩
end K16
namespace K16
open PySem PySem.Spec PyProof.Rows L2 Pk
def topS (i : Nat) : Stmt := PySem.Challenge.pw_cornerpick_k16_whole_even_and_odd.main.body.getD i (.Pass ⟨0, 0, 0, 0⟩)
def blts : List Str := ["all", "any", "int", "isinstance", "len", "list", "max", "min", "range", "sorted", "str", "tuple", "zip"]
abbrev s_top : Stmt := topS 8
noncomputable def c_top : Pk.Ctx := { N := ["yard"], nm := (defScope s_top).names, fnm := none, gl := [], fns := [], bl := blts, ow := [], ce := [], fz := [], rc := false }
noncomputable def f_top : Fnc := { ps := ["yard"], dfl := [], g := g_top, kws := [] }
abbrev s_with_one : Stmt := topS 6
noncomputable def c_with_one : Pk.Ctx := { N := ["some", "one"], nm := (defScope s_with_one).names, fnm := none, gl := [], fns := [], bl := blts, ow := [], ce := [], fz := [], rc := false }
noncomputable def f_with_one : Fnc := { ps := ["some", "one"], dfl := [], g := g_with_one, kws := [] }
abbrev s_rises : Stmt := topS 4
noncomputable def c_rises : Pk.Ctx := { N := ["names", "one", "other"], nm := (defScope s_rises).names, fnm := none, gl := [], fns := [], bl := blts, ow := [], ce := [], fz := [], rc := false }
noncomputable def f_rises : Fnc := { ps := ["names"], dfl := [], g := g_rises, kws := [] }
abbrev s_is_set : Stmt := topS 5
noncomputable def c_is_set : Pk.Ctx := { N := ["thing", "ground", "one"], nm := (defScope s_is_set).names, fnm := none, gl := [], fns := [("rises", f_rises)], bl := blts, ow := [], ce := [], fz := [], rc := false }
noncomputable def f_is_set : Fnc := { ps := ["thing", "ground"], dfl := [], g := g_is_set, kws := [] }
abbrev s_can : Stmt := topS 9
noncomputable def c_can : Pk.Ctx := { N := ["yard", "some"], nm := (defScope s_can).names, fnm := none, gl := [], fns := [("is_set", f_is_set)], bl := blts, ow := [], ce := [], fz := [], rc := false }
noncomputable def f_can : Fnc := { ps := ["yard", "some"], dfl := [], g := g_can, kws := [] }
abbrev s_need_taken : Stmt := topS 10
noncomputable def c_need_taken : Pk.Ctx := { N := ["yard", "some"], nm := (defScope s_need_taken).names, fnm := none, gl := [], fns := [("can", f_can)], bl := blts, ow := [], ce := [], fz := [], rc := false }
noncomputable def f_need_taken : Fnc := { ps := ["yard", "some"], dfl := [], g := g_need_taken, kws := [] }
abbrev s_may : Stmt := topS 11
noncomputable def c_may : Pk.Ctx := { N := ["yard", "some", "one"], nm := (defScope s_may).names, fnm := none, gl := [], fns := [("with_one", f_with_one), ("need_taken", f_need_taken)], bl := blts, ow := [], ce := [], fz := [], rc := false }
noncomputable def f_may : Fnc := { ps := ["yard", "some"], dfl := [], g := g_may, kws := [] }
abbrev s_law_start : Stmt := topS 13
noncomputable def c_law_start : Pk.Ctx := { N := ["_law_script", "_law_k", "_law_cell"], nm := (defScope s_law_start).names, fnm := none, gl := [], fns := [], bl := blts, ow := [], ce := [], fz := [], rc := true }
noncomputable def f_law_start : Fnc := { ps := ["_law_script", "_law_k"], dfl := [], g := g_law_start, kws := [] }
abbrev s_law_next : Stmt := topS 14
noncomputable def c_law_next : Pk.Ctx := { N := ["_law_draw", "_law_many", "_law_told", "_law_number"], nm := (defScope s_law_next).names, fnm := none, gl := [], fns := [], bl := blts, ow := [], ce := [], fz := [], rc := false }
noncomputable def f_law_next : Fnc := { ps := ["_law_draw", "_law_many"], dfl := [], g := g_law_next, kws := [] }
abbrev s_law_rules : Stmt := topS 18
noncomputable def c_law_rules : Pk.Ctx := { N := ["_law_draw", "_law_ground_here", "_law_wide", "_law_rules_here", "_law_x", "_law_turn", "_law_y"], nm := (defScope s_law_rules).names, fnm := none, gl := [], fns := [("_law_next", f_law_next)], bl := blts, ow := [3], ce := [], fz := [], rc := false }
noncomputable def f_law_rules : Fnc := { ps := ["_law_draw", "_law_ground_here"], dfl := [], g := g_law_rulesD, kws := [] }
abbrev s_law_meet : Stmt := topS 17
noncomputable def c_law_meet : Pk.Ctx := { N := ["_law_one", "_law_other", "_law_x"], nm := (defScope s_law_meet).names, fnm := none, gl := [], fns := [], bl := blts, ow := [], ce := [], fz := [], rc := false }
noncomputable def f_law_meet : Fnc := { ps := ["_law_one", "_law_other"], dfl := [], g := g_law_meet, kws := [] }
abbrev s_law_sets : Stmt := topS 19
noncomputable def c_law_sets : Pk.Ctx := { N := ["_law_ground_here", "_law_rules_here", "_law_found", "_law_level", "_law_wants", "_law_y", "_law_needs", "_law_x", "_law_more", "_law_some", "_law_lists"], nm := (defScope s_law_sets).names, fnm := none, gl := [], fns := [("_law_meet", f_law_meet)], bl := blts, ow := [], ce := [], fz := [], rc := false, dt := [(8, true)] }
noncomputable def f_law_sets : Fnc := { ps := ["_law_ground_here", "_law_rules_here"], dfl := [], g := g_law_setsD, kws := [] }
abbrev s_law_word : Stmt := topS 15
noncomputable def c_law_word : Pk.Ctx := { N := ["_law_number", "_law_letters", "_law_word_here"], nm := (defScope s_law_word).names, fnm := none, gl := [], fns := [], bl := blts, ow := [], ce := [], fz := [], rc := false }
noncomputable def f_law_word : Fnc := { ps := ["_law_number"], dfl := [], g := g_law_word, kws := [] }
abbrev s_law_names : Stmt := topS 16
noncomputable def c_law_names : Pk.Ctx := { N := ["_law_draw", "_law_many", "_law_own", "_law_names_here", "_law_at", "_law_word_here", "_law_number"], nm := (defScope s_law_names).names, fnm := none, gl := [], fns := [("_law_next", f_law_next), ("_law_word", f_law_word)], bl := blts, ow := [3], ce := [], fz := [], rc := false }
noncomputable def f_law_names : Fnc := { ps := ["_law_draw", "_law_many"], dfl := [], g := g_law_namesB, kws := [] }
abbrev s_law_ground : Stmt := topS 20
noncomputable def c_law_ground : Pk.Ctx := { N := ["_law_draw", "_law_k", "_law_size"], nm := (defScope s_law_ground).names, fnm := none, gl := [], fns := [("_law_next", f_law_next), ("_law_names", f_law_names)], bl := blts, ow := [], ce := [], fz := [], rc := false }
noncomputable def f_law_ground : Fnc := { ps := ["_law_draw", "_law_k"], dfl := [], g := g_law_groundD, kws := [] }
abbrev s_law : Stmt := topS 21
noncomputable def c_law : Pk.Ctx := { N := ["_law_script", "_law_k", "_law_draw", "_law_ground_here", "_law_sets_here", "_law_yard", "_law_counts", "_law_some", "_law_nexts", "_law_x", "_law_whole"], nm := (defScope s_law).names, fnm := none, gl := [], fns := [("top", f_top), ("may", f_may), ("_law_start", f_law_start), ("_law_rules", f_law_rules), ("_law_sets", f_law_sets), ("_law_ground", f_law_ground)], bl := blts, ow := [6], ce := [], fz := [], rc := false }
theorem e_top : denB (den 40) c_top 40 (defBody s_top) = b_top := by kernel_rfl
theorem sc_top : FnScope c_top.N ["yard"] (defScope s_top) := ⟨rfl, rfl, rfl, by decide +kernel, rfl, by decide +kernel, by decide +kernel⟩
theorem bi_top : BindsAll "top" s_top ["yard"] := fun _ _ _ _ _ _ us hl => match us, hl with | [_], _ => rfl
theorem kw_top : KwAll "top" s_top ["yard"] [] := fun p hp => by cases hp
theorem e_with_one : denB (den 40) c_with_one 40 (defBody s_with_one) = b_with_one := by kernel_rfl
theorem sc_with_one : FnScope c_with_one.N ["some", "one"] (defScope s_with_one) := ⟨rfl, rfl, rfl, by decide +kernel, rfl, by decide +kernel, by decide +kernel⟩
theorem bi_with_one : BindsAll "with_one" s_with_one ["some", "one"] := fun _ _ _ _ _ _ us hl => match us, hl with | [_, _], _ => rfl
theorem kw_with_one : KwAll "with_one" s_with_one ["some", "one"] [] := fun p hp => by cases hp
theorem e_rises : denB (den 40) c_rises 40 (defBody s_rises) = b_rises := by kernel_rfl
theorem sc_rises : FnScope c_rises.N ["names"] (defScope s_rises) := ⟨rfl, rfl, rfl, by decide +kernel, rfl, by decide +kernel, by decide +kernel⟩
theorem bi_rises : BindsAll "rises" s_rises ["names"] := fun _ _ _ _ _ _ us hl => match us, hl with | [_], _ => rfl
theorem kw_rises : KwAll "rises" s_rises ["names"] [] := fun p hp => by cases hp
theorem e_is_set : denB (den 40) c_is_set 40 (defBody s_is_set) = b_is_set := by kernel_rfl
theorem sc_is_set : FnScope c_is_set.N ["thing", "ground"] (defScope s_is_set) := ⟨rfl, rfl, rfl, by decide +kernel, rfl, by decide +kernel, by decide +kernel⟩
theorem bi_is_set : BindsAll "is_set" s_is_set ["thing", "ground"] := fun _ _ _ _ _ _ us hl => match us, hl with | [_, _], _ => rfl
theorem kw_is_set : KwAll "is_set" s_is_set ["thing", "ground"] [] := fun p hp => by cases hp
theorem e_can : denB (den 40) c_can 40 (defBody s_can) = b_can := by kernel_rfl
theorem sc_can : FnScope c_can.N ["yard", "some"] (defScope s_can) := ⟨rfl, rfl, rfl, by decide +kernel, rfl, by decide +kernel, by decide +kernel⟩
theorem bi_can : BindsAll "can" s_can ["yard", "some"] := fun _ _ _ _ _ _ us hl => match us, hl with | [_, _], _ => rfl
theorem kw_can : KwAll "can" s_can ["yard", "some"] [] := fun p hp => by cases hp
theorem e_need_taken : denB (den 40) c_need_taken 40 (defBody s_need_taken) = b_need_taken := by kernel_rfl
theorem sc_need_taken : FnScope c_need_taken.N ["yard", "some"] (defScope s_need_taken) := ⟨rfl, rfl, rfl, by decide +kernel, rfl, by decide +kernel, by decide +kernel⟩
theorem bi_need_taken : BindsAll "need_taken" s_need_taken ["yard", "some"] := fun _ _ _ _ _ _ us hl => match us, hl with | [_, _], _ => rfl
theorem kw_need_taken : KwAll "need_taken" s_need_taken ["yard", "some"] [] := fun p hp => by cases hp
theorem e_may : denB (den 40) c_may 40 (defBody s_may) = b_may := by kernel_rfl
theorem sc_may : FnScope c_may.N ["yard", "some"] (defScope s_may) := ⟨rfl, rfl, rfl, by decide +kernel, rfl, by decide +kernel, by decide +kernel⟩
theorem bi_may : BindsAll "may" s_may ["yard", "some"] := fun _ _ _ _ _ _ us hl => match us, hl with | [_, _], _ => rfl
theorem kw_may : KwAll "may" s_may ["yard", "some"] [] := fun p hp => by cases hp
theorem e_law_start : denB (den 40) c_law_start 40 (defBody s_law_start) = b_law_start := by kernel_rfl
theorem sc_law_start : FnScope c_law_start.N ["_law_script", "_law_k"] (defScope s_law_start) := ⟨rfl, rfl, rfl, by decide +kernel, rfl, by decide +kernel, by decide +kernel⟩
theorem bi_law_start : BindsAll "_law_start" s_law_start ["_law_script", "_law_k"] := fun _ _ _ _ _ _ us hl => match us, hl with | [_, _], _ => rfl
theorem kw_law_start : KwAll "_law_start" s_law_start ["_law_script", "_law_k"] [] := fun p hp => by cases hp
theorem e_law_next : denB (den 40) c_law_next 40 (defBody s_law_next) = b_law_next := by kernel_rfl
theorem sc_law_next : FnScope c_law_next.N ["_law_draw", "_law_many"] (defScope s_law_next) := ⟨rfl, rfl, rfl, by decide +kernel, rfl, by decide +kernel, by decide +kernel⟩
theorem bi_law_next : BindsAll "_law_next" s_law_next ["_law_draw", "_law_many"] := fun _ _ _ _ _ _ us hl => match us, hl with | [_, _], _ => rfl
theorem kw_law_next : KwAll "_law_next" s_law_next ["_law_draw", "_law_many"] [] := fun p hp => by cases hp
theorem e_law_rules : denB (den 40) c_law_rules 40 (defBody s_law_rules) = b_law_rulesD := by kernel_rfl
theorem sc_law_rules : FnScope c_law_rules.N ["_law_draw", "_law_ground_here"] (defScope s_law_rules) := ⟨rfl, rfl, rfl, by decide +kernel, rfl, by decide +kernel, by decide +kernel⟩
theorem bi_law_rules : BindsAll "_law_rules" s_law_rules ["_law_draw", "_law_ground_here"] := fun _ _ _ _ _ _ us hl => match us, hl with | [_, _], _ => rfl
theorem kw_law_rules : KwAll "_law_rules" s_law_rules ["_law_draw", "_law_ground_here"] [] := fun p hp => by cases hp
theorem e_law_meet : denB (den 40) c_law_meet 40 (defBody s_law_meet) = b_law_meet := by kernel_rfl
theorem sc_law_meet : FnScope c_law_meet.N ["_law_one", "_law_other"] (defScope s_law_meet) := ⟨rfl, rfl, rfl, by decide +kernel, rfl, by decide +kernel, by decide +kernel⟩
theorem bi_law_meet : BindsAll "_law_meet" s_law_meet ["_law_one", "_law_other"] := fun _ _ _ _ _ _ us hl => match us, hl with | [_, _], _ => rfl
theorem kw_law_meet : KwAll "_law_meet" s_law_meet ["_law_one", "_law_other"] [] := fun p hp => by cases hp
theorem e_law_sets : denB (den 40) c_law_sets 40 (defBody s_law_sets) = b_law_setsD := by kernel_rfl
theorem sc_law_sets : FnScope c_law_sets.N ["_law_ground_here", "_law_rules_here"] (defScope s_law_sets) := ⟨rfl, rfl, rfl, by decide +kernel, rfl, by decide +kernel, by decide +kernel⟩
theorem bi_law_sets : BindsAll "_law_sets" s_law_sets ["_law_ground_here", "_law_rules_here"] := fun _ _ _ _ _ _ us hl => match us, hl with | [_, _], _ => rfl
theorem kw_law_sets : KwAll "_law_sets" s_law_sets ["_law_ground_here", "_law_rules_here"] [] := fun p hp => by cases hp
theorem e_law_word : denB (den 40) c_law_word 40 (defBody s_law_word) = b_law_word := by kernel_rfl
theorem sc_law_word : FnScope c_law_word.N ["_law_number"] (defScope s_law_word) := ⟨rfl, rfl, rfl, by decide +kernel, rfl, by decide +kernel, by decide +kernel⟩
theorem bi_law_word : BindsAll "_law_word" s_law_word ["_law_number"] := fun _ _ _ _ _ _ us hl => match us, hl with | [_], _ => rfl
theorem kw_law_word : KwAll "_law_word" s_law_word ["_law_number"] [] := fun p hp => by cases hp
theorem e_law_names : denB (den 40) c_law_names 40 (defBody s_law_names) = b_law_namesB := by kernel_rfl
theorem sc_law_names : FnScope c_law_names.N ["_law_draw", "_law_many"] (defScope s_law_names) := ⟨rfl, rfl, rfl, by decide +kernel, rfl, by decide +kernel, by decide +kernel⟩
theorem bi_law_names : BindsAll "_law_names" s_law_names ["_law_draw", "_law_many"] := fun _ _ _ _ _ _ us hl => match us, hl with | [_, _], _ => rfl
theorem kw_law_names : KwAll "_law_names" s_law_names ["_law_draw", "_law_many"] [] := fun p hp => by cases hp
theorem e_law_ground : denB (den 40) c_law_ground 40 (defBody s_law_ground) = b_law_groundD := by kernel_rfl
theorem sc_law_ground : FnScope c_law_ground.N ["_law_draw", "_law_k"] (defScope s_law_ground) := ⟨rfl, rfl, rfl, by decide +kernel, rfl, by decide +kernel, by decide +kernel⟩
theorem bi_law_ground : BindsAll "_law_ground" s_law_ground ["_law_draw", "_law_k"] := fun _ _ _ _ _ _ us hl => match us, hl with | [_, _], _ => rfl
theorem kw_law_ground : KwAll "_law_ground" s_law_ground ["_law_draw", "_law_k"] [] := fun p hp => by cases hp
theorem e_law : denB (den 40) c_law 40 (defBody s_law) = b_law := by kernel_rfl
theorem sc_law : FnScope c_law.N ["_law_script"] (defScope s_law) := ⟨rfl, rfl, rfl, by decide +kernel, rfl, by decide +kernel, by decide +kernel⟩
theorem bi_law : BindsAll "law" s_law ["_law_script"] := fun _ _ _ _ _ _ us hl => match us, hl with | [_], _ => rfl
section
variable {P : Program} {w : World} {K : PySem.W.Frag} {mg : Str → Option Value} {h : Heap}
structure Top (K : PySem.W.Frag) : Prop where
  d_top : DefAt K "top" s_top
  d_with_one : DefAt K "with_one" s_with_one
  d_rises : DefAt K "rises" s_rises
  d_is_set : DefAt K "is_set" s_is_set
  d_can : DefAt K "can" s_can
  d_need_taken : DefAt K "need_taken" s_need_taken
  d_may : DefAt K "may" s_may
  d_law_start : DefAt K "_law_start" s_law_start
  d_law_next : DefAt K "_law_next" s_law_next
  d_law_rules : DefAt K "_law_rules" s_law_rules
  d_law_meet : DefAt K "_law_meet" s_law_meet
  d_law_sets : DefAt K "_law_sets" s_law_sets
  d_law_word : DefAt K "_law_word" s_law_word
  d_law_names : DefAt K "_law_names" s_law_names
  d_law_ground : DefAt K "_law_ground" s_law_ground
  d_law : DefAt K "law" s_law
  bl : ∀ y ∈ blts, PySem.W.nsIn K mainGlobals y = some none
theorem k_top (T : Top K) (KX : K.In h) (G : h.Ns mainGlobals mg) (base : Heap) : FncOk P w K mg base 3 "top" f_top := by
  refine def_ok c_top KX G T.d_top sc_top (by decide) rfl rfl T.bl ?_ ?_ bi_top kw_top e_top
  · intro p hp
    cases hp
  · intro p hp
    cases hp
theorem k_with_one (T : Top K) (KX : K.In h) (G : h.Ns mainGlobals mg) (base : Heap) : FncOk P w K mg base 3 "with_one" f_with_one := by
  refine def_ok c_with_one KX G T.d_with_one sc_with_one (by decide) rfl rfl T.bl ?_ ?_ bi_with_one kw_with_one e_with_one
  · intro p hp
    cases hp
  · intro p hp
    cases hp
theorem k_rises (T : Top K) (KX : K.In h) (G : h.Ns mainGlobals mg) (base : Heap) : FncOk P w K mg base 3 "rises" f_rises := by
  refine def_ok c_rises KX G T.d_rises sc_rises (by decide) rfl rfl T.bl ?_ ?_ bi_rises kw_rises e_rises
  · intro p hp
    cases hp
  · intro p hp
    cases hp
theorem k_is_set (T : Top K) (KX : K.In h) (G : h.Ns mainGlobals mg) (base : Heap) : FncOk P w K mg base 6 "is_set" f_is_set := by
  refine def_ok c_is_set KX G T.d_is_set sc_is_set (by decide) rfl rfl T.bl ?_ ?_ bi_is_set kw_is_set e_is_set
  · intro p hp
    cases hp
  · intro p hp
    simp only [c_is_set, List.mem_cons, List.not_mem_nil, or_false] at hp
    rcases hp with rfl
    · exact (k_rises T KX G base).mono (by decide)
theorem k_can (T : Top K) (KX : K.In h) (G : h.Ns mainGlobals mg) (base : Heap) : FncOk P w K mg base 9 "can" f_can := by
  refine def_ok c_can KX G T.d_can sc_can (by decide) rfl rfl T.bl ?_ ?_ bi_can kw_can e_can
  · intro p hp
    cases hp
  · intro p hp
    simp only [c_can, List.mem_cons, List.not_mem_nil, or_false] at hp
    rcases hp with rfl
    · exact (k_is_set T KX G base).mono (by decide)
theorem k_need_taken (T : Top K) (KX : K.In h) (G : h.Ns mainGlobals mg) (base : Heap) : FncOk P w K mg base 12 "need_taken" f_need_taken := by
  refine def_ok c_need_taken KX G T.d_need_taken sc_need_taken (by decide) rfl rfl T.bl ?_ ?_ bi_need_taken kw_need_taken e_need_taken
  · intro p hp
    cases hp
  · intro p hp
    simp only [c_need_taken, List.mem_cons, List.not_mem_nil, or_false] at hp
    rcases hp with rfl
    · exact (k_can T KX G base).mono (by decide)
theorem k_may (T : Top K) (KX : K.In h) (G : h.Ns mainGlobals mg) (base : Heap) : FncOk P w K mg base 15 "may" f_may := by
  refine def_ok c_may KX G T.d_may sc_may (by decide) rfl rfl T.bl ?_ ?_ bi_may kw_may e_may
  · intro p hp
    cases hp
  · intro p hp
    simp only [c_may, List.mem_cons, List.not_mem_nil, or_false] at hp
    rcases hp with rfl | rfl
    · exact (k_with_one T KX G base).mono (by decide)
    · exact (k_need_taken T KX G base).mono (by decide)
theorem k_law_start (T : Top K) (KX : K.In h) (G : h.Ns mainGlobals mg) (base : Heap) : FncOk P w K mg base 3 "_law_start" f_law_start := by
  refine def_ok c_law_start KX G T.d_law_start sc_law_start (by decide) rfl rfl T.bl ?_ ?_ bi_law_start kw_law_start e_law_start
  · intro p hp
    cases hp
  · intro p hp
    cases hp
theorem k_law_next (T : Top K) (KX : K.In h) (G : h.Ns mainGlobals mg) (base : Heap) : FncOk P w K mg base 3 "_law_next" f_law_next := by
  refine def_ok c_law_next KX G T.d_law_next sc_law_next (by decide) rfl rfl T.bl ?_ ?_ bi_law_next kw_law_next e_law_next
  · intro p hp
    cases hp
  · intro p hp
    cases hp
theorem k_law_rules (T : Top K) (KX : K.In h) (G : h.Ns mainGlobals mg) (base : Heap) : FncOk P w K mg base 6 "_law_rules" f_law_rules := by
  refine def_ok c_law_rules KX G T.d_law_rules sc_law_rules (by decide) rfl rfl T.bl ?_ ?_ bi_law_rules kw_law_rules e_law_rules
  · intro p hp
    cases hp
  · intro p hp
    simp only [c_law_rules, List.mem_cons, List.not_mem_nil, or_false] at hp
    rcases hp with rfl
    · exact (k_law_next T KX G base).mono (by decide)
theorem k_law_meet (T : Top K) (KX : K.In h) (G : h.Ns mainGlobals mg) (base : Heap) : FncOk P w K mg base 3 "_law_meet" f_law_meet := by
  refine def_ok c_law_meet KX G T.d_law_meet sc_law_meet (by decide) rfl rfl T.bl ?_ ?_ bi_law_meet kw_law_meet e_law_meet
  · intro p hp
    cases hp
  · intro p hp
    cases hp
theorem k_law_sets (T : Top K) (KX : K.In h) (G : h.Ns mainGlobals mg) (base : Heap) : FncOk P w K mg base 6 "_law_sets" f_law_sets := by
  refine def_ok c_law_sets KX G T.d_law_sets sc_law_sets (by decide) rfl rfl T.bl ?_ ?_ bi_law_sets kw_law_sets e_law_sets
  · intro p hp
    cases hp
  · intro p hp
    simp only [c_law_sets, List.mem_cons, List.not_mem_nil, or_false] at hp
    rcases hp with rfl
    · exact (k_law_meet T KX G base).mono (by decide)
theorem k_law_word (T : Top K) (KX : K.In h) (G : h.Ns mainGlobals mg) (base : Heap) : FncOk P w K mg base 3 "_law_word" f_law_word := by
  refine def_ok c_law_word KX G T.d_law_word sc_law_word (by decide) rfl rfl T.bl ?_ ?_ bi_law_word kw_law_word e_law_word
  · intro p hp
    cases hp
  · intro p hp
    cases hp
theorem k_law_names (T : Top K) (KX : K.In h) (G : h.Ns mainGlobals mg) (base : Heap) : FncOk P w K mg base 6 "_law_names" f_law_names := by
  refine def_ok c_law_names KX G T.d_law_names sc_law_names (by decide) rfl rfl T.bl ?_ ?_ bi_law_names kw_law_names e_law_names
  · intro p hp
    cases hp
  · intro p hp
    simp only [c_law_names, List.mem_cons, List.not_mem_nil, or_false] at hp
    rcases hp with rfl | rfl
    · exact (k_law_next T KX G base).mono (by decide)
    · exact (k_law_word T KX G base).mono (by decide)
theorem k_law_ground (T : Top K) (KX : K.In h) (G : h.Ns mainGlobals mg) (base : Heap) : FncOk P w K mg base 9 "_law_ground" f_law_ground := by
  refine def_ok c_law_ground KX G T.d_law_ground sc_law_ground (by decide) rfl rfl T.bl ?_ ?_ bi_law_ground kw_law_ground e_law_ground
  · intro p hp
    cases hp
  · intro p hp
    simp only [c_law_ground, List.mem_cons, List.not_mem_nil, or_false] at hp
    rcases hp with rfl | rfl
    · exact (k_law_next T KX G base).mono (by decide)
    · exact (k_law_names T KX G base).mono (by decide)
theorem k_law {fa : Addr} (T : Top K) (KX : K.In h) (G : h.Ns mainGlobals mg) (hfa : mg "law" = some (.ref fa)) : ∃ fd : FuncData, (∀ (s : Shared) (u : Value), BindsTo s fd ⟨[u], []⟩ [("_law_script", u)]) ∧ ∀ base : Heap, K.In base → base.Ns mainGlobals mg → FnOk P w K mg base (L2.CX P w) 18 fa fd ["_law_script"] (spAll K g_law) := by
  refine law_ok c_law KX G hfa T.d_law sc_law (by decide) rfl rfl T.bl ?_ ?_ bi_law e_law
  · intro p hp
    cases hp
  · intro base _ _ p hp
    simp only [c_law, List.mem_cons, List.not_mem_nil, or_false] at hp
    rcases hp with rfl | rfl | rfl | rfl | rfl | rfl
    · exact (k_top T KX G base).mono (by decide)
    · exact (k_may T KX G base).mono (by decide)
    · exact (k_law_start T KX G base).mono (by decide)
    · exact (k_law_rules T KX G base).mono (by decide)
    · exact (k_law_sets T KX G base).mono (by decide)
    · exact (k_law_ground T KX G base).mono (by decide)
end
end K16
open PySem PySem.W PyProof.Rows Pk
set_option maxHeartbeats 0 in
theorem PySem.Challenge.cw_cornerpick_k16_whole_even_and_odd_holds : PySem.Challenge.rw_cornerpick_k16_whole_even_and_odd.Holds := by
  w_on; o_law; k_head; (case hw => w_witness2)
  k_fill
  refine Pk.walk_law (l := PySem.Challenge.rw_cornerpick_k16_whole_even_and_odd) (n := 63) (k := 18) (x := "_law_script") (g := K16.g_law) rfl (by decide) rfl ⟨rfl, by decide, by decide⟩ (fun w h Y => PySem.W.kIn_of Y) K16.law_true ?F
  case F =>
    intro w mg fa h KX G hmg
    refine' K16.k_law ⟨Pk.defAt_mk ?a0 ?l0 ?c0 ?k0, Pk.defAt_mk ?a1 ?l1 ?c1 ?k1, Pk.defAt_mk ?a2 ?l2 ?c2 ?k2, Pk.defAt_mk ?a3 ?l3 ?c3 ?k3, Pk.defAt_mk ?a4 ?l4 ?c4 ?k4, Pk.defAt_mk ?a5 ?l5 ?c5 ?k5, Pk.defAt_mk ?a6 ?l6 ?c6 ?k6, Pk.defAt_mk ?a7 ?l7 ?c7 ?k7, Pk.defAt_mk ?a8 ?l8 ?c8 ?k8, Pk.defAt_mk ?a9 ?l9 ?c9 ?k9, Pk.defAt_mk ?a10 ?l10 ?c10 ?k10, Pk.defAt_mk ?a11 ?l11 ?c11 ?k11, Pk.defAt_mk ?a12 ?l12 ?c12 ?k12, Pk.defAt_mk ?a13 ?l13 ?c13 ?k13, Pk.defAt_mk ?a14 ?l14 ?c14 ?k14, Pk.defAt_mk ?a15 ?l15 ?c15 ?k15, ?z⟩ KX G hmg
    (case a0 => k_is); (case l0 => k_is); (case c0 => k_is); (case k0 => k_is)
    (case a1 => k_is); (case l1 => k_is); (case c1 => k_is); (case k1 => k_is)
    (case a2 => k_is); (case l2 => k_is); (case c2 => k_is); (case k2 => k_is)
    (case a3 => k_is); (case l3 => k_is); (case c3 => k_is); (case k3 => k_is)
    (case a4 => k_is); (case l4 => k_is); (case c4 => k_is); (case k4 => k_is)
    (case a5 => k_is); (case l5 => k_is); (case c5 => k_is); (case k5 => k_is)
    (case a6 => k_is); (case l6 => k_is); (case c6 => k_is); (case k6 => k_is)
    (case a7 => k_is); (case l7 => k_is); (case c7 => k_is); (case k7 => k_is)
    (case a8 => k_is); (case l8 => k_is); (case c8 => k_is); (case k8 => k_is)
    (case a9 => k_is); (case l9 => k_is); (case c9 => k_is); (case k9 => k_is)
    (case a10 => k_is); (case l10 => k_is); (case c10 => k_is); (case k10 => k_is)
    (case a11 => k_is); (case l11 => k_is); (case c11 => k_is); (case k11 => k_is)
    (case a12 => k_is); (case l12 => k_is); (case c12 => k_is); (case k12 => k_is)
    (case a13 => k_is); (case l13 => k_is); (case c13 => k_is); (case k13 => k_is)
    (case a14 => k_is); (case l14 => k_is); (case c14 => k_is); (case k14 => k_is)
    (case a15 => k_is); (case l15 => k_is); (case c15 => k_is); (case k15 => k_is)
    case z =>
      intro y hy
      simp only [K16.blts, List.mem_cons, List.not_mem_nil, or_false] at hy
      rcases hy with rfl | rfl | rfl | rfl | rfl | rfl | rfl | rfl | rfl | rfl | rfl | rfl | rfl
      · k_is
      · k_is
      · k_is
      · k_is
      · k_is
      · k_is
      · k_is
      · k_is
      · k_is
      · k_is
      · k_is
      · k_is
      · k_is
