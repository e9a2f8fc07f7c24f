import PyProof.Rows.All
import PyProof.ExcBaseAll.ValueError
import PyProof.ExcClass3
import PyProof.InstStoreFacts
import PyProof.ReprLen
import PyProof.Rows.BitMore
import PyProof.Rows.StrJoinMade
import KE.BitLaws
import KE.BytesMake
import KE.BytesMulAny
import KE.KItem
import KE.KxMul
import KE.KBytesCut
import KE.KBytesMore
import KE.RegLcTurns
import KE.KItemAt
import KE.KSliceW
import KE.KRevSl
import KE.KStateDown
import Wide.FinOn
import OpenK.AllK
import Wide.All
import PySem.Challenge.RW_no0097_01
set_option Elab.async false
section
namespace Mine
theorem yA {α : Type _} {a : α} {as : List α} : (a :: as).length = as.length + 1:=rfl
theorem yB {α : Type _} : ([] : List α).length = 0:=rfl
theorem yC {α β : Type _} {f : α -> β} {a : α} {l : List α} : (a :: l).map f = f a :: l.map f:=rfl
theorem yD {α β : Type _} {f : α -> β} : ([] : List α).map f = []:=rfl
theorem yE {α : Type _} {a : α} {as bs : List α} : (a :: as) ++ bs = a :: (as ++ bs):=rfl
theorem yF {α : Type _} (as : List α) : [] ++ as = as:=rfl
theorem yG {α β : Type _} {as : List α} (f : α -> β) : (as.map f).length = as.length:=List.length_map f
theorem yH {α : Type _} {as bs : List α} : (as ++ bs).length = as.length + bs.length:=List.length_append
theorem yI {α : Type _} {l : List α} {i : Nat} (h : i < l.length) : l[i]? = some l[i]:=List.getElem?_eq_getElem h
theorem yJ {α : Type _} {l : List α} {i : Nat} {a : α} : l.getD i a = l[i]?.getD a:=List.getD_eq_getElem?_getD
theorem yK {n m k : Nat} (h : n < m) (g : m <= k) : n < k:=Nat.lt_of_lt_of_le h g
theorem yL {n m k : Nat} (h : n <= m) (g : m <= k) : n <= k:=Nat.le_trans h g
theorem yM (n : Nat) : n <= n:=Nat.le_refl n
theorem yN {p : Prop} (h : ¬ p -> False) : p:=Classical.byContradiction h
end Mine
end
section
open PySem
namespace Mine
inductive PV where
 | none
 | bool (b : Bool)
 | int (i : Int)
 | str (s : Str)
 | byt (b : List UInt8)
 | tup (vs : List PV)
 | ref (i : Nat)
 | ints (ns : List Int)
inductive AO where
 | dead
 | list (vs : List PV)
 | inst (C : Nat) (fs : List (Nat × PV))
 | barr (b : List UInt8)
structure AS where
 loc : List (Option PV)
 mem : Nat -> AO
 nxt : Nat
inductive Res (α : Type) where
 | ok (a : α) (s : AS)
 | exc (C : Nat) (s : AS)
 | stuck (why : String)
noncomputable abbrev M (α : Type):=AS -> Res α
inductive Fl where
 | nx
 | rt (v : PV)
noncomputable def upd (m : Nat -> AO) (i : Nat) (o : AO) : Nat -> AO:=fun j => if j = i then o else m j
section
variable {α β : Type}
noncomputable def bnd (m : M α) (f : α -> M β) : M β:=fun s => match m s with
 | .ok a s' => f a s'
 | .exc c s' => .exc c s'
 | .stuck w => .stuck w
noncomputable def ret (a : α) : M α:=fun s => .ok a s
noncomputable def newO (o : AO) : M PV:=fun s => .ok (.ref s.nxt) ⟨s.loc, upd s.mem s.nxt o, s.nxt + 1⟩
noncomputable def setO (i : Nat) (o : AO) : M Unit:=fun s => .ok () ⟨s.loc, upd s.mem i o, s.nxt⟩
noncomputable def evs : List (M PV) -> M (List PV)
 | [] => ret []
 | m :: r => bnd m fun v => bnd (evs r) fun vs => ret (v :: vs)
end
inductive Op where
 | add | sub | mul | fdiv | mod | pow | shl | shr | band | bor
inductive Cm where
 | eq | ne | lt | le | gt | ge
noncomputable def intOp : Op -> Int -> Int -> Option Int
 | .add, a, b => some (a + b)
 | .sub, a, b => some (a - b)
 | .mul, a, b => if a.natAbs < 2 ^ 64 \/ b.natAbs < 2 ^ 64 then some (a * b) else none
 | .fdiv, a, b => if b ≠ 0 /\ b.natAbs < 2 ^ 2048 then some (a.fdiv b) else none
 | .mod, a, b => if b ≠ 0 then some (a.fmod b) else none
 | .pow, a, b => @ite _ (0 <= b /\ b <= 1000000 /\ a.natAbs < 2 ^ 64) (Classical.propDecidable _) (some (a ^ b.toNat)) none
 | .shl, a, b => @ite _ (0 <= b /\ b <= 1000000 /\ a.natAbs < 2 ^ 64) (Classical.propDecidable _) (some (a * 2 ^ b.toNat)) none
 | .shr, a, b => if 0 <= b then some (a.fdiv (2 ^ b.toNat)) else none
 | .band, a, b => some (Builtin.bitAnd a b)
 | .bor, a, b => some (Builtin.bitOr a b)
noncomputable def dcd (p : Prop) : Bool:=@decide p (Classical.propDecidable p)
theorem dcd_eq (p : Prop) [Decidable p] : dcd p = decide p:=decide_eq_decide.mpr Iff.rfl
theorem dcd_iff {p : Prop} : dcd p = true ↔ p:=@decide_eq_true_iff p (Classical.propDecidable p)
noncomputable def intCm : Cm -> Int -> Int -> Bool
 | .eq, a, b => a == b
 | .ne, a, b => a != b
 | .lt, a, b => dcd (a < b)
 | .le, a, b => dcd (a <= b)
 | .gt, a, b => dcd (b < a)
 | .ge, a, b => dcd (b <= a)
theorem intCm_eq (c : Cm) (a b : Int) : intCm c a b = match c with
 | .eq => a == b
 | .ne => a != b
 | .lt => decide (a < b)
 | .le => decide (a <= b)
 | .gt => decide (b < a)
 | .ge => decide (b <= a):=by cases c <;> first | rfl | exact dcd_eq _
noncomputable def rep {α : Type} (l : List α) (n : Int) : List α:=(List.replicate n.toNat l).flatten
noncomputable def zLs : Nat:=2 ^ 20
noncomputable def okBound (k : Int) : Bool:=dcd (0 <= k /\ k < zLs)
noncomputable def binM (op : Op) (a b : PV) : M PV:=fun s => match a, b with
 | .int x, .int y => match intOp op x y with
  | some z => .ok (.int z) s
  | none => .stuck "int op"
 | .byt x, .byt y => match op with
  | .add => if x.length + y.length <= zLs then .ok (.byt (x ++ y)) s else .stuck "bytes +"
  | _ => .stuck "bytes op"
 | .byt x, .int y => match op with
  | .mul => if x.length = 1 /\ 0 <= y /\ y <= zLs then .ok (.byt (rep x y)) s else .stuck "bytes *"
  | _ => .stuck "bytes op"
 | .ref i, .int y => match op, s.mem i with
  | .mul, .list vs => if vs.length = 1 /\ 0 <= y /\ y <= zLs then newO (.list (rep vs y)) s else .stuck "list *"
  | _, _ => .stuck "list op"
 | .ref i, .ref j => match op, s.mem i, s.mem j with
  | .add, .list vs, .list us => if vs.length + us.length <= zLs then newO (.list (vs ++ us)) s else .stuck "list +"
  | _, _, _ => .stuck "ref op"
 | _, _ => .stuck "binary op"
noncomputable def allInts : List PV -> Option (List Int)
 | [] => some []
 | .int i :: r => (allInts r).map (i :: ·)
 | _ => none
noncomputable def cmpM (c : Cm) (a b : PV) : M Bool:=fun s => match a, b with
 | .int x, .int y => .ok (intCm c x y) s
 | .byt x, .byt y => match c with
  | .eq => .ok (x == y) s
  | .ne => .ok (x != y) s
  | _ => .stuck "bytes cmp"
 | .str x, .str y => match c with
  | .eq => .ok (x == y) s
  | .ne => .ok (x != y) s
  | _ => .stuck "str cmp"
 | .ref i, .ref j => match s.mem i, s.mem j with
  | .list vs, .list us => match allInts vs, allInts us with
   | some ns, some ms => if ns.length <= zLs /\ ms.length <= zLs then (match c with
    | .eq => .ok (decide (ns = ms)) s
    | .ne => .ok (!decide (ns = ms)) s
    | _ => .stuck "list cmp") else .stuck "list cmp size"
   | _, _ => .stuck "list cmp: not ints"
  | _, _ => .stuck "ref cmp"
 | _, _ => .stuck "cmp"
noncomputable def truthM (v : PV) : M Bool:=fun s => match v with
 | .bool b => .ok b s
 | .int i => .ok (i != 0) s
 | .none => .ok false s
 | _ => .stuck "truth"
noncomputable def eK (v : PV) : M PV:=ret v
noncomputable def eL (i : Nat) : M PV:=fun s => match s.loc[i]? with
 | some (some v) => .ok v s
 | _ => .stuck "unbound"
noncomputable def eBin (op : Op) (a b : M PV) : M PV:=bnd a fun x => bnd b fun y => binM op x y
noncomputable def eNeg (a : M PV) : M PV:=bnd a fun x => match x with
 | .int i => ret (.int (-i))
 | _ => fun _ => .stuck "neg"
noncomputable def tChain : M PV -> List (Cm × M PV) -> M Bool
 | _, [] => fun _ => .stuck "chain"
 | a, (c, b) :: r => bnd a fun x => go x c b r
where
 go (x : PV) (c : Cm) (b : M PV) : List (Cm × M PV) -> M Bool
  | [] => bnd b fun y => cmpM c x y
  | (c', b') :: r => bnd b fun y => bnd (cmpM c x y) fun t => if t then go y c' b' r else ret false
noncomputable def tCmp (c : Cm) (a b : M PV) : M Bool:=bnd a fun x => bnd b fun y => cmpM c x y
noncomputable def isN : PV -> Bool
 | .none => true
 | _ => false
noncomputable def tIsNone (a : M PV) : M Bool:=bnd a fun x => ret (isN x)
noncomputable def tNotIn (a : M PV) (l : List Int) : M Bool:=bnd a fun x => match x with
 | .int i => ret (!l.contains i)
 | _ => fun _ => .stuck "in"
noncomputable def tVal (a : M PV) : M Bool:=bnd a truthM
noncomputable def tNot (a : M Bool) : M Bool:=bnd a fun b => ret (!b)
noncomputable def tAnd (a b : M Bool) : M Bool:=bnd a fun t => if t then b else ret false
noncomputable def tOr (a b : M Bool) : M Bool:=bnd a fun t => if t then ret true else b
noncomputable def eB (t : M Bool) : M PV:=bnd t fun b => ret (.bool b)
noncomputable def eIf (t : M Bool) (a b : M PV) : M PV:=bnd t fun c => if c then a else b
noncomputable def eCall (F : List PV -> M PV) (args : List (M PV)) : M PV:=bnd (evs args) F
noncomputable def eMeth (C : Nat) (F : List PV -> M PV) (o : M PV) (args : List (M PV)) : M PV:=bnd o fun v => fun s => match v with
 | .ref i => match s.mem i with
  | .inst D _ => if D = C then bnd (evs args) (fun vs => F (v :: vs)) s else .stuck "method: class"
  | _ => .stuck "method: object"
 | _ => .stuck "method"
noncomputable def eNew (C : Nat) (F : List PV -> M PV) (args : List (M PV)) : M PV:=bnd (evs args) fun vs => bnd (newO (.inst C [])) fun x => bnd (F (x :: vs)) fun r => match r with
 | .none => ret x
 | _ => fun _ => .stuck "__init__"
noncomputable def getF (k : Nat) : List (Nat × PV) -> Option PV
 | [] => none
 | (j, v) :: r => if j = k then some v else getF k r
noncomputable def putF (k : Nat) (v : PV) : List (Nat × PV) -> List (Nat × PV)
 | [] => [(k, v)]
 | (j, u) :: r => if j = k then (j, v) :: r else (j, u) :: putF k v r
noncomputable def attrM (k : Nat) (v : PV) : M PV:=fun s => match v with
 | .ref i => match s.mem i with
  | .inst _ fs => match getF k fs with
   | some u => .ok u s
   | none => .stuck "attribute"
  | _ => .stuck "attribute: object"
 | _ => .stuck "attribute"
noncomputable def eAttr (o : M PV) (k : Nat) : M PV:=bnd o (attrM k)
noncomputable def setAttrM (k : Nat) (o v : PV) : M Unit:=fun s => match o with
 | .ref i => match s.mem i with
  | .inst C fs => if (putF k v fs).length <= 900 then setO i (.inst C (putF k v fs)) s else .stuck "many fields"
  | _ => .stuck "store: object"
 | _ => .stuck "store"
noncomputable def idx {α : Type} (l : List α) (k : Int) : Option α:=match k with
 | .ofNat j => if j < zLs then l[j]? else none
 | .negSucc _ => none
theorem idx_eq {α : Type} (l : List α) (k : Int) : idx l k = if 0 <= k /\ k < zLs then l[k.toNat]? else none:=by
 cases k with
 | ofNat j =>
  by_cases h : j < zLs
  ·rw [if_pos ⟨Int.natCast_nonneg j, Int.ofNat_lt.mpr h⟩]; exact if_pos h
  ·rw [if_neg fun q => h (Int.ofNat_lt.mp q.2)]; exact if_neg h
 | negSucc j => rw [if_neg fun q => by cases q.1]; rfl
noncomputable def subM (a b : PV) : M PV:=fun s => match a, b with
 | .tup vs, .int k => match idx vs k with
  | some v => .ok v s
  | none => .stuck "tuple item"
 | .byt bs, .int k => match (if bs.length <= zLs then idx bs k else none) with
  | some v => .ok (.int v.toNat) s
  | none => .stuck "bytes item"
 | .ref i, .int k => match s.mem i with
  | .list vs => match idx vs k with
   | some v => .ok v s
   | none => .stuck "list item"
  | _ => .stuck "item: object"
 | _, _ => .stuck "item"
noncomputable def eSub (a b : M PV) : M PV:=bnd a fun x => bnd b fun y => subM x y
noncomputable def loN : Option Int -> Nat
 | some k => k.toNat
 | none => 0
noncomputable def hiL {α : Type} (l : List α) : Option Int -> List α
 | some h => l.take h.toNat
 | none => l
noncomputable def cutL {α : Type} (l : List α) (lo hi : Option Int) : Option (List α) :=
 if lo.all okBound && hi.all okBound && decide (l.length <= zLs) then some ((hiL l hi).drop (loN lo)) else none
noncomputable def cutM (a : PV) (lo hi : Option Int) : M PV:=fun s => match a with
 | .ints ns => match cutL ns lo hi with
  | some r => newO (.list (r.map .int)) s
  | none => .stuck "slice"
 | .byt bs => match cutL bs lo hi with
  | some r => .ok (.byt r) s
  | none => .stuck "slice"
 | .ref i => match s.mem i with
  | .list vs => match cutL vs lo hi with
   | some r => newO (.list r) s
   | none => .stuck "slice"
  | _ => .stuck "slice: object"
 | _ => .stuck "slice"
noncomputable def optI : Option (M PV) -> M (Option Int)
 | none => ret none
 | some m => bnd m fun v => match v with
  | .int i => ret (some i)
  | _ => fun _ => .stuck "slice bound"
noncomputable def eCut (a : M PV) (lo hi : Option (M PV)) : M PV:=bnd a fun x => bnd (optI lo) fun l => bnd (optI hi) fun h => cutM x l h
noncomputable def revM (x : PV) : M PV:=fun s => match x with
 | .ref i => match s.mem i with
  | .list vs => if vs.length <= zLs then newO (.list vs.reverse) s else .stuck "reverse"
  | _ => .stuck "reverse: object"
 | _ => .stuck "reverse"
noncomputable def eRev (a : M PV) : M PV:=bnd a revM
noncomputable def eTup (es : List (M PV)) : M PV:=bnd (evs es) fun vs => ret (.tup vs)
noncomputable def eList (es : List (M PV)) : M PV:=bnd (evs es) fun vs => newO (.list vs)
noncomputable def fLen (v : PV) : M PV:=fun s => match v with
 | .ints ns => if ns.length <= zLs then .ok (.int ns.length) s else .stuck "len"
 | .byt bs => if bs.length <= zLs then .ok (.int bs.length) s else .stuck "len"
 | .ref i => match s.mem i with
  | .list vs => if vs.length <= zLs then .ok (.int vs.length) s else .stuck "len"
  | .barr bs => if bs.length <= zLs then .ok (.int bs.length) s else .stuck "len"
  | _ => .stuck "len: object"
 | _ => .stuck "len"
noncomputable def eLen (a : M PV) : M PV:=bnd a fLen
noncomputable def minM (x y : PV) : M PV:=match x, y with
 | .int i, .int j => ret (.int (if j < i then j else i))
 | _, _ => fun _ => .stuck "min"
noncomputable def eMin (a b : M PV) : M PV:=bnd a fun x => bnd b fun y => minM x y
noncomputable def maxM (x y : PV) : M PV:=match x, y with
 | .int i, .int j => ret (.int (if i < j then j else i))
 | _, _ => fun _ => .stuck "max"
noncomputable def eMax (a b : M PV) : M PV:=bnd a fun x => bnd b fun y => maxM x y
noncomputable def eIntB (t : M Bool) : M PV:=bnd t fun b => ret (.int (if b then 1 else 0))
noncomputable def sumM (x : PV) : M PV:=fun s => match x with
 | .byt bs => if bs.length <= zLs then .ok (.int (bs.map fun b => (b.toNat : Int)).sum) s else .stuck "sum"
 | .ref i => match s.mem i with
  | .list vs => match allInts vs with
   | some ns => if ns.length <= zLs then .ok (.int ns.sum) s else .stuck "sum: long"
   | none => .stuck "sum: not ints"
  | _ => .stuck "sum: object"
 | _ => .stuck "sum"
noncomputable def eSum (a : M PV) : M PV:=bnd a sumM
noncomputable def toBytes : List PV -> Option (List UInt8)
 | [] => some []
 | .int i :: r => if 0 <= i /\ i < 256 then (toBytes r).map (UInt8.ofNat i.toNat :: ·) else none
 | _ => none
noncomputable def bytesM (x : PV) : M PV:=fun s => match x with
 | .byt bs => .ok (.byt bs) s
 | .ref i => match s.mem i with
  | .barr bs => if bs.length <= zLs then .ok (.byt bs) s else .stuck "bytes"
  | .list vs => match toBytes vs with
   | some bs => if bs.length <= zLs then .ok (.byt bs) s else .stuck "bytes"
   | none => .stuck "bytes: items"
  | _ => .stuck "bytes: object"
 | _ => .stuck "bytes"
noncomputable def eBytes (a : M PV) : M PV:=bnd a bytesM
noncomputable def eBarr : M PV:=newO (.barr [])
noncomputable def listOfM (x : PV) : M PV:=fun s => match x with
 | .ref i => match s.mem i with
  | .list vs => if vs.length <= zLs then newO (.list vs) s else .stuck "list()"
  | _ => .stuck "list(): object"
 | _ => .stuck "list()"
noncomputable def eListOf (a : M PV) : M PV:=bnd a listOfM
noncomputable def dataInts : List PV -> Option (List PySem.PyData)
 | [] => some []
 | .int i :: r => (dataInts r).map (.int i :: ·)
 | _ => none
noncomputable def dataOf1 (mem : Nat -> AO) : PV -> Option PySem.PyData
 | .none => some .none
 | .bool b => some (.bool b)
 | .int i => some (.int i)
 | .str s => some (.str s)
 | .ref i => match mem i with
  | .list vs => (dataInts vs).map .list
  | _ => none
 | _ => none
noncomputable def dataOfL (mem : Nat -> AO) : List PV -> Option (List PySem.PyData)
 | [] => some []
 | .tup [a, b] :: r => match dataOf1 mem a, dataOf1 mem b, dataOfL mem r with
  | some x, some y, some z => some (.tuple [x, y] :: z)
  | _, _, _ => none
 | a :: r => match dataOf1 mem a, dataOfL mem r with
  | some x, some z => some (x :: z)
  | _, _ => none
noncomputable def reprM (x : PV) : M PV:=fun s => match x with
 | .tup vs => match dataOfL s.mem vs with
  | some ds => if (PySem.PyData.tuple ds).shown.length <= zLs /\ (PySem.PyData.tuple ds).showable = true /\ (PySem.PyData.tuple ds).hasDict = false /\ (PySem.PyData.tuple ds).depth <= 10 then .ok (.str (PySem.PyData.tuple ds).shown) s else .stuck "repr: long"
  | none => .stuck "repr: data"
 | _ => .stuck "repr"
noncomputable def eRepr (a : M PV) : M PV:=bnd a reprM
noncomputable def extendM (v y : PV) : M PV:=fun s => match v, y with
 | .ref i, .byt cs => match s.mem i with
  | .barr bs => if bs.length + cs.length < zLs then bnd (setO i (.barr (bs ++ cs))) (fun _ => ret .none) s else .stuck "extend"
  | _ => .stuck "extend: object"
 | _, _ => .stuck "extend"
noncomputable abbrev P:=AS -> Option PV
noncomputable def pK (v : PV) : P:=fun _ => some v
noncomputable def pL (i : Nat) : P:=fun s => match s.loc[i]? with
 | some (some v) => some v
 | _ => none
noncomputable def pBin (op : Op) (a b : P) : P:=fun s => match a s, b s with
 | some (.int x), some (.int y) => (intOp op x y).map .int
 | _, _ => none
noncomputable def pSub (a b : P) : P:=fun s => match a s, b s with
 | some (.byt bs), some (.int k) => if bs.length <= zLs then (idx bs k).map fun v => .int v.toNat else none
 | some (.ref i), some (.int k) => match s.mem i with
  | .list vs => idx vs k
  | _ => none
 | _, _ => none
noncomputable def pAbs (a : P) : P:=fun s => match a s with
 | some (.int x) => some (.int x.natAbs)
 | _ => none
noncomputable def comp (elt : PV -> P) (s : AS) : List PV -> Option (List PV)
 | [] => some []
 | v :: r => match elt v s, comp elt s r with
  | some u, some us => some (u :: us)
  | _, _ => none
noncomputable def rangeL (a b c : Int) : List Int :=
 if c = 1 then (List.range (b - a).toNat).map (fun (k : Nat) => a + (k : Int))
 else (List.range (a - b).toNat).map (fun (k : Nat) => a - (k : Int))
noncomputable def smallI (a : Int) : Bool:=dcd (-(2 ^ 40) < a /\ a < 2 ^ 40)
noncomputable def rangeK : List PV -> Option (Int × Int × List Int)
 | [.int b] => if smallI b && decide ((rangeL 0 b 1).length <= zLs) then some (0, 1, rangeL 0 b 1) else none
 | [.int a, .int b] => if smallI a && smallI b && decide ((rangeL a b 1).length <= zLs) then some (a, 1, rangeL a b 1) else none
 | [.int a, .int b, .int c] => if smallI a && smallI b && decide (c = -1) && decide ((rangeL a b (-1)).length <= zLs) then some (a, -1, rangeL a b (-1)) else none
 | _ => none
noncomputable def rangeM (args : List (M PV)) : M (List Int):=bnd (evs args) fun vs s => match rangeK vs with
 | some r => .ok r.2.2 s
 | none => .stuck "range"
noncomputable abbrev S:=M Fl
noncomputable def setL (i : Nat) (v : PV) : M Unit:=fun s => if i < s.loc.length then .ok () ⟨s.loc.set i (some v), s.mem, s.nxt⟩ else .stuck "local"
noncomputable def setLs : List Nat -> List PV -> M Unit
 | [], [] => ret ()
 | i :: is, v :: vs => bnd (setL i v) fun _ => setLs is vs
 | _, _ => fun _ => .stuck "unpack"
noncomputable def nx : S:=ret .nx
noncomputable def sSeq : List S -> S
 | [] => nx
 | a :: r => bnd a fun f => match f with
  | .nx => sSeq r
  | .rt v => ret (.rt v)
noncomputable def sAsg (i : Nat) (e : M PV) : S:=bnd e fun v => bnd (setL i v) fun _ => nx
noncomputable def sSwap (is : List Nat) (es : List (M PV)) : S:=bnd (evs es) fun vs => bnd (setLs is.reverse vs.reverse) fun _ => nx
noncomputable def unpackM (is : List Nat) (v : PV) : M Unit:=match v with
 | .tup vs => if vs.length = is.length then setLs is vs else fun _ => .stuck "unpack"
 | _ => fun _ => .stuck "unpack"
noncomputable def sUnp (is : List Nat) (e : M PV) : S:=bnd e fun v => bnd (unpackM is v) fun _ => nx
noncomputable def sAsgA (o : M PV) (k : Nat) (e : M PV) : S:=bnd e fun v => bnd o fun x => bnd (setAttrM k x v) fun _ => nx
noncomputable def setSubM (a b v : PV) : M Unit:=fun s => match a, b with
 | .ref i, .int k => match s.mem i with
  | .list vs => if 0 <= k /\ k < vs.length /\ vs.length <= zLs then setO i (.list (vs.set k.toNat v)) s else .stuck "store: index"
  | _ => .stuck "store: object"
 | _, _ => .stuck "store"
noncomputable def sAsgS (a b : M PV) (e : M PV) : S:=bnd e fun v => bnd a fun x => bnd b fun y => bnd (setSubM x y v) fun _ => nx
noncomputable def setSubs : List (M PV × M PV) -> List PV -> M Unit
 | [], [] => ret ()
 | (a, b) :: r, v :: vs => bnd a fun x => bnd b fun y => bnd (setSubM x y v) fun _ => setSubs r vs
 | _, _ => fun _ => .stuck "unpack"
noncomputable def sAsgSs (ts : List (M PV × M PV)) (es : List (M PV)) : S:=bnd (evs es) fun vs => bnd (setSubs ts vs) fun _ => nx
noncomputable def augM (op : Op) (x y : PV) : M PV:=fun s => match x, y with
 | .int a, .int b => match intOp op a b with
  | some z => .ok (.int z) s
  | none => .stuck "int op"
 | _, _ => .stuck "augmented"
noncomputable def sAug (i : Nat) (op : Op) (e : M PV) : S:=bnd (eL i) fun x => bnd e fun y => bnd (augM op x y) fun z => bnd (setL i z) fun _ => nx
noncomputable def sAugA (o : M PV) (k : Nat) (op : Op) (e : M PV) : S:=bnd o fun ob => bnd (attrM k ob) fun x => bnd e fun y => bnd (augM op x y) fun z => bnd (setAttrM k ob z) fun _ => nx
noncomputable def sIf (t : M Bool) (a b : List S) : S:=bnd t fun c => if c then sSeq a else sSeq b
noncomputable def sWhile (t : M Bool) (a : List S) : Nat -> S
 | 0 => fun _ => .stuck "while"
 | n + 1 => bnd t fun c => if c then (bnd (sSeq a) fun f => match f with
  | .nx => sWhile t a n
  | .rt v => ret (.rt v)) else nx
noncomputable def forL (tgt : PV -> M Unit) (body : S) : List PV -> S
 | [] => nx
 | v :: r => bnd (tgt v) fun _ => bnd body fun f => match f with
  | .nx => forL tgt body r
  | .rt u => ret (.rt u)
noncomputable def sForR (i : Nat) (args : List (M PV)) (body : List S) : S:=bnd (rangeM args) fun ks => forL (setL i) (sSeq body) (ks.map .int)
noncomputable def forLive (tgt : PV -> M Unit) (body : S) (i : Nat) : Nat -> Nat -> S
 | 0, _ => fun _ => .stuck "for"
 | n + 1, k => fun s => match s.mem i with
  | .list vs => match vs[k]? with
   | some v => bnd (tgt v) (fun _ => bnd body fun f => match f with
    | .nx => forLive tgt body i n (k + 1)
    | .rt u => ret (.rt u)) s
   | none => nx s
  | _ => .stuck "for: object"
noncomputable def forVM (tgt : PV -> M Unit) (body : S) (x : PV) : S:=fun s => match x with
 | .ref i => match s.mem i with
  | .list vs => if vs.length <= zLs then forLive tgt body i (vs.length + 1) 0 s else .stuck "for: long"
  | _ => .stuck "for: object"
 | _ => .stuck "for: source"
noncomputable def sForV (tgt : PV -> M Unit) (e : M PV) (body : List S) : S:=bnd e (forVM tgt (sSeq body))
noncomputable def sRet (e : M PV) : S:=bnd e fun v => ret (.rt v)
noncomputable def sExp (e : M PV) : S:=bnd e fun v => match v with
 | .ref _ => fun _ => .stuck "a dropped object"
 | .tup _ => fun _ => .stuck "a dropped object"
 | .ints _ => fun _ => .stuck "a dropped object"
 | _ => nx
noncomputable def sRaise (C : Nat) : S:=fun s => .exc C s
noncomputable def sTry (body : List S) (hs : List (Nat × List S)) : S:=fun s => match sSeq body s with
 | .exc C s' => if C = 52 \/ C = 64 \/ C = 76 \/ C = 88 then go C hs s' else .stuck "another exception"
 | r => r
where
 go (C : Nat) : List (Nat × List S) -> S
  | [] => fun _ => .stuck "not caught"
  | (D, b) :: r => fun s => if C = D then sSeq b s else go C r s
noncomputable def fnM (n : Nat) (body : List S) (args : List PV) : M PV:=fun s =>
 match sSeq body ⟨args.map some ++ List.replicate (n - args.length) none, s.mem, s.nxt⟩ with
 | .ok .nx s' => .ok .none ⟨s.loc, s'.mem, s'.nxt⟩
 | .ok (.rt v) s' => .ok v ⟨s.loc, s'.mem, s'.nxt⟩
 | .exc C s' => .exc C ⟨s.loc, s'.mem, s'.nxt⟩
 | .stuck w => .stuck w
noncomputable def fnD (n ps : Nat) (dflt : List PV) (body : List S) (args : List PV) : M PV :=
 fnM n body (args ++ dflt.drop (args.length - (ps - dflt.length)))
noncomputable def appendLM (v y : PV) : M PV:=fun s => match v with
 | .ref i => match s.mem i with
  | .list vs => if vs.length < zLs then bnd (setO i (.list (vs ++ [y]))) (fun _ => ret .none) s else .stuck "append"
  | _ => .stuck "append: object"
 | _ => .stuck "append"
noncomputable def isListM (v : PV) : M Unit:=fun s => match v with
 | .ref i => match s.mem i with
  | .list _ => .ok () s
  | _ => .stuck "a method of no list"
 | _ => .stuck "a method of no list"
noncomputable def isBarrM (v : PV) : M Unit:=fun s => match v with
 | .ref i => match s.mem i with
  | .barr _ => .ok () s
  | _ => .stuck "a method of no bytearray"
 | _ => .stuck "a method of no bytearray"
noncomputable def eAppendL (o x : M PV) : M PV:=bnd o fun v => bnd (isListM v) fun _ => bnd x fun y => appendLM v y
noncomputable def appendBM (v y : PV) : M PV:=fun s => match v with
 | .ref i => match s.mem i with
  | .barr bs => match y with
   | .int k => if bs.length < zLs /\ 0 <= k /\ k < 256 then bnd (setO i (.barr (bs ++ [k.toNat.toUInt8]))) (fun _ => ret .none) s else .stuck "append"
   | _ => .stuck "append: kind"
  | _ => .stuck "append: object"
 | _ => .stuck "append"
noncomputable def eAppendB (o x : M PV) : M PV:=bnd o fun v => bnd (isBarrM v) fun _ => bnd x fun y => appendBM v y
noncomputable def eExtendB (o x : M PV) : M PV:=bnd o fun v => bnd (isBarrM v) fun _ => bnd x fun y => extendM v y
noncomputable def compZ (elt : PV -> P) (s : AS) (ks : List Int) : Option (List PV):=match comp elt s (ks.map .int) with
 | some us => if (allInts us).isSome then some us else none
 | none => none
noncomputable def compIM (elt : PV -> P) (x : PV) : M PV:=fun s => match x with
 | .ref i => match s.mem i with
  | .list vs => match allInts vs with
   | some ns => if ns.length <= zLs then (match compZ elt s ns with
    | some us => newO (.list us) s
    | none => .stuck "comprehension") else .stuck "comprehension: long"
   | none => .stuck "comprehension: items"
  | _ => .stuck "comprehension: object"
 | _ => .stuck "comprehension: source"
noncomputable def eCompI (e : M PV) (elt : PV -> P) : M PV:=bnd e (compIM elt)
noncomputable def compRM (elt : PV -> P) (ks : List Int) : M PV:=fun s => match compZ elt s ks with
 | some us => newO (.list us) s
 | none => .stuck "comprehension"
noncomputable def eCompZ (args : List (M PV)) (elt : PV -> P) : M PV:=bnd (rangeM args) (compRM elt)
noncomputable def B_fresh_models : List S :=
 [sRet (eBin .mul (eList [(eK (.int 1024))]) (eL 0))]
noncomputable def F_fresh_models : List PV -> M PV:=fnM 1 B_fresh_models
noncomputable def B_next_model : List S :=
 [sIf (tCmp .eq (eL 1) (eK (.int 0))) [sRet (eBin .add (eL 0) (eBin .shr (eBin .sub (eK (.int 2048)) (eL 0)) (eK (.int 5))))] [],
 sRet (eBin .sub (eL 0) (eBin .shr (eL 0) (eK (.int 5))))]
noncomputable def F_next_model : List PV -> M PV:=fnM 2 B_next_model
noncomputable def B_need_bit : List S :=
 [sIf (tNotIn (eL 0) [0, 1]) [sRaise 88] []]
noncomputable def F_need_bit : List PV -> M PV:=fnM 1 B_need_bit
noncomputable def B_need_value : List S :=
 [sIf (tOr (tCmp .lt (eL 1) (eK (.int 0))) (tNot (tChain (eK (.int 0)) [(.le, (eL 0)), (.lt, (eBin .shl (eK (.int 1)) (eL 1)))]))) [sRaise 88] []]
noncomputable def F_need_value : List PV -> M PV:=fnM 2 B_need_value
noncomputable def B_RangeReader_octet : List S :=
 [sIf (tCmp .ge (eAttr (eL 0) 9) (eAttr (eL 0) 7)) [sRaise 52] [],
 sAugA (eL 0) 9 .add (eK (.int 1)),
 sRet (eSub (eAttr (eL 0) 6) (eBin .sub (eAttr (eL 0) 9) (eK (.int 1))))]
noncomputable def F_RangeReader_octet : List PV -> M PV:=fnM 1 B_RangeReader_octet
noncomputable def B_RangeReader_init : List S :=
 [sAsgA (eL 0) 6 (eBytes (eL 1)),
 sAsgA (eL 0) 7 (eIf (tIsNone (eL 3)) (eLen (eAttr (eL 0) 6)) (eL 3)),
 sIf (tNot (tChain (eK (.int 0)) [(.le, (eL 2)), (.le, (eAttr (eL 0) 7)), (.le, (eLen (eAttr (eL 0) 6)))])) [sRaise 88] [],
 sAsgA (eL 0) 8 (eL 2),
 sAsgA (eL 0) 9 (eL 2),
 sAsgA (eL 0) 2 (eK (.int 4294967295)),
 sAsgA (eL 0) 10 (eK (.int 0)),
 sIf (tCmp .ne (eMeth 199 F_RangeReader_octet (eL 0) []) (eK (.int 0))) [sRaise 76] [],
 sForR 4 [(eBin .sub (eK (.int 5)) (eK (.int 1)))] [sAsgA (eL 0) 10 (eBin .bor (eBin .shl (eAttr (eL 0) 10) (eK (.int 8))) (eMeth 199 F_RangeReader_octet (eL 0) []))],
 sIf (tCmp .eq (eAttr (eL 0) 10) (eAttr (eL 0) 2)) [sRaise 64] []]
noncomputable def F_RangeReader_init : List PV -> M PV:=fnD 5 4 [(.int 0), .none] B_RangeReader_init
noncomputable def B_RangeReader_used : List S :=
 [sRet (eBin .sub (eAttr (eL 0) 9) (eAttr (eL 0) 8))]
noncomputable def F_RangeReader_used : List PV -> M PV:=fnM 1 B_RangeReader_used
noncomputable def B_RangeReader_ended : List S :=
 [sRet (eB (tCmp .eq (eAttr (eL 0) 10) (eK (.int 0))))]
noncomputable def F_RangeReader_ended : List PV -> M PV:=fnM 1 B_RangeReader_ended
noncomputable def B_RangeReader_fill : List S :=
 [sIf (tCmp .lt (eAttr (eL 0) 2) (eK (.int 16777216))) [sAugA (eL 0) 2 .shl (eK (.int 8)),
  sAsgA (eL 0) 10 (eBin .bor (eBin .shl (eAttr (eL 0) 10) (eK (.int 8))) (eMeth 199 F_RangeReader_octet (eL 0) []))] []]
noncomputable def F_RangeReader_fill : List PV -> M PV:=fnM 1 B_RangeReader_fill
noncomputable def B_RangeReader_bit : List S :=
 [sAsg 3 (eSub (eL 1) (eL 2)),
 sAsg 4 (eBin .mul (eBin .shr (eAttr (eL 0) 2) (eK (.int 11))) (eL 3)),
 sAsg 5 (eIntB (tCmp .ge (eAttr (eL 0) 10) (eL 4))),
 sIf (tCmp .eq (eL 5) (eK (.int 0))) [sAsgA (eL 0) 2 (eL 4)] [sAugA (eL 0) 2 .sub (eL 4),
  sAugA (eL 0) 10 .sub (eL 4)],
 sAsgS (eL 1) (eL 2) (eCall F_next_model [(eL 3), (eL 5)]),
 sExp (eMeth 199 F_RangeReader_fill (eL 0) []),
 sRet (eL 5)]
noncomputable def F_RangeReader_bit : List PV -> M PV:=fnM 6 B_RangeReader_bit
noncomputable def B_RangeReader_direct : List S :=
 [sAsg 2 (eK (.int 0)),
 sForR 3 [(eL 1)] [sAugA (eL 0) 2 .shr (eK (.int 1)),
  sAsg 4 (eIntB (tCmp .ge (eAttr (eL 0) 10) (eAttr (eL 0) 2))),
  sIf (tCmp .eq (eL 4) (eK (.int 1))) [sAugA (eL 0) 10 .sub (eAttr (eL 0) 2),
  sIf (tCmp .ge (eAttr (eL 0) 10) (eAttr (eL 0) 2)) [sRaise 64] []] [],
  sAsg 2 (eBin .bor (eBin .shl (eL 2) (eK (.int 1))) (eL 4)),
  sExp (eMeth 199 F_RangeReader_fill (eL 0) [])],
 sRet (eL 2)]
noncomputable def F_RangeReader_direct : List PV -> M PV:=fnM 5 B_RangeReader_direct
noncomputable def B_RangeReader_tree : List S :=
 [sAsg 4 (eK (.int 1)),
 sForR 5 [(eL 3)] [sAsg 4 (eBin .bor (eBin .shl (eL 4) (eK (.int 1))) (eMeth 199 F_RangeReader_bit (eL 0) [(eL 1), (eBin .add (eL 2) (eL 4))]))],
 sRet (eBin .sub (eL 4) (eBin .shl (eK (.int 1)) (eL 3)))]
noncomputable def F_RangeReader_tree : List PV -> M PV:=fnM 6 B_RangeReader_tree
noncomputable def B_RangeReader_reverse : List S :=
 [sUnp [4, 5] (eTup [(eK (.int 1)), (eK (.int 0))]),
 sForR 6 [(eL 3)] [sAsg 7 (eMeth 199 F_RangeReader_bit (eL 0) [(eL 1), (eBin .add (eL 2) (eL 4))]),
  sAsg 4 (eBin .bor (eBin .shl (eL 4) (eK (.int 1))) (eL 7)),
  sAug 5 .bor (eBin .shl (eL 7) (eL 6))],
 sRet (eL 5)]
noncomputable def F_RangeReader_reverse : List PV -> M PV:=fnM 8 B_RangeReader_reverse
noncomputable def B_RangeWriter_init : List S :=
 [sAsgA (eL 0) 0 eBarr,
 sAsgA (eL 0) 1 (eK (.int 0)),
 sAsgA (eL 0) 2 (eK (.int 4294967295)),
 sAsgA (eL 0) 3 (eK (.int 0)),
 sAsgA (eL 0) 4 (eK (.int 1)),
 sAsgA (eL 0) 5 (eK (.bool false))]
noncomputable def F_RangeWriter_init : List PV -> M PV:=fnM 1 B_RangeWriter_init
noncomputable def B_RangeWriter_shift : List S :=
 [sIf (tOr (tCmp .lt (eAttr (eL 0) 1) (eK (.int 4278190080))) (tCmp .ge (eAttr (eL 0) 1) (eK (.int 4294967296)))) [sAsg 1 (eBin .shr (eAttr (eL 0) 1) (eK (.int 32))),
  sExp (eAppendB (eAttr (eL 0) 0) (eBin .band (eBin .add (eAttr (eL 0) 3) (eL 1)) (eK (.int 255)))),
  sExp (eExtendB (eAttr (eL 0) 0) (eBin .mul (eBytes (eList [(eBin .band (eBin .add (eK (.int 255)) (eL 1)) (eK (.int 255)))])) (eBin .sub (eAttr (eL 0) 4) (eK (.int 1))))),
  sAsgA (eL 0) 3 (eBin .band (eBin .shr (eAttr (eL 0) 1) (eK (.int 24))) (eK (.int 255))),
  sAsgA (eL 0) 4 (eK (.int 0))] [],
 sAugA (eL 0) 4 .add (eK (.int 1)),
 sAsgA (eL 0) 1 (eBin .shl (eBin .band (eAttr (eL 0) 1) (eBin .sub (eK (.int 16777216)) (eK (.int 1)))) (eK (.int 8)))]
noncomputable def F_RangeWriter_shift : List PV -> M PV:=fnM 2 B_RangeWriter_shift
noncomputable def B_RangeWriter_fill : List S :=
 [sIf (tCmp .lt (eAttr (eL 0) 2) (eK (.int 16777216))) [sAugA (eL 0) 2 .shl (eK (.int 8)),
  sExp (eMeth 283 F_RangeWriter_shift (eL 0) [])] []]
noncomputable def F_RangeWriter_fill : List PV -> M PV:=fnM 1 B_RangeWriter_fill
noncomputable def B_RangeWriter_need_open : List S :=
 [sIf (tVal (eAttr (eL 0) 5)) [sRaise 88] []]
noncomputable def F_RangeWriter_need_open : List PV -> M PV:=fnM 1 B_RangeWriter_need_open
noncomputable def B_RangeWriter_bit : List S :=
 [sExp (eCall F_need_bit [(eL 3)]),
 sExp (eMeth 283 F_RangeWriter_need_open (eL 0) []),
 sAsg 4 (eSub (eL 1) (eL 2)),
 sAsg 5 (eBin .mul (eBin .shr (eAttr (eL 0) 2) (eK (.int 11))) (eL 4)),
 sIf (tCmp .eq (eL 3) (eK (.int 0))) [sAsgA (eL 0) 2 (eL 5)] [sAugA (eL 0) 1 .add (eL 5),
  sAugA (eL 0) 2 .sub (eL 5)],
 sAsgS (eL 1) (eL 2) (eCall F_next_model [(eL 4), (eL 3)]),
 sExp (eMeth 283 F_RangeWriter_fill (eL 0) [])]
noncomputable def F_RangeWriter_bit : List PV -> M PV:=fnM 6 B_RangeWriter_bit
noncomputable def B_RangeWriter_direct : List S :=
 [sExp (eCall F_need_value [(eL 2), (eL 1)]),
 sExp (eMeth 283 F_RangeWriter_need_open (eL 0) []),
 sForR 3 [(eBin .sub (eL 1) (eK (.int 1))), (eNeg (eK (.int 1))), (eNeg (eK (.int 1)))] [sAugA (eL 0) 2 .shr (eK (.int 1)),
  sIf (tCmp .eq (eBin .band (eBin .shr (eL 2) (eL 3)) (eK (.int 1))) (eK (.int 1))) [sAugA (eL 0) 1 .add (eAttr (eL 0) 2)] [],
  sExp (eMeth 283 F_RangeWriter_fill (eL 0) [])]]
noncomputable def F_RangeWriter_direct : List PV -> M PV:=fnM 4 B_RangeWriter_direct
noncomputable def B_RangeWriter_tree : List S :=
 [sExp (eCall F_need_value [(eL 4), (eL 3)]),
 sAsg 5 (eK (.int 1)),
 sForR 6 [(eBin .sub (eL 3) (eK (.int 1))), (eNeg (eK (.int 1))), (eNeg (eK (.int 1)))] [sAsg 7 (eBin .band (eBin .shr (eL 4) (eL 6)) (eK (.int 1))),
  sExp (eMeth 283 F_RangeWriter_bit (eL 0) [(eL 1), (eBin .add (eL 2) (eL 5)), (eL 7)]),
  sAsg 5 (eBin .bor (eBin .shl (eL 5) (eK (.int 1))) (eL 7))]]
noncomputable def F_RangeWriter_tree : List PV -> M PV:=fnM 8 B_RangeWriter_tree
noncomputable def B_RangeWriter_reverse : List S :=
 [sExp (eCall F_need_value [(eL 4), (eL 3)]),
 sAsg 5 (eK (.int 1)),
 sForR 6 [(eL 3)] [sAsg 7 (eBin .band (eBin .shr (eL 4) (eL 6)) (eK (.int 1))),
  sExp (eMeth 283 F_RangeWriter_bit (eL 0) [(eL 1), (eBin .add (eL 2) (eL 5)), (eL 7)]),
  sAsg 5 (eBin .bor (eBin .shl (eL 5) (eK (.int 1))) (eL 7))]]
noncomputable def F_RangeWriter_reverse : List PV -> M PV:=fnM 8 B_RangeWriter_reverse
noncomputable def B_RangeWriter_size : List S :=
 [sRet (eBin .add (eLen (eAttr (eL 0) 0)) (eIf (tVal (eAttr (eL 0) 5)) (eK (.int 0)) (eBin .sub (eBin .add (eAttr (eL 0) 4) (eK (.int 5))) (eK (.int 1)))))]
noncomputable def F_RangeWriter_size : List PV -> M PV:=fnM 1 B_RangeWriter_size
noncomputable def B_RangeWriter_done : List S :=
 [sIf (tNot (tVal (eAttr (eL 0) 5))) [sForR 1 [(eK (.int 5))] [sExp (eMeth 283 F_RangeWriter_shift (eL 0) [])],
  sAsgA (eL 0) 5 (eK (.bool true))] [],
 sRet (eBytes (eAttr (eL 0) 0))]
noncomputable def F_RangeWriter_done : List PV -> M PV:=fnM 2 B_RangeWriter_done
noncomputable def B_law_acts : List S :=
 [sAsg 1 (eCompI (eCut (eL 0) none (some (eK (.int 11)))) (fun x => (pBin .mod (pAbs (pK x)) (pBin .pow (pK (.int 10)) (pK (.int 9)))))),
 sIf (tCmp .lt (eLen (eL 1)) (eK (.int 2))) [sAsg 1 (eBin .add (eL 1) (eCut (eList [(eK (.int 1656)), (eK (.int 45)), (eK (.int 86)), (eK (.int 7)), (eK (.int 49)), (eK (.int 62))]) (some (eLen (eL 1))) none))] [],
 sSwap [2, 3, 4] [(eSub (eL 1) (eK (.int 0))), (eCut (eL 1) (some (eK (.int 1))) none), (eList [])],
 sForR 5 [(eMin (eK (.int 10)) (eMax (eK (.int 3)) (eBin .mul (eK (.int 2)) (eLen (eL 0)))))] [sAsg 6 (eSub (eL 3) (eBin .mod (eL 5) (eLen (eL 3)))),
  sSwap [7, 8] [(eBin .mod (eL 6) (eK (.int 4))), (eBin .fdiv (eL 6) (eK (.int 4)))],
  sAsg 9 (eSub (eList [(eK (.int 1)), (eBin .add (eK (.int 1)) (eBin .mod (eL 8) (eK (.int 12)))), (eBin .add (eK (.int 1)) (eBin .mod (eL 8) (eK (.int 4)))), (eBin .add (eK (.int 1)) (eBin .mod (eL 8) (eK (.int 4))))]) (eL 7)),
  sAsg 10 (eSub (eList [(eBin .mod (eL 8) (eK (.int 4))), (eK (.int 0)), (eSub (eList [(eK (.int 4)), (eK (.int 24))]) (eBin .mod (eBin .fdiv (eL 8) (eK (.int 4))) (eK (.int 2)))), (eSub (eList [(eK (.int 44)), (eK (.int 64))]) (eBin .mod (eBin .fdiv (eL 8) (eK (.int 4))) (eK (.int 2))))]) (eL 7)),
  sExp (eAppendL (eL 4) (eTup [(eL 7), (eL 10), (eL 9), (eIf (tCmp .lt (eL 5) (eBin .mod (eL 2) (eK (.int 13)))) (eK .none) (eBin .mod (eBin .add (eBin .fdiv (eL 8) (eK (.int 12))) (eL 5)) (eBin .pow (eK (.int 2)) (eL 9))))]))],
 sRet (eTup [(eL 4), (eBin .add (eK (.int 1)) (eBin .mod (eBin .fdiv (eL 2) (eK (.int 13))) (eK (.int 254))))])]
noncomputable def F_law_acts : List PV -> M PV:=fnM 11 B_law_acts
noncomputable def B_law_spot : List S :=
 [sRet (eIf (tCmp .eq (eSub (eL 0) (eK (.int 0))) (eK (.int 1))) (eK .none) (eBin .add (eSub (eL 0) (eK (.int 1))) (eBin .mul (eL 1) (eIntB (tCmp .gt (eSub (eL 0) (eK (.int 0))) (eK (.int 1)))))))]
noncomputable def F_law_spot : List PV -> M PV:=fnM 2 B_law_spot
noncomputable def B_law_part : List S :=
 [sRet (eIf (tIsNone (eL 2)) (eBin .fdiv (eSub (eL 0) (eK (.int 1))) (eK (.int 2))) (eBin .mul (eBin .fdiv (eSub (eL 0) (eK (.int 1))) (eK (.int 2048))) (eSub (eL 1) (eL 2))))]
noncomputable def F_law_part : List PV -> M PV:=fnM 3 B_law_part
noncomputable def B_law_goes : List S :=
 [sAsgS (eL 0) (eK (.int 0)) (eBin .add (eSub (eL 0) (eK (.int 0))) (eBin .mul (eL 3) (eL 4))),
 sAsgS (eL 0) (eK (.int 1)) (eIf (tOr (tCmp .eq (eL 4) (eK (.int 0))) (tIsNone (eL 2))) (eL 3) (eBin .sub (eSub (eL 0) (eK (.int 1))) (eL 3))),
 sIf (tNot (tIsNone (eL 2))) [sAsgS (eL 1) (eL 2) (eIf (tCmp .eq (eL 4) (eK (.int 1))) (eBin .sub (eSub (eL 1) (eL 2)) (eBin .fdiv (eSub (eL 1) (eL 2)) (eK (.int 32)))) (eBin .add (eSub (eL 1) (eL 2)) (eBin .fdiv (eBin .sub (eK (.int 2048)) (eSub (eL 1) (eL 2))) (eK (.int 32)))))] [],
 sWhile (tCmp .lt (eSub (eL 0) (eK (.int 1))) (eBin .pow (eK (.int 2)) (eK (.int 24)))) [sAsgSs [((eL 0), (eK (.int 0))), ((eL 0), (eK (.int 1))), ((eL 0), (eK (.int 2)))] [(eBin .mul (eSub (eL 0) (eK (.int 0))) (eK (.int 256))), (eBin .mul (eSub (eL 0) (eK (.int 1))) (eK (.int 256))), (eBin .add (eSub (eL 0) (eK (.int 2))) (eK (.int 1)))]] 8]
noncomputable def F_law_goes : List PV -> M PV:=fnM 5 B_law_goes
noncomputable def B_law_number : List S :=
 [sAsg 2 (eIf (tCmp .eq (eSub (eL 0) (eK (.int 0))) (eK (.int 3))) (eL 1) (eRev (eL 1))),
 sRet (eSum (eCompZ [(eLen (eL 2))] (fun x => (pBin .mul (pSub (pL 2) (pK x)) (pBin .pow (pK (.int 2)) (pK x))))))]
noncomputable def F_law_number : List PV -> M PV:=fnM 3 B_law_number
noncomputable def B_law_written : List S :=
 [sUnp [2, 3, 4] (eTup [(eList [(eK (.int 0)), (eBin .sub (eBin .pow (eK (.int 2)) (eK (.int 32))) (eK (.int 1))), (eK (.int 0))]), (eBin .mul (eList [(eK (.int 1024))]) (eK (.int 80))), (eList [])]),
 sForV (setL 5) (eL 0) [sSwap [6, 7] [(eK (.int 1)), (eList [])],
  sForR 8 [(eSub (eL 5) (eK (.int 2)))] [sAsg 9 (eCall F_law_spot [(eL 5), (eL 6)]),
  sAsg 10 (eCall F_law_part [(eL 2), (eL 3), (eL 9)]),
  sIf (tIsNone (eSub (eL 5) (eK (.int 3)))) [sAsg 11 (eIntB (tCmp .ge (eBin .mul (eBin .mul (eL 1) (eBin .pow (eK (.int 2)) (eK (.int 24)))) (eBin .pow (eK (.int 256)) (eSub (eL 2) (eK (.int 2))))) (eBin .add (eSub (eL 2) (eK (.int 0))) (eL 10))))] [sAsg 11 (eBin .mod (eBin .fdiv (eSub (eL 5) (eK (.int 3))) (eBin .pow (eK (.int 2)) (eIf (tCmp .eq (eSub (eL 5) (eK (.int 0))) (eK (.int 3))) (eL 8) (eBin .sub (eBin .sub (eSub (eL 5) (eK (.int 2))) (eK (.int 1))) (eL 8))))) (eK (.int 2)))],
  sExp (eCall F_law_goes [(eL 2), (eL 3), (eL 9), (eL 10), (eL 11)]),
  sExp (eAppendL (eL 7) (eL 11)),
  sAsg 6 (eBin .add (eBin .mul (eK (.int 2)) (eL 6)) (eL 11))],
  sExp (eAppendL (eL 4) (eCall F_law_number [(eL 5), (eL 7)]))],
 sRet (eTup [(eL 4), (eBytes (eCompZ [(eBin .add (eSub (eL 2) (eK (.int 2))) (eK (.int 4))), (eNeg (eK (.int 1))), (eNeg (eK (.int 1)))] (fun x => (pBin .mod (pBin .fdiv (pSub (pL 2) (pK (.int 0))) (pBin .pow (pK (.int 256)) (pK x))) (pK (.int 256)))))), (eL 3)])]
noncomputable def F_law_written : List PV -> M PV:=fnM 12 B_law_written
noncomputable def B_law_told : List S :=
 [sSwap [2, 3] [(eBin .mul (eList [(eK (.int 1024))]) (eK (.int 80))), (eList [])],
 sIf (tOr (tCmp .eq (eL 1) (eK (.byt []))) (tAnd (tCmp .eq (eSub (eL 1) (eK (.int 0))) (eK (.int 0))) (tCmp .lt (eLen (eL 1)) (eK (.int 5))))) [sRet (eTup [(eL 3), (eK (.str "short")), (eL 2), (eK .none)])] [],
 sIf (tCmp .ne (eSub (eL 1) (eK (.int 0))) (eK (.int 0))) [sRet (eTup [(eL 3), (eK (.str "header")), (eL 2), (eK .none)])] [],
 sSwap [4, 5] [(eList [(eK (.int 0)), (eBin .sub (eBin .pow (eK (.int 2)) (eK (.int 32))) (eK (.int 1))), (eK (.int 0))]), (eSum (eCompZ [(eK (.int 5))] (fun x => (pBin .mul (pSub (pL 1) (pK x)) (pBin .pow (pK (.int 256)) (pBin .sub (pK (.int 4)) (pK x)))))))],
 sIf (tCmp .eq (eL 5) (eBin .sub (eBin .pow (eK (.int 2)) (eK (.int 32))) (eK (.int 1)))) [sRet (eTup [(eL 3), (eK (.str "code")), (eL 2), (eK .none)])] [],
 sForV (setL 6) (eL 0) [sSwap [7, 8] [(eK (.int 1)), (eList [])],
  sForR 9 [(eSub (eL 6) (eK (.int 2)))] [sAsg 10 (eCall F_law_spot [(eL 6), (eL 7)]),
  sSwap [11, 12] [(eCall F_law_part [(eL 4), (eL 2), (eL 10)]), (eSub (eL 4) (eK (.int 2)))],
  sAsg 13 (eIntB (tCmp .ge (eBin .sub (eL 5) (eSub (eL 4) (eK (.int 0)))) (eL 11))),
  sIf (tAnd (tIsNone (eL 10)) (tCmp .ge (eBin .sub (eL 5) (eSub (eL 4) (eK (.int 0)))) (eBin .mul (eK (.int 2)) (eL 11)))) [sRet (eTup [(eL 3), (eK (.str "code")), (eL 2), (eK .none)])] [],
  sExp (eCall F_law_goes [(eL 4), (eL 2), (eL 10), (eL 11), (eL 13)]),
  sExp (eAppendL (eL 8) (eL 13)),
  sAsg 7 (eBin .add (eBin .mul (eK (.int 2)) (eL 7)) (eL 13)),
  sForR 14 [(eBin .add (eL 12) (eK (.int 5))), (eBin .add (eSub (eL 4) (eK (.int 2))) (eK (.int 5)))] [sIf (tCmp .ge (eL 14) (eLen (eL 1))) [sRet (eTup [(eL 3), (eK (.str "short")), (eL 2), (eK .none)])] [],
   sAsg 5 (eBin .add (eBin .mul (eL 5) (eK (.int 256))) (eSub (eL 1) (eL 14)))]],
  sExp (eAppendL (eL 3) (eCall F_law_number [(eL 6), (eL 8)]))],
 sRet (eTup [(eL 3), (eK (.str "")), (eL 2), (eTup [(eBin .add (eSub (eL 4) (eK (.int 2))) (eK (.int 5))), (eB (tCmp .eq (eL 5) (eSub (eL 4) (eK (.int 0)))))])])]
noncomputable def F_law_told : List PV -> M PV:=fnM 15 B_law_told
noncomputable def B_law_read : List S :=
 [sIf (tCmp .eq (eSub (eL 2) (eK (.int 0))) (eK (.int 0))) [sRet (eMeth 199 F_RangeReader_bit (eL 0) [(eL 1), (eSub (eL 2) (eK (.int 1)))])] [],
 sIf (tCmp .eq (eSub (eL 2) (eK (.int 0))) (eK (.int 1))) [sRet (eMeth 199 F_RangeReader_direct (eL 0) [(eSub (eL 2) (eK (.int 2)))])] [],
 sRet (eIf (tCmp .eq (eSub (eL 2) (eK (.int 0))) (eK (.int 2))) (eMeth 199 F_RangeReader_tree (eL 0) [(eL 1), (eSub (eL 2) (eK (.int 1))), (eSub (eL 2) (eK (.int 2)))]) (eMeth 199 F_RangeReader_reverse (eL 0) [(eL 1), (eSub (eL 2) (eK (.int 1))), (eSub (eL 2) (eK (.int 2)))]))]
noncomputable def F_law_read : List PV -> M PV:=fnM 3 B_law_read
noncomputable def B_law_heard : List S :=
 [sSwap [4, 5] [(eCall F_fresh_models [(eK (.int 80))]), (eList [])],
 sTry [sAsg 6 (eNew 199 F_RangeReader_init [(eBin .add (eBin .add (eL 2) (eL 1)) (eL 3)), (eLen (eL 2)), (eBin .add (eLen (eL 2)) (eLen (eL 1)))]),
  sForV (setL 7) (eL 0) [sExp (eAppendL (eL 5) (eCall F_law_read [(eL 6), (eL 4), (eL 7)]))]] [(52, [sRet (eTup [(eL 5), (eK (.str "short")), (eListOf (eL 4)), (eK .none)])]),
  (76, [sRet (eTup [(eL 5), (eK (.str "header")), (eListOf (eL 4)), (eK .none)])]),
  (64, [sRet (eTup [(eL 5), (eK (.str "code")), (eListOf (eL 4)), (eK .none)])])],
 sRet (eTup [(eL 5), (eK (.str "")), (eListOf (eL 4)), (eTup [(eMeth 199 F_RangeReader_used (eL 6) []), (eMeth 199 F_RangeReader_ended (eL 6) [])])])]
noncomputable def F_law_heard : List PV -> M PV:=fnM 8 B_law_heard
noncomputable def B_law_write : List S :=
 [sIf (tCmp .eq (eSub (eL 2) (eK (.int 0))) (eK (.int 0))) [sExp (eMeth 283 F_RangeWriter_bit (eL 0) [(eL 1), (eSub (eL 2) (eK (.int 1))), (eL 3)])] [sIf (tCmp .eq (eSub (eL 2) (eK (.int 0))) (eK (.int 1))) [sExp (eMeth 283 F_RangeWriter_direct (eL 0) [(eSub (eL 2) (eK (.int 2))), (eL 3)])] [sIf (tCmp .eq (eSub (eL 2) (eK (.int 0))) (eK (.int 2))) [sExp (eMeth 283 F_RangeWriter_tree (eL 0) [(eL 1), (eSub (eL 2) (eK (.int 1))), (eSub (eL 2) (eK (.int 2))), (eL 3)])] [sExp (eMeth 283 F_RangeWriter_reverse (eL 0) [(eL 1), (eSub (eL 2) (eK (.int 1))), (eSub (eL 2) (eK (.int 2))), (eL 3)])]]]]
noncomputable def F_law_write : List PV -> M PV:=fnM 4 B_law_write
noncomputable def B_law_refused : List S :=
 [sSwap [3, 4] [(eListOf (eL 1)), (eMeth 283 F_RangeWriter_size (eL 0) [])],
 sForV (unpackM [5, 6]) (eL 2) [sTry [sExp (eCall F_law_write [(eL 0), (eL 1), (eL 5), (eL 6)]),
  sRet (eK (.bool false))] [(88, [sAsg 4 (eBin .add (eL 4) (eK (.int 0)))])]],
 sRet (eB (tAnd (tCmp .eq (eListOf (eL 1)) (eL 3)) (tCmp .eq (eMeth 283 F_RangeWriter_size (eL 0) []) (eL 4))))]
noncomputable def F_law_refused : List PV -> M PV:=fnM 7 B_law_refused
noncomputable def B_law : List S :=
 [sUnp [1, 2] (eCall F_law_acts [(eL 0)]),
 sUnp [3, 4, 5] (eCall F_law_written [(eL 1), (eL 2)]),
 sSwap [6, 7] [(eNew 283 F_RangeWriter_init []), (eCall F_fresh_models [(eK (.int 80))])],
 sForR 8 [(eLen (eL 1))] [sExp (eCall F_law_write [(eL 6), (eL 7), (eSub (eL 1) (eL 8)), (eSub (eL 3) (eL 8))])],
 sAsg 9 (eList [(eTup [(eTup [(eK (.int 0)), (eK (.int 0)), (eK (.int 1))]), (eK (.int 2))]), (eTup [(eTup [(eK (.int 0)), (eK (.int 3)), (eK (.int 1))]), (eNeg (eK (.int 1)))]), (eTup [(eTup [(eK (.int 1)), (eK (.int 0)), (eK (.int 3))]), (eK (.int 8))]), (eTup [(eTup [(eK (.int 1)), (eK (.int 0)), (eK (.int 2))]), (eNeg (eK (.int 1)))]), (eTup [(eTup [(eK (.int 2)), (eK (.int 4)), (eK (.int 2))]), (eK (.int 4))]), (eTup [(eTup [(eK (.int 3)), (eK (.int 44)), (eK (.int 3))]), (eNeg (eK (.int 1)))])]),
 sIf (tOr (tNot (tVal (eCall F_law_refused [(eL 6), (eL 7), (eL 9)]))) (tCmp .ne (eMeth 283 F_RangeWriter_size (eL 6) []) (eLen (eL 4)))) [sRet (eK (.bool false))] [],
 sIf (tOr (tCmp .ne (eBytes (eMeth 283 F_RangeWriter_done (eL 6) [])) (eL 4)) (tOr (tCmp .ne (eMeth 283 F_RangeWriter_size (eL 6) []) (eLen (eL 4))) (tCmp .ne (eListOf (eL 7)) (eL 5)))) [sRet (eK (.bool false))] [],
 sAsg 9 (eList [(eTup [(eTup [(eK (.int 0)), (eK (.int 0)), (eK (.int 1))]), (eK (.int 1))]), (eTup [(eTup [(eK (.int 1)), (eK (.int 0)), (eK (.int 2))]), (eK (.int 1))]), (eTup [(eTup [(eK (.int 2)), (eK (.int 4)), (eK (.int 2))]), (eK (.int 1))]), (eTup [(eTup [(eK (.int 3)), (eK (.int 44)), (eK (.int 2))]), (eK (.int 3))])]),
 sIf (tOr (tNot (tVal (eCall F_law_refused [(eL 6), (eL 7), (eL 9)]))) (tCmp .ne (eBytes (eMeth 283 F_RangeWriter_done (eL 6) [])) (eL 4))) [sRet (eK (.bool false))] [],
 sAsg 10 (eBin .add (eSum (eL 3)) (eSum (eL 4))),
 sSwap [11, 12] [(eBytes (eBin .mul (eList [(eK (.int 9))]) (eBin .mod (eL 10) (eK (.int 3))))), (eBytes (eCut (eList [(eK (.int 0)), (eK (.int 255)), (eK (.int 7))]) none (some (eBin .mod (eBin .fdiv (eL 10) (eK (.int 3))) (eK (.int 4))))))],
 sIf (tCmp .ne (eRepr (eCall F_law_heard [(eL 1), (eL 4), (eL 11), (eL 12)])) (eRepr (eTup [(eL 3), (eK (.str "")), (eL 5), (eTup [(eLen (eL 4)), (eK (.bool true))])]))) [sRet (eK (.bool false))] [],
 sSwap [13, 14] [(eBin .mod (eL 10) (eLen (eL 4))), (eBytes (eBin .add (eList [(eBin .mul (eIntB (tCmp .eq (eBin .mod (eL 10) (eK (.int 5))) (eK (.int 0)))) (eK (.int 3)))]) (eCompZ [(eBin .mod (eL 10) (eK (.int 31)))] (fun x => (pBin .mod (pBin .add (pBin .mul (pL 10) (pBin .pow (pBin .add (pK x) (pK (.int 3))) (pK (.int 3)))) (pBin .mul (pK (.int 91)) (pK x))) (pK (.int 256)))))))],
 sAsg 15 (eBin .add (eBin .add (eCut (eL 4) none (some (eL 13))) (eBytes (eList [(eBin .mod (eBin .add (eBin .add (eSub (eL 4) (eL 13)) (eK (.int 1))) (eBin .mod (eBin .fdiv (eL 10) (eK (.int 7))) (eK (.int 255)))) (eK (.int 256)))]))) (eCut (eL 4) (some (eBin .add (eL 13) (eK (.int 1)))) none)),
 sAsg 16 (eList [(eL 15), (eCut (eL 4) none (some (eBin .sub (eBin .sub (eLen (eL 4)) (eK (.int 1))) (eBin .mod (eL 10) (eK (.int 4)))))), (eL 14), (eBin .add (eBytes (eList [(eK (.int 0)), (eK (.int 255)), (eK (.int 255)), (eK (.int 255)), (eK (.int 255))])) (eL 14))]),
 sForV (setL 17) (eList [(eSub (eL 16) (eBin .mod (eBin .fdiv (eL 10) (eK (.int 2))) (eK (.int 4)))), (eSub (eL 16) (eBin .mod (eBin .add (eBin .add (eBin .fdiv (eL 10) (eK (.int 2))) (eK (.int 1))) (eBin .mod (eBin .fdiv (eL 10) (eK (.int 8))) (eK (.int 3)))) (eK (.int 4))))]) [sIf (tCmp .ne (eRepr (eCall F_law_heard [(eL 1), (eL 17), (eL 11), (eL 12)])) (eRepr (eCall F_law_told [(eL 1), (eL 17)]))) [sRet (eK (.bool false))] []],
 sRet (eK (.bool true))]
noncomputable def F_law : List PV -> M PV:=fnM 18 B_law
end Mine
end
section
open PySem PySem.W PyProof.Rows PySem.Calls
namespace Mine
noncomputable abbrev Led:=List (Addr × Obj)
noncomputable def keys (l : Led) : List Addr:=l.map (·.1)
noncomputable def setK (d : Addr) (o : Obj) (l : Led) : Led:=l.map fun p => if p.1 = d then (d, o) else p
theorem keys_setK (d : Addr) (o : Obj) (l : Led) : keys (setK d o l) = keys l:=by
 unfold keys setK
 rw [List.map_map]
 refine List.map_congr_left fun p _ => ?_
 show (if p.1 = d then (d, o) else p).1 = p.1
 split <;> rename_i h
 ·exact h.symm
 ·rfl
theorem mem_setK_ne {d : Addr} {o : Obj} {l : Led} {p : Addr × Obj} (h : p ∈ l) (hn : p.1 ≠ d) : p ∈ setK d o l :=
 List.mem_map.mpr ⟨p, h, if_neg hn⟩
theorem mem_setK_self {d : Addr} {o o' : Obj} {l : Led} (h : (d, o') ∈ l) : (d, o) ∈ setK d o l :=
 List.mem_map.mpr ⟨_, h, if_pos rfl⟩
theorem setK_append (d : Addr) (o : Obj) (l r : Led) : setK d o (l ++ r) = setK d o l ++ setK d o r:=List.map_append
theorem setK_off {d : Addr} {o : Obj} {l : Led} (h : d ∉ keys l) : setK d o l = l:=by
 unfold setK
 conv => rhs; rw [<- List.map_id l]
 refine List.map_congr_left fun p hp => if_neg fun (e : p.1 = d) => h (by rw [<- e]; exact List.mem_map_of_mem hp)
theorem upd_setK {d : Addr} {o o' : Obj} : ∀ {l : Led}, (keys l).Nodup -> (d, o) ∈ l -> Upd d o o' l (setK d o' l)
 | [], _, h => nomatch h
 | p :: r, hn, h => by
  have hn':=List.nodup_cons.mp (show ((p.1) :: keys r).Nodup from hn)
  by_cases e : p.1 = d
  ·rcases List.mem_cons.mp h with rfl | h'
   ·have : setK d o' ((d, o) :: r) = (d, o') :: r:=by
     show (if d = d then (d, o') else (d, o)) :: setK d o' r = _
     rw [if_pos rfl, setK_off hn'.1]
    rw [this]
    exact .head fun q hq (e' : q.1 = d) => hn'.1 (List.mem_map.mpr ⟨q, hq, e'⟩)
   ·exact absurd (e ▸ List.mem_map_of_mem (f:=(·.1)) h' : p.1 ∈ keys r) hn'.1
  ·have : setK d o' (p :: r) = p :: setK d o' r:=by
    show (if p.1 = d then (d, o') else p) :: setK d o' r = _
    rw [if_neg e]
   rw [this]
   rcases List.mem_cons.mp h with rfl | h'
   ·exact absurd rfl e
   ·exact .tail e (upd_setK hn'.2 h')
noncomputable abbrev tupO (vs : List Value) : Obj:={ cls:=.type "tuple", data:=.seq vs.toArray }
noncomputable abbrev barrO (b : List UInt8) : Obj:={ cls:=.type "bytearray", data:=.bytearray b.toArray 0 }
mutual
inductive VR (B : Heap) (fz : Led) (al : Nat -> Addr) (n : Nat) : PV -> Value -> Prop
 | none : VR B fz al n .none .none
 | bool (b : Bool) : VR B fz al n (.bool b) (.bool b)
 | int (i : Int) (t : Tok) : VR B fz al n (.int i) (.int i t)
 | str (x : Str) (t : Tok) : VR B fz al n (.str x) (.str x t)
 | byt (b : List UInt8) (t : Tok) : VR B fz al n (.byt b) (.bytes b.toArray t)
 | tup (vs : List PV) (xs : List Value) (a : Addr) : (a, tupO xs) ∈ fz -> VRs B fz al n vs xs -> VR B fz al n (.tup vs) (.ref a)
 | ref (i : Nat) : i < n -> VR B fz al n (.ref i) (.ref (al i))
 | ints (ns : List Int) (xs : List Value) (a : Addr) : B.IsList a xs.toArray -> IntsAre xs ns -> VR B fz al n (.ints ns) (.ref a)
inductive VRs (B : Heap) (fz : Led) (al : Nat -> Addr) (n : Nat) : List PV -> List Value -> Prop
 | nil : VRs B fz al n [] []
 | cons {v : PV} {x : Value} {vs : List PV} {xs : List Value} : VR B fz al n v x -> VRs B fz al n vs xs -> VRs B fz al n (v :: vs) (x :: xs)
end
theorem VR_cases {B : Heap} {fz : Led} {al : Nat -> Addr} {n : Nat} {motive : ∀ v x, VR B fz al n v x -> Prop} {v : PV} {x : Value} (h : VR B fz al n v x) (none : motive .none .none .none) (bool : ∀ b, motive _ _ (.bool b)) (int : ∀ i t, motive _ _ (.int i t)) (str : ∀ x t, motive _ _ (.str x t))
  (byt : ∀ b t, motive _ _ (.byt b t)) (tup : ∀ vs xs a h1 h2, motive _ _ (.tup vs xs a h1 h2)) (ref : ∀ i h, motive _ _ (.ref i h)) («ints» : ∀ ns xs a h1 h2, motive _ _ (.ints ns xs a h1 h2)) : motive v x h :=
 h.casesOn none bool int str byt tup ref «ints»
structure Grow (fz fz' : Led) (al al' : Nat -> Addr) (n n' : Nat) : Prop where
 fz : ∀ p ∈ fz, p ∈ fz'
 al : ∀ i, i < n -> al' i = al i
 le : n <= n'
theorem Grow.refl {fz : Led} {al : Nat -> Addr} {n : Nat} : Grow fz fz al al n n:=⟨fun _ h => h, fun _ _ => rfl, yM _⟩
theorem Grow.trans {fz fz₁ fz₂ : Led} {al al₁ al₂ : Nat -> Addr} {n n₁ n₂ : Nat} (x : Grow fz fz₁ al al₁ n n₁) (y : Grow fz₁ fz₂ al₁ al₂ n₁ n₂) : Grow fz fz₂ al al₂ n n₂ :=
 ⟨fun p h => y.fz p (x.fz p h), fun i h => (y.al i (yK h x.le)).trans (x.al i h), yL x.le y.le⟩
section
variable {B : Heap} {fz fz' : Led} {al al' : Nat -> Addr} {n n' : Nat} {vs us : List PV} {xs ys : List Value} {v : PV} {x : Value}
theorem VRs_ind {motive : List PV -> List Value -> Prop} (nil : motive [] []) (cons : ∀ {v x vs xs}, VR B fz al n v x -> VRs B fz al n vs xs -> motive vs xs -> motive (v :: vs) (x :: xs)) (h : VRs B fz al n vs xs) : motive vs xs :=
 VRs.rec (motive_1:=fun _ _ _ => True) (motive_2:=fun vs xs _ => motive vs xs) trivial (fun _ => trivial) (fun _ _ => trivial) (fun _ _ => trivial) (fun _ _ => trivial) (fun _ _ _ _ _ _ => trivial) (fun _ _ => trivial) (fun _ _ _ _ _ => trivial) nil (fun hv hs _ ih => cons hv hs ih) h
theorem VR.mono (g : Grow fz fz' al al' n n') (h : VR B fz al n v x) : VR B fz' al' n' v x :=
 VR.rec (motive_1:=fun v x _ => VR B fz' al' n' v x) (motive_2:=fun vs xs _ => VRs B fz' al' n' vs xs) .none .bool .int .str .byt (fun vs xs a h _ hs => .tup vs xs a (g.fz _ h) hs) (fun i h => g.al i h ▸ .ref i (yK h g.le)) (fun ns xs a h hi => .ints ns xs a h hi) .nil (fun _ _ h hs => .cons h hs) h
theorem VRs.mono (g : Grow fz fz' al al' n n') (h : VRs B fz al n vs xs) : VRs B fz' al' n' vs xs:=VRs_ind (motive:=VRs B fz' al' n') .nil (fun h _ ih => .cons (h.mono g) ih) h
theorem VRs.length (h : VRs B fz al n vs xs) : vs.length = xs.length:=VRs_ind (motive:=fun vs xs => vs.length = xs.length) rfl (fun _ _ ih => congrArg (· + 1) ih) h
theorem VRs.get (h : VRs B fz al n vs xs) {k : Nat} {v : PV} (e : vs[k]? = some v) : ∃ x, xs[k]? = some x /\ VR B fz al n v x :=
 VRs_ind (motive:=fun vs xs => ∀ (k : Nat) (v : PV), vs[k]? = some v -> ∃ x, xs[k]? = some x /\ VR B fz al n v x) (fun _ _ e => nomatch e) (fun {_ x _ _} h _ ih k v e => match k, e with
  | 0, e => ⟨x, rfl, Option.some.inj e ▸ h⟩
  | k + 1, e => ih k v e) h k v e
theorem VRs.append (h : VRs B fz al n vs xs) (k : VRs B fz al n us ys) : VRs B fz al n (vs ++ us) (xs ++ ys):=VRs_ind (motive:=fun vs xs => VRs B fz al n (vs ++ us) (xs ++ ys)) k (fun h _ ih => .cons h ih) h
theorem VRs.take (h : VRs B fz al n vs xs) (k : Nat) : VRs B fz al n (vs.take k) (xs.take k) :=
 VRs_ind (motive:=fun vs xs => ∀ k : Nat, VRs B fz al n (vs.take k) (xs.take k)) (fun k => by rw [List.take_nil, List.take_nil]; exact .nil) (fun h _ ih k => match k with
  | 0 => .nil
  | k + 1 => .cons h (ih k)) h k
theorem VRs.drop (h : VRs B fz al n vs xs) (k : Nat) : VRs B fz al n (vs.drop k) (xs.drop k) :=
 VRs_ind (motive:=fun vs xs => ∀ k : Nat, VRs B fz al n (vs.drop k) (xs.drop k)) (fun k => by rw [List.drop_nil, List.drop_nil]; exact .nil) (fun h hs ih k => match k with
  | 0 => .cons h hs
  | k + 1 => ih k) h k
theorem VRs.set (hv : VR B fz al n v x) (h : VRs B fz al n vs xs) (k : Nat) : VRs B fz al n (vs.set k v) (xs.set k x) :=
 VRs_ind (motive:=fun vs xs => ∀ k : Nat, VRs B fz al n (vs.set k v) (xs.set k x)) (fun _ => .nil) (fun h hs ih k => match k with
  | 0 => .cons hv hs
  | k + 1 => .cons h (ih k)) h k
theorem VRs.reverse (h : VRs B fz al n vs xs) : VRs B fz al n vs.reverse xs.reverse:=VRs_ind (motive:=fun vs xs => VRs B fz al n vs.reverse xs.reverse) .nil (fun h _ ih => by rw [List.reverse_cons, List.reverse_cons]; exact ih.append (.cons h .nil)) h
theorem VRs.flatten (h : VRs B fz al n vs xs) (k : Nat) : VRs B fz al n (List.replicate k vs).flatten (List.replicate k xs).flatten:=by
 induction k with
 | zero => exact .nil
 | succ k ih => rw [List.replicate_succ, List.replicate_succ, List.flatten_cons, List.flatten_cons]; exact h.append ih
noncomputable def VRI (B : Heap) (fz : Led) (al : Nat -> Addr) (n : Nat) (x : Value) : PV -> Prop
 | .none => x = .none
 | .bool b => x = .bool b
 | .int i => ∃ t, x = .int i t
 | .str y => ∃ t, x = .str y t
 | .byt b => ∃ t, x = .bytes b.toArray t
 | .tup vs => ∃ xs a, x = .ref a /\ (a, tupO xs) ∈ fz /\ VRs B fz al n vs xs
 | .ref i => x = .ref (al i) /\ i < n
 | .ints ns => ∃ xs a, x = .ref a /\ B.IsList a xs.toArray /\ IntsAre xs ns
theorem VR.inv (h : VR B fz al n v x) : VRI B fz al n x v :=
 h.casesOn (motive_1:=fun v x _ => VRI B fz al n x v) rfl (fun _ => rfl) (fun _ t => ⟨t, rfl⟩) (fun _ t => ⟨t, rfl⟩) (fun _ t => ⟨t, rfl⟩) (fun _ xs a h1 h2 => ⟨xs, a, rfl, h1, h2⟩) (fun _ h => ⟨rfl, h⟩) (fun _ xs a h1 h2 => ⟨xs, a, rfl, h1, h2⟩)
theorem VR.isInt (h : VR B fz al n v x) {k : Int} (e : v = .int k) : ∃ t, x = .int k t:=by subst e; exact h.inv
theorem allInts_cons {v : PV} {ns : List Int} (e : allInts (v :: vs) = some ns) : ∃ i ms, v = .int i /\ allInts vs = some ms /\ ns = i :: ms:=by
 cases v with
 | int i => obtain ⟨ms, hm, e⟩:=Option.map_eq_some_iff.mp e; exact ⟨i, ms, rfl, hm, e.symm⟩
 | _ => cases e
theorem VRs.uncons (h : VRs B fz al n (v :: vs) xs) : ∃ x ys, xs = x :: ys /\ VR B fz al n v x /\ VRs B fz al n vs ys:=by
 cases h with
 | cons h1 h2 => exact ⟨_, _, rfl, h1, h2⟩
theorem VRs.unnil (h : VRs B fz al n [] xs) : xs = []:=by cases h; rfl
theorem VRs.one {b : Int} (h : VRs B fz al n [.int b] xs) : ∃ t, xs = [.int b t]:=by
 obtain ⟨x, ys, rfl, h1, h2⟩:=h.uncons
 obtain ⟨t, rfl⟩:=h1.isInt rfl
 exact ⟨t, by rw [h2.unnil]⟩
theorem VRs.two {a b : Int} (h : VRs B fz al n [.int a, .int b] xs) : ∃ t u, xs = [.int a t, .int b u]:=by
 obtain ⟨x, ys, rfl, h1, h2⟩:=h.uncons
 obtain ⟨t, rfl⟩:=h1.isInt rfl
 obtain ⟨u, rfl⟩:=h2.one
 exact ⟨t, u, rfl⟩
theorem VRs.three {a b c : Int} (h : VRs B fz al n [.int a, .int b, .int c] xs) : ∃ t u w, xs = [.int a t, .int b u, .int c w]:=by
 obtain ⟨x, ys, rfl, h1, h2⟩:=h.uncons
 obtain ⟨t, rfl⟩:=h1.isInt rfl
 obtain ⟨u, w, rfl⟩:=h2.two
 exact ⟨t, u, w, rfl⟩
theorem VRs.ints {ns : List Int} (h : VRs B fz al n vs xs) (e : allInts vs = some ns) : IntsAre xs ns :=
 VRs_ind (motive:=fun vs xs => ∀ ns, allInts vs = some ns -> IntsAre xs ns) (fun _ e => Option.some.inj e ▸ .nil) (fun h _ ih ns e => by
  obtain ⟨i, ms, e1, e2, rfl⟩:=allInts_cons e
  obtain ⟨t, rfl⟩:=h.isInt e1
  exact .cons i t (ih _ e2)) h ns e
theorem VRs.of_ints {ns : List Int} (h : IntsAre xs ns) : VRs B fz al n (ns.map .int) xs:=by
 induction h with
 | nil => exact .nil
 | cons _ _ _ ih => exact .cons (.int _ _) ih
end
noncomputable def fnm : List Str:=["made", "low", "span", "cache", "held", "closed", "data", "stop", "start", "place", "code"]
inductive FR (B : Heap) (fz : Led) (al : Nat -> Addr) (n : Nat) : List (Nat × PV) -> List DictEntry -> Prop
 | nil : FR B fz al n [] []
 | cons {k : Nat} {v : PV} {nm : Str} {t : Tok} {x : Value} {hs : Int} {r : List (Nat × PV)} {es : List DictEntry} : fnm[k]? = some nm -> VR B fz al n v x -> FR B fz al n r es -> FR B fz al n ((k, v) :: r) (⟨hs, .str nm t, x⟩ :: es)
theorem FR.mono {B : Heap} {fz fz' : Led} {al al' : Nat -> Addr} {n n' : Nat} (g : Grow fz fz' al al' n n') {fs : List (Nat × PV)} {es : List DictEntry} (h : FR B fz al n fs es) : FR B fz' al' n' fs es:=by
 induction h with
 | nil => exact .nil
 | cons h hv _ ih => exact .cons h (hv.mono g) ih
theorem fnm_inj {j k : Nat} {a b : Str} (hj : fnm[j]? = some a) (hk : fnm[k]? = some b) (e : a = b) : j = k:=by
 have nd : ∀ j, j < 11 -> ∀ k, k < 11 -> fnm[j]? = fnm[k]? -> j = k:=by decide +kernel
 have l : fnm.length = 11:=rfl
 obtain ⟨lj, ej⟩:=List.getElem?_eq_some_iff.mp hj
 obtain ⟨lk, ek⟩:=List.getElem?_eq_some_iff.mp hk
 exact nd j (l ▸ lj) k (l ▸ lk) (by rw [hj, hk, e])
theorem isStr_str (x y : Str) (t : Tok) : (Value.str x t).isStr y = (x == y):=rfl
theorem FR.noRef {B : Heap} {fz : Led} {al : Nat -> Addr} {n : Nat} {fs : List (Nat × PV)} {es : List DictEntry} (h : FR B fz al n fs es) : es.any (·.refKey) = false:=by
 induction h with
 | nil => rfl
 | cons _ _ _ ih => rw [List.any_cons, ih]; rfl
theorem FR.get {B : Heap} {fz : Led} {al : Nat -> Addr} {n : Nat} {k : Nat} {nm : Str} (hk : fnm[k]? = some nm) {fs : List (Nat × PV)} {es : List DictEntry} (h : FR B fz al n fs es) :
  (∀ v, getF k fs = some v -> ∃ x, (es.find? (·.key.isStr nm)).map (·.val) = some x /\ VR B fz al n v x) /\ (getF k fs = none -> es.find? (·.key.isStr nm) = none):=by
 induction h with
 | nil => exact ⟨fun v e => (nomatch e), fun _ => rfl⟩
 | @cons j _ a _ _ _ _ _ hj hv r ih =>
  by_cases e : j = k
  ·subst e
   obtain rfl : a = nm:=Option.some.inj (hj.symm.trans hk)
   constructor
   ·intro v hv'
    rw [getF, if_pos rfl] at hv'
    cases hv'
    exact ⟨_, by rw [List.find?_cons, isStr_str, beq_self_eq_true]; rfl, hv⟩
   ·intro hv'
    rw [getF, if_pos rfl] at hv'
    cases hv'
  ·have ne : (a == nm) = false:=by
    rw [beq_eq_false_iff_ne]
    exact fun q => e (fnm_inj hj hk q)
   rw [getF, if_neg e, List.find?_cons, isStr_str, ne]
   exact ih
theorem getL_of {es : List DictEntry} (nr : es.any (·.refKey) = false) (nm : Str) : getL nm es = some ((es.find? (·.key.isStr nm)).map (·.val)):=by
 unfold getL
 cases es.find? (·.key.isStr nm) with
 | none => simp only [nr, Bool.false_eq_true, if_false]; rfl
 | some e => rfl
theorem FR.getL {B : Heap} {fz : Led} {al : Nat -> Addr} {n : Nat} {k : Nat} {nm : Str} {v : PV} {fs : List (Nat × PV)} {es : List DictEntry} (h : FR B fz al n fs es) (hk : fnm[k]? = some nm) (hv : getF k fs = some v) :
  ∃ x, W.getL nm es = some (some x) /\ VR B fz al n v x:=by
 obtain ⟨x, hx, hr⟩:=(h.get hk).1 v hv
 exact ⟨x, by rw [getL_of h.noRef, hx], hr⟩
theorem FR.other {B : Heap} {fz : Led} {al : Nat -> Addr} {n : Nat} {nm : Str} (hn : nm ∉ fnm) {fs : List (Nat × PV)} {es : List DictEntry} (h : FR B fz al n fs es) : es.find? (·.key.isStr nm) = none:=by
 induction h with
 | nil => rfl
 | @cons _ _ a _ _ _ _ _ hj _ _ ih =>
  have ne : (a == nm) = false:=by
   rw [beq_eq_false_iff_ne]
   exact fun q => hn (q ▸ List.mem_of_getElem? hj)
  rw [List.find?_cons, isStr_str, ne]
  exact ih
theorem FR.getL_none {B : Heap} {fz : Led} {al : Nat -> Addr} {n : Nat} {nm : Str} {fs : List (Nat × PV)} {es : List DictEntry} (h : FR B fz al n fs es) (hn : nm ∉ fnm) : W.getL nm es = some none:=by
 rw [getL_of h.noRef, h.other hn]; rfl
theorem FR.put {B : Heap} {fz : Led} {al : Nat -> Addr} {n : Nat} {k : Nat} {nm : Str} {v : PV} {x : Value} {hs : Int} {t : Tok} (hk : fnm[k]? = some nm) (hv : VR B fz al n v x) {fs : List (Nat × PV)} {es : List DictEntry} (h : FR B fz al n fs es) : FR B fz al n (putF k v fs) (putL nm hs (.str nm t) x es):=by
 induction h with
 | nil => exact .cons hk hv .nil
 | @cons j _ a _ _ _ _ _ hj hv' r ih =>
  by_cases e : j = k
  ·subst e
   obtain rfl : a = nm:=Option.some.inj (hj.symm.trans hk)
   rw [putF, if_pos rfl, putL, isStr_str, beq_self_eq_true, if_pos rfl]
   exact .cons hj hv r
  ·have ne : (a == nm) = false:=by
    rw [beq_eq_false_iff_ne]
    exact fun q => e (fnm_inj hj hk q)
   rw [putF, if_neg e, putL, isStr_str, ne, if_neg (by decide)]
   exact .cons hj hv' ih
theorem FR.length {B : Heap} {fz : Led} {al : Nat -> Addr} {n : Nat} {fs : List (Nat × PV)} {es : List DictEntry} (h : FR B fz al n fs es) : fs.length = es.length:=by
 induction h with
 | nil => rfl
 | cons _ _ _ ih => exact congrArg (· + 1) ih
theorem VR.handed {B : Heap} {fz : Led} {al : Nat -> Addr} {n : Nat} {v : PV} {x : Value} (h : VR B fz al n v x) : handedIn x = true:=by cases h <;> rfl
noncomputable def OR (B : Heap) (fz : Led) (al : Nat -> Addr) (n : Nat) (mo : Led) (o : AO) (a d : Addr) : Prop:=match o with
 | .dead => True
 | .list vs => ∃ xs k, (a, listOf xs.toArray k) ∈ mo /\ VRs B fz al n vs xs
 | .inst C fs => (a, instObj C d) ∈ mo /\ (C = 199 \/ C = 283) /\ ∃ es k, (d, dictOf es k) ∈ mo /\ FR B fz al n fs es
 | .barr b => (a, barrO b) ∈ mo
theorem OR.mono {B : Heap} {fz fz' : Led} {al al' : Nat -> Addr} {n n' : Nat} {mo mo' : Led} (g : Grow fz fz' al al' n n') {o : AO} {a d : Addr} (hm : ∀ p ∈ mo, p.1 = a \/ p.1 = d -> p ∈ mo') (h : OR B fz al n mo o a d) : OR B fz' al' n' mo' o a d:=by
 cases o with
 | dead => trivial
 | list vs =>
  obtain ⟨xs, k, h1, h2⟩:=h
  exact ⟨xs, k, hm _ h1 (.inl rfl), h2.mono g⟩
 | inst C fs =>
  obtain ⟨h1, h2, es, k, h3, h4⟩:=h
  exact ⟨hm _ h1 (.inl rfl), h2, es, k, hm _ h3 (.inr rfl), h4.mono g⟩
 | barr b => exact hm _ h (.inl rfl)
structure Cx where
 prog : Program
 w : World
 K : Frag
 B : Heap
 p : Program
 loose : List Str
 mean : ExcName -> Option Value
 mg : Str -> Option Value
 mb : Str -> Option Value
 G : Array GenState
 os : OsState
structure Cx.Ok (X : Cx) : Prop where
 K : X.K.In X.B
 T : Top X.p X.loose X.mean X.mg X.mb X.B
structure FnC where
 qual : Str
 scope : Scope
 fa : Addr
 cd : Value
 vars : List Str
noncomputable def FnC.env (F : FnC) (L : Addr) (cl : List (Str × Addr)) : Env:=envX F.qual F.scope L F.fa F.cd cl
structure FnC.Ok (F : FnC) : Prop where
 fn : F.scope.kind = .function
 nd : F.vars.Nodup
 kind : ∀ nm ∈ F.vars, F.scope.names.lookup nm = some .local \/ F.scope.names.lookup nm = some .cell
 dbg : ∀ nm ∈ F.vars, (nm == ("__debug__" : Str)) = false
structure Wd where
 mo : Led
 ce : Led
 tp : Led
 fz : Led
 fo : Led
 al : Nat -> Addr
 be : Nat -> Addr
 m : Str -> Option Value
noncomputable def Wd.rest (w : Wd) : Led:=w.ce ++ (w.tp ++ (w.fz ++ w.fo))
noncomputable def Wd.P (w : Wd) : Led:=w.mo ++ w.rest
noncomputable abbrev Outer:=List (Env × Addr × (Str -> Option Value))
noncomputable def OMap (o : Obj) (m : Str -> Option Value) : Prop:=∃ es ep, o.data = .dict es ep /\ StrKeys es /\ ∀ nm, nsFind es nm = m nm
theorem OMap.ns {h : Heap} {L : Addr} {o : Obj} {m : Str -> Option Value} (x : OMap o m) (e : h.get? L = some o) : h.Ns L m:=let ⟨es, ep, a, b, c⟩:=x; ⟨o, es, ep, e, a, b, c⟩
theorem OMap.of_ns {h : Heap} {L : Addr} {m : Str -> Option Value} (x : h.Ns L m) : ∃ o, h.get? L = some o /\ OMap o m:=let ⟨o, es, ep, e, a, b, c⟩:=x; ⟨o, e, es, ep, a, b, c⟩
inductive FoR : Outer -> Led -> Prop
 | nil : FoR [] []
 | cons {env : Env} {L : Addr} {m : Str -> Option Value} {o : Obj} {O : Outer} {l : Led} : env.scope.kind = .function -> env.frame = some L -> OMap o m -> FoR O l -> FoR ((env, L, m) :: O) ((L, o) :: l)
noncomputable def LocR (X : Cx) (F : FnC) (cl : List (Str × Addr)) (w : Wd) (n : Nat) (nm : Str) (v : PV) : Prop :=
 ∃ x, VR X.B w.fz w.al n v x /\ ((F.scope.names.lookup nm = some .local /\ w.m nm = some x) \/
  (F.scope.names.lookup nm = some .cell /\ ∃ c o, cl.lookup nm = some c /\ (c, o) ∈ w.ce /\ o.data = .cell (some x)))
structure StP (X : Cx) (F : FnC) (cl : List (Str × Addr)) (O : Outer) (w : Wd) (σ : AS) : Prop where
 nod : (keys w.P).Nodup
 fo : FoR O w.fo
 mem : ∀ i, i < σ.nxt -> OR X.B w.fz w.al σ.nxt w.mo (σ.mem i) (w.al i) (w.be i)
 inj : ∀ i j, i < σ.nxt -> j < σ.nxt -> i ≠ j -> w.al i ≠ w.al j /\ w.al i ≠ w.be j /\ w.be i ≠ w.al j /\ w.be i ≠ w.be j
 adr : ∀ i, i < σ.nxt -> w.al i ∈ keys w.mo /\ w.be i ∈ keys w.mo
 locs : ∀ (i : Nat) (v : PV), σ.loc[i]? = some (some v) -> ∃ nm, F.vars[i]? = some nm /\ LocR X F cl w σ.nxt nm v
 cel : ∀ nm c, cl.lookup nm = some c -> ∃ o v, (c, o) ∈ w.ce /\ o.data = .cell v
 celi : ∀ nm nm' c, cl.lookup nm = some c -> cl.lookup nm' = some c -> nm = nm'
 ckd : ∀ nm, nm ∈ F.vars -> F.scope.names.lookup nm = some .cell -> (cl.lookup nm).isSome = true
structure St (X : Cx) (F : FnC) (L : Addr) (cl : List (Str × Addr)) (O : Outer) (w : Wd) (σ : AS) (s : Shared) : Prop where
 pu : StP X F cl O w σ
 fr : Fr X.B L s.heap w.m
 nw : News X.B L s.heap w.P
 gens : s.gens = X.G
 os : s.os = X.os
structure Ar (A : Around) (n : Nat) (env : Env) (O : Outer) : Prop where
 depth : A.depth + 2 * n <= 900
 units : A.units + 10 * n <= 9000
 frames : A.frames = some (env :: O.map (·.1))
 guards : A.guards = some []
 hd : A.handled = none \/ n = 0
structure Ext (w w' : Wd) (n n' : Nat) : Prop extends Grow w.fz w'.fz w.al w'.al n n' where
 tp : w'.tp = w.tp
theorem Ext.refl {w : Wd} {n : Nat} : Ext w w n n:=⟨Grow.refl, rfl⟩
theorem Ext.same {w w' : Wd} {n : Nat} (h1 : w'.fz = w.fz) (h2 : w'.al = w.al) (h3 : w'.tp = w.tp) : Ext w w' n n:=⟨by rw [h1, h2]; exact Grow.refl, h3⟩
theorem Ext.trans {w w₁ w₂ : Wd} {n n₁ n₂ : Nat} (x : Ext w w₁ n n₁) (y : Ext w₁ w₂ n₁ n₂) : Ext w w₂ n n₂:=⟨x.toGrow.trans y.toGrow, y.tp.trans x.tp⟩
inductive ExcTr (X : Cx) (P : Led) (e : Addr) (okfl : Value -> Prop) (h : Heap) (vs : Array Value) : Prop where
 | mk (T : Addr) (oT : Obj) (ts : _) (fl : Value) (h0 : vs[1]? = some (.ref T)) (h1 : X.B.get? T = none) (h2 : T ≠ e) (h3 : T ∉ keys P) (h4 : h.get? T = some oT) (h5 : oT.data = .fields ts) (h6 : ts[3]? = some fl) (h7 : okfl fl) : ExcTr X P e okfl h vs
inductive ExcAt (X : Cx) (P : Led) (e : Addr) (C : Addr) (okfl : Value -> Prop) (h : Heap) : Prop where
 | mk (oe : _) (vs : _) (h0 : h.get? e = some oe) (h1 : oe.cls = .ref C) (h2 : oe.data = .fields vs) (h3 : 1 < vs.size) (h4 : X.B.get? e = none) (h5 : e ∉ keys P) (h6 : (vs[1]? = some .none \/ ExcTr X P e okfl h vs)) : ExcAt X P e C okfl h
noncomputable def InFrame (L : Addr) (v : Value) : Prop:=v = .none \/ v = rawInt L
noncomputable def Fly (X : Cx) (F : FnC) (L : Addr) (cl : List (Str × Addr)) (O : Outer) (w : Wd) (σ : AS) (C : Addr) (e : Addr) (s : Shared) : Prop :=
 St X F L cl O w σ s /\ ExcAt X w.P e C (InFrame L) s.heap
noncomputable def Post {α β : Type} (X : Cx) (F : FnC) (L : Addr) (cl : List (Str × Addr)) (O : Outer) (R : Wd -> Nat -> α -> β -> Prop) (w₀ : Wd) (n₀ : Nat) (r : Res α) (Q : β -> Shared -> Prop) (Er : Value -> Shared -> Prop) : Prop:=match r with
 | .ok v σ' => ∀ x w' s', St X F L cl O w' σ' s' -> Ext w₀ w' n₀ σ'.nxt -> R w' σ'.nxt v x -> Q x s'
 | .exc C σ' => ∀ e w' s', Fly X F L cl O w' σ' C e s' -> Ext w₀ w' n₀ σ'.nxt -> Er (.ref e) s'
 | .stuck _ => False
section
variable {α β γ δ : Type} {X : Cx} {F : FnC} {L : Addr} {cl : List (Str × Addr)} {O : Outer} {R : Wd -> Nat -> α -> β -> Prop} {w₀ : Wd} {n₀ : Nat} {Q : β -> Shared -> Prop} {Er : Value -> Shared -> Prop}
theorem Post.ext {r : Res α} {w₁ : Wd} {n₁ : Nat} (x : Ext w₀ w₁ n₀ n₁) (h : Post X F L cl O R w₀ n₀ r Q Er) : Post X F L cl O R w₁ n₁ r Q Er:=by
 cases r with
 | ok v σ' => exact fun y w' s' S E V => h y w' s' S (x.trans E) V
 | exc C σ' => exact fun e w' s' S E => h e w' s' S (x.trans E)
 | stuck => exact h
theorem Post.mono {r : Res α} {Q' : β -> Shared -> Prop} {Er' : Value -> Shared -> Prop} (h : Post X F L cl O R w₀ n₀ r Q Er) (hq : ∀ x s, Q x s -> Q' x s) (he : ∀ x s, Er x s -> Er' x s) : Post X F L cl O R w₀ n₀ r Q' Er':=by
 cases r with
 | ok v σ' => exact fun y w' s' S E V => hq _ _ (h y w' s' S E V)
 | exc C σ' => exact fun e w' s' S E => he _ _ (h e w' s' S E)
 | stuck => exact h
theorem bnd_assoc {α β γ : Type} (m : M α) (f : α -> M β) (g : β -> M γ) (s : AS) : bnd (bnd m f) g s = bnd m (fun a => bnd (f a) g) s:=by
 unfold bnd
 cases m s <;> rfl
theorem Post.eq {α β : Type} {X : Cx} {F : FnC} {L : Addr} {cl : List (Str × Addr)} {O : Outer} {R : Wd -> Nat -> α -> β -> Prop} {w₀ : Wd} {n₀ : Nat} {r r' : Res α} {Q : β -> Shared -> Prop} {Er : Value -> Shared -> Prop} (e : r = r') (h : Post X F L cl O R w₀ n₀ r Q Er) : Post X F L cl O R w₀ n₀ r' Q Er:=e ▸ h
theorem Post.bind {R' : Wd -> Nat -> γ -> δ -> Prop} {m : M γ} {f : γ -> M α} {σ : AS} {Q' : δ -> Shared -> Prop} (h : Post X F L cl O R w₀ n₀ (bnd m f σ) Q Er)
  (k : ∀ v σ' x w' s', m σ = .ok v σ' -> St X F L cl O w' σ' s' -> Ext w₀ w' n₀ σ'.nxt -> R' w' σ'.nxt v x -> Post X F L cl O R w' σ'.nxt (f v σ') Q Er -> Q' x s') : Post X F L cl O R' w₀ n₀ (m σ) Q' Er:=by
 unfold bnd at h
 cases e : m σ with
 | ok v σ' =>
  rw [e] at h
  exact fun x w' s' S E V => k v σ' x w' s' e S E V (h.ext E)
 | exc C σ' => rw [e] at h; exact h
 | stuck => rw [e] at h; exact h
end
noncomputable def Snd {α β : Type} (X : Cx) (n : Nat) (F : FnC) (R : Wd -> Nat -> α -> β -> Prop) (t : Env -> Sem β) (C : M α) : Prop :=
 ∀ (A : Around) (L : Addr) (cl : List (Str × Addr)) (O : Outer) (w : Wd) (σ : AS) (s : Shared) (Q : β -> Shared -> Prop) (Er : Value -> Shared -> Prop), Ar A n (F.env L cl) O -> St X F L cl O w σ s ->
  Post X F L cl O R w σ.nxt (C σ) Q Er -> wpAny (model X.prog X.w) A (t (F.env L cl)) Q Er s
noncomputable abbrev VRw (X : Cx) : Wd -> Nat -> PV -> Value -> Prop:=fun w n => VR X.B w.fz w.al n
noncomputable abbrev VRsw (X : Cx) : Wd -> Nat -> List PV -> List Value -> Prop:=fun w n => VRs X.B w.fz w.al n
noncomputable abbrev EqR {α : Type} : Wd -> Nat -> α -> α -> Prop:=fun _ _ a b => a = b
inductive FlR (X : Cx) (w : Wd) (n : Nat) : Fl -> Flow -> Prop
 | nx : FlR X w n .nx .next
 | rt {v : PV} {x : Value} : VR X.B w.fz w.al n v x -> FlR X w n (.rt v) (.ret x)
noncomputable def SE (X : Cx) (n : Nat) (F : FnC) (e : Expr) (C : M PV) : Prop:=Snd X n F (VRw X) (fun env => eval e env) C
noncomputable def STt (X : Cx) (n : Nat) (F : FnC) (e : Expr) (C : M Bool) : Prop:=Snd X n F EqR (fun env => isTrue e env (eval e env)) C
noncomputable def SS (X : Cx) (n : Nat) (F : FnC) (st : Stmt) (C : S) : Prop:=Snd X n F (FlR X) (fun env => exec st env) C
noncomputable def SSs (X : Cx) (n : Nat) (F : FnC) (ss : List Stmt) (C : S) : Prop:=Snd X n F (FlR X) (fun env => execs ss env) C
section
variable {X : Cx} {F : FnC} {cl : List (Str × Addr)} {O : Outer} {w : Wd} {σ : AS}
theorem keys_append (a b : Led) : keys (a ++ b) = keys a ++ keys b:=List.map_append
theorem nodup_mid {l r : List Addr} {a : Addr} (h : a ∉ l ++ r) (hn : (l ++ r).Nodup) : (l ++ a :: r).Nodup:=(List.perm_middle.nodup_iff).mpr (List.nodup_cons.mpr ⟨h, hn⟩)
theorem LocR.mono {w w' : Wd} {n n' : Nat} {nm : Str} {v : PV} (g : Grow w.fz w'.fz w.al w'.al n n') (hm : w'.m = w.m) (hc : w'.ce = w.ce) (h : LocR X F cl w n nm v) : LocR X F cl w' n' nm v:=by
 obtain ⟨x, hv, hx⟩:=h
 exact ⟨x, hv.mono g, by rw [hm, hc]; exact hx⟩
theorem StP.addFz (S : StP X F cl O w σ) {a : Addr} {o : Obj} (ha : a ∉ keys w.P) : StP X F cl O { w with fz:=(a, o) :: w.fz } σ:=by
 have g : Grow w.fz ((a, o) :: w.fz) w.al w.al σ.nxt σ.nxt:=⟨fun _ h => List.mem_cons_of_mem _ h, fun _ _ => rfl, yM _⟩
 refine ⟨?_, S.fo, fun i hi => (S.mem i hi).mono g fun _ h _ => h, S.inj, S.adr, fun i v e => ?_, S.cel, S.celi, S.ckd⟩
 ·have h1:=S.nod
  unfold Wd.P Wd.rest at ha h1 ⊢
  simp only [keys_append] at ha h1 ⊢
  show (keys w.mo ++ (keys w.ce ++ (keys w.tp ++ (a :: keys w.fz ++ keys w.fo)))).Nodup
  have e : keys w.mo ++ (keys w.ce ++ (keys w.tp ++ (a :: keys w.fz ++ keys w.fo))) = (keys w.mo ++ keys w.ce ++ keys w.tp) ++ a :: (keys w.fz ++ keys w.fo):=by simp [List.append_assoc]
  rw [e]
  exact nodup_mid (by simpa [List.append_assoc] using ha) (by simpa [List.append_assoc] using h1)
 ·obtain ⟨nm, h1, h2⟩:=S.locs i v e
  exact ⟨nm, h1, h2.mono g rfl rfl⟩
theorem StP.addTp (S : StP X F cl O w σ) {a : Addr} {o : Obj} (ha : a ∉ keys w.P) : StP X F cl O { w with tp:=(a, o) :: w.tp } σ:=by
 have g : Grow w.fz w.fz w.al w.al σ.nxt σ.nxt:=Grow.refl
 refine ⟨?_, S.fo, S.mem, S.inj, S.adr, fun i v e => ?_, S.cel, S.celi, S.ckd⟩
 ·have h1:=S.nod
  unfold Wd.P Wd.rest at ha h1 ⊢
  simp only [keys_append] at ha h1 ⊢
  show (keys w.mo ++ (keys w.ce ++ (a :: keys w.tp ++ (keys w.fz ++ keys w.fo)))).Nodup
  have e : keys w.mo ++ (keys w.ce ++ (a :: keys w.tp ++ (keys w.fz ++ keys w.fo))) = (keys w.mo ++ keys w.ce) ++ a :: (keys w.tp ++ (keys w.fz ++ keys w.fo)):=by simp [List.append_assoc]
  rw [e]
  exact nodup_mid (by simpa [List.append_assoc] using ha) (by simpa [List.append_assoc] using h1)
 ·obtain ⟨nm, h1, h2⟩:=S.locs i v e
  exact ⟨nm, h1, h2.mono g rfl rfl⟩
theorem StP.dropTp {w : Wd} {p : Addr × Obj} {tp : Led} (S : StP X F cl O { w with tp:=p :: tp } σ) : StP X F cl O { w with tp:=tp } σ:=by
 refine ⟨?_, S.fo, S.mem, S.inj, S.adr, fun i v e => ?_, S.cel, S.celi, S.ckd⟩
 ·refine List.Nodup.sublist ?_ S.nod
  unfold keys Wd.P Wd.rest
  exact List.Sublist.map _ (List.Sublist.append (List.Sublist.refl _) (List.Sublist.append (List.Sublist.refl _) (List.Sublist.append (List.sublist_cons_self _ _) (List.Sublist.refl _))))
 ·obtain ⟨nm, h1, h2⟩:=S.locs i v e
  exact ⟨nm, h1, h2.mono (w:={ w with tp:=p :: tp }) (w':={ w with tp:=tp }) Grow.refl rfl rfl⟩
noncomputable def al1 (f : Nat -> Addr) (n : Nat) (a : Addr) : Nat -> Addr:=fun j => if j = n then a else f j
theorem al1_self (f : Nat -> Addr) (n : Nat) (a : Addr) : al1 f n a n = a:=if_pos rfl
theorem al1_lt {f : Nat -> Addr} {n i : Nat} {a : Addr} (h : i < n) : al1 f n a i = f i:=if_neg (Nat.ne_of_lt h)
theorem al1_grow {fz : Led} (f : Nat -> Addr) (n : Nat) (a : Addr) : Grow fz fz f (al1 f n a) n (n + 1):=⟨fun _ h => h, fun _ h => al1_lt h, Nat.le_succ _⟩
theorem StP.newObj (S : StP X F cl O w σ) {es : Led} {a d : Addr} {o : AO} (hes : (keys es).Nodup) (hfr : ∀ b ∈ keys es, b ∉ keys w.P) (ha : a ∈ keys es) (hd : d ∈ keys es)
  (ho : OR X.B w.fz (al1 w.al σ.nxt a) (σ.nxt + 1) es o a d) :
  StP X F cl O { w with mo:=es ++ w.mo, al:=al1 w.al σ.nxt a, be:=al1 w.be σ.nxt d } ⟨σ.loc, upd σ.mem σ.nxt o, σ.nxt + 1⟩:=by
 have g:=al1_grow (fz:=w.fz) w.al σ.nxt a
 have inP : ∀ b ∈ keys w.mo, b ∈ keys w.P:=fun b hb => by unfold Wd.P; rw [keys_append]; exact List.mem_append_left _ hb
 have fr : ∀ {b c}, b ∈ keys es -> c ∈ keys w.mo -> b ≠ c:=fun hb hc e => hfr _ hb (inP _ (e ▸ hc))
 refine ⟨?_, S.fo, fun i hi => ?_, fun i j hi hj ne => ?_, fun i hi => ?_, fun i v e => ?_, S.cel, S.celi, S.ckd⟩
 ·show (keys ((es ++ w.mo) ++ w.rest)).Nodup
  rw [List.append_assoc, keys_append]
  refine List.nodup_append.mpr ⟨hes, S.nod, fun b hb c hc e => hfr b hb (e ▸ hc)⟩
 ·rcases Nat.lt_succ_iff_lt_or_eq.mp hi with hi | rfl
  ·have e : upd σ.mem σ.nxt o i = σ.mem i:=if_neg (Nat.ne_of_lt hi)
   show OR X.B w.fz (al1 w.al σ.nxt a) (σ.nxt + 1) (es ++ w.mo) (upd σ.mem σ.nxt o i) (al1 w.al σ.nxt a i) (al1 w.be σ.nxt d i)
   rw [e, al1_lt hi, al1_lt hi]
   exact (S.mem i hi).mono g fun p hp _ => List.mem_append_right _ hp
  ·have e : upd σ.mem σ.nxt o σ.nxt = o:=if_pos rfl
   show OR X.B w.fz (al1 w.al σ.nxt a) (σ.nxt + 1) (es ++ w.mo) (upd σ.mem σ.nxt o σ.nxt) (al1 w.al σ.nxt a σ.nxt) (al1 w.be σ.nxt d σ.nxt)
   rw [e, al1_self, al1_self]
   exact ho.mono Grow.refl fun p hp _ => List.mem_append_left _ hp
 ·show al1 w.al σ.nxt a i ≠ al1 w.al σ.nxt a j /\ al1 w.al σ.nxt a i ≠ al1 w.be σ.nxt d j /\ al1 w.be σ.nxt d i ≠ al1 w.al σ.nxt a j /\ al1 w.be σ.nxt d i ≠ al1 w.be σ.nxt d j
  rcases Nat.lt_succ_iff_lt_or_eq.mp hi with hi | rfl <;> rcases Nat.lt_succ_iff_lt_or_eq.mp hj with hj | rfl
  ·rw [al1_lt hi, al1_lt hj, al1_lt hi, al1_lt hj]; exact S.inj i j hi hj ne
  ·rw [al1_lt hi, al1_self, al1_lt hi, al1_self]
   have k:=S.adr i hi
   exact ⟨(fr ha k.1).symm, (fr hd k.1).symm, (fr ha k.2).symm, (fr hd k.2).symm⟩
  ·rw [al1_lt hj, al1_self, al1_lt hj, al1_self]
   have k:=S.adr j hj
   exact ⟨fr ha k.1, fr ha k.2, fr hd k.1, fr hd k.2⟩
  ·exact absurd rfl ne
 ·show al1 w.al σ.nxt a i ∈ keys (es ++ w.mo) /\ al1 w.be σ.nxt d i ∈ keys (es ++ w.mo)
  rw [keys_append]
  rcases Nat.lt_succ_iff_lt_or_eq.mp hi with hi | rfl
  ·rw [al1_lt hi, al1_lt hi]; exact ⟨List.mem_append_right _ (S.adr i hi).1, List.mem_append_right _ (S.adr i hi).2⟩
  ·rw [al1_self, al1_self]; exact ⟨List.mem_append_left _ ha, List.mem_append_left _ hd⟩
 ·obtain ⟨nm, h1, h2⟩:=S.locs i v e
  exact ⟨nm, h1, h2.mono (w:=w) (w':={ w with mo:=es ++ w.mo, al:=al1 w.al σ.nxt a, be:=al1 w.be σ.nxt d }) g rfl rfl⟩
theorem StP.unique (S : StP X F cl O w σ) {a : Addr} {o o' : Obj} (h : (a, o) ∈ w.P) (h' : (a, o') ∈ w.P) : o = o':=by
 have:=S.nod
 have key : ∀ {l : Led}, (keys l).Nodup -> (a, o) ∈ l -> (a, o') ∈ l -> o = o':=by
  intro l
  induction l with
  | nil => intro _ h; nomatch h
  | cons p r ih =>
   intro hn h h'
   have hn':=List.nodup_cons.mp (show ((p.1) :: keys r).Nodup from hn)
   rcases List.mem_cons.mp h with rfl | k <;> rcases List.mem_cons.mp h' with q | h'
   ·cases q; rfl
   ·exact absurd (List.mem_map.mpr ⟨_, h', rfl⟩) hn'.1
   ·subst q; exact absurd (show a ∈ keys r from List.mem_map.mpr ⟨(a, o), k, rfl⟩) hn'.1
   ·exact ih hn'.2 k h'
 exact key this h h'
theorem mem_mo {p : Addr × Obj} (h : p ∈ w.mo) : p ∈ w.P:=List.mem_append_left _ h
theorem StP.updP (S : StP X F cl O w σ) {d : Addr} {o o' : Obj} (h : (d, o) ∈ w.mo) : Upd d o o' w.P ({ w with mo:=setK d o' w.mo }).P:=by
 have e : ({ w with mo:=setK d o' w.mo }).P = setK d o' w.P:=by
  have nd:=S.nod
  unfold Wd.P at nd ⊢
  rw [keys_append] at nd
  rw [setK_append]
  have : d ∉ keys w.rest:=fun q => (List.nodup_append.mp nd).2.2 d (List.mem_map.mpr ⟨_, h, rfl⟩) d q rfl
  rw [setK_off this]; rfl
 rw [e]
 exact upd_setK S.nod (mem_mo h)
theorem StP.setObj (S : StP X F cl O w σ) {i : Nat} {d : Addr} {ob : Obj} {o : AO} (hi : i < σ.nxt) (hd : d = w.al i \/ d = w.be i) (hm : d ∈ keys w.mo)
  (ho : OR X.B w.fz w.al σ.nxt (setK d ob w.mo) o (w.al i) (w.be i)) : StP X F cl O { w with mo:=setK d ob w.mo } ⟨σ.loc, upd σ.mem i o, σ.nxt⟩:=by
 refine ⟨?_, S.fo, fun j hj => ?_, S.inj, fun j hj => ?_, fun j v e => ?_, S.cel, S.celi, S.ckd⟩
 ·show (keys (setK d ob w.mo ++ w.rest)).Nodup
  rw [keys_append, keys_setK, <- keys_append]; exact S.nod
 ·show OR X.B w.fz w.al σ.nxt (setK d ob w.mo) (upd σ.mem i o j) (w.al j) (w.be j)
  by_cases e : j = i
  ·subst e
   rw [show upd σ.mem j o j = o from if_pos rfl]; exact ho
  ·rw [show upd σ.mem i o j = σ.mem j from if_neg e]
   have k:=S.inj j i hj hi e
   refine (S.mem j hj).mono Grow.refl fun p hp hq => mem_setK_ne hp ?_
   rcases hq with hq | hq <;> rcases hd with rfl | rfl <;> rw [hq]
   ·exact k.1
   ·exact k.2.1
   ·exact k.2.2.1
   ·exact k.2.2.2
 ·show w.al j ∈ keys (setK d ob w.mo) /\ w.be j ∈ keys (setK d ob w.mo)
  rw [keys_setK]; exact S.adr j hj
 ·obtain ⟨nm, h1, h2⟩:=S.locs j v e
  exact ⟨nm, h1, h2.mono (w:=w) (w':={ w with mo:=setK d ob w.mo }) Grow.refl rfl rfl⟩
theorem StP.setLoc (S : StP X F cl O w σ) (hF : F.Ok) {i : Nat} {nm : Str} {v : PV} {x : Value} (hi : F.vars[i]? = some nm) (hl : F.scope.names.lookup nm = some .local) (hv : VR X.B w.fz w.al σ.nxt v x) :
  StP X F cl O { w with m:=fun y => if y = nm then some x else w.m y } ⟨σ.loc.set i (some v), σ.mem, σ.nxt⟩:=by
 refine ⟨S.nod, S.fo, S.mem, S.inj, S.adr, fun j u e => ?_, S.cel, S.celi, S.ckd⟩
 by_cases hj : j = i
 ·subst hj
  have l : j < σ.loc.length:=by
   have:=(List.getElem?_eq_some_iff.mp e).1
   simpa using this
  rw [List.getElem?_set_self l] at e
  cases e
  exact ⟨nm, hi, x, hv, .inl ⟨hl, if_pos rfl⟩⟩
 ·rw [List.getElem?_set_ne (Ne.symm hj)] at e
  obtain ⟨n', h1, y, h2, h3⟩:=S.locs j u e
  have ne : n' ≠ nm:=fun q => by
   obtain ⟨lj, ej⟩:=List.getElem?_eq_some_iff.mp h1
   obtain ⟨li, ei⟩:=List.getElem?_eq_some_iff.mp hi
   have:=(List.pairwise_iff_getElem.mp hF.nd)
   rcases Nat.lt_or_gt_of_ne hj with h | h
   ·exact this j i lj li h (by rw [ej, ei, q])
   ·exact this i j li lj h (by rw [ej, ei, q])
  exact ⟨n', h1, y, h2, h3.imp (fun z => ⟨z.1, (if_neg ne).trans z.2⟩) id⟩
end
end Mine
end
section
open PySem PySem.W PyProof.Rows PySem.Calls
set_option maxRecDepth 10000
namespace Mine
theorem dep1 {d n : Nat} (h : d + 2 * (n + 2) <= 900) : d + 1 + 2 * (n + 1) <= 900:=by omega
theorem uni1 {d n : Nat} (h : d + 10 * (n + 2) <= 9000) : d + 1 + 10 * (n + 1) <= 9000:=by omega
theorem dep2 {d n : Nat} (h : d + 2 * (n + 1) <= 900) : d < 1000:=Nat.lt_of_le_of_lt (yL (Nat.le_add_right _ _) h) (by decide)
theorem uni2 {d n c : Nat} (h : d + 10 * n <= 9000) (hc : c < 900) : d + c < 9900:=Nat.lt_of_le_of_lt (Nat.add_le_add_right (yL (Nat.le_add_right _ _) h) c) (Nat.add_lt_add_left hc 9000)
section
variable {X : Cx} {n : Nat} {F : FnC} {L : Addr} {cl : List (Str × Addr)} {O : Outer} {w : Wd} {σ : AS} {s : Shared} {A : Around} {env : Env} {Q : Value -> Shared -> Prop} {Er : Value -> Shared -> Prop}
theorem St.tk (S : St X F L cl O w σ s) (t : Nat) : St X F L cl O w σ { s with toks:=t }:=⟨S.pu, S.fr, S.nw, S.gens, S.os⟩
theorem St.fn (S : St X F L cl O w σ s) {h' : Heap} (t : Nat) (F' : Fr X.B L h' w.m) (N' : News X.B L h' w.P) : St X F L cl O w σ { s with heap:=h', toks:=t }:=⟨S.pu, F', N', S.gens, S.os⟩
theorem St.fn0 (S : St X F L cl O w σ s) {h' : Heap} (F' : Fr X.B L h' w.m) (N' : News X.B L h' w.P) : St X F L cl O w σ { s with heap:=h' }:=⟨S.pu, F', N', S.gens, S.os⟩
theorem St.keepsH (S : St X F L cl O w σ s) {h' : Heap} (t : Nat) (k : ∀ b o, s.heap.get? b = some o -> h'.get? b = some o) : St X F L cl O w σ { s with heap:=h', toks:=t } :=
 S.fn t (S.fr.keeps k) (fun p hp => ⟨k _ _ (S.nw p hp).1, (S.nw p hp).2⟩)
theorem St.size_off (S : St X F L cl O w σ s) : s.heap.objs.size ∉ keys w.P:=fun h => by
 obtain ⟨p, hp, e⟩:=List.mem_map.mp h
 have:=Heap.lt_size (S.nw p hp).1
 rw [show p.1 = s.heap.objs.size from e] at this
 exact Nat.lt_irrefl _ this
theorem Ext.tk {w : Wd} {n : Nat} : Ext w w n n:=.refl
noncomputable def opr : Op -> Operator
 | .add => .Add | .sub => .Sub | .mul => .Mult | .fdiv => .FloorDiv | .mod => .Mod | .pow => .Pow | .shl => .LShift | .shr => .RShift | .band => .BitAnd | .bor => .BitOr
theorem mulOk {a b : Int} (h : a.natAbs < 2 ^ 64 \/ b.natAbs < 2 ^ 64) : IntMulOk a b:=by
 rcases h with h | h
 ·exact .of_left (intBits_le_64 (by omega) (by omega))
 ·exact .of_right (intBits_le_64 (by omega) (by omega))
theorem noPy {a b : Int} (h : b.natAbs < 2 ^ 2048) : Builtin.divisionGoesByPylong a b = false:=by
 refine PyProof.noPylong_of_log2 ?_
 by_cases hz : b.natAbs = 0
 ·rw [hz]; decide
 ·exact yK ((Nat.log2_lt hz).mpr h) (by decide)
theorem intOp_ok {op : Op} {a b z : Int} {t u : Tok} (e : intOp op a b = some z) (h : Q (.int z s.toks) { s with toks:=s.toks + 1 }) : wpAny (model X.prog X.w) A (binaryOp (opr op) (.int a t) (.int b u)) Q Er s:=by
 cases op with
 | add => cases e; exact PyProof.Rows.add_int h
 | sub => cases e; exact PyProof.Rows.sub_int h
 | mul =>
  simp only [intOp] at e
  split at e <;> cases e
  exact PyProof.Rows.mul_int h (mulOk (by assumption))
 | fdiv =>
  simp only [intOp] at e
  split at e <;> cases e
  rename_i c
  exact PyProof.Rows.floordiv_int c.1 h (.inl (noPy c.2))
 | mod =>
  simp only [intOp] at e
  split at e <;> cases e
  exact PyProof.Rows.mod_int (by assumption) h
 | pow =>
  simp only [intOp] at e
  split at e <;> cases e
  rename_i c
  exact PyProof.Rows.pow_int_small c.1 c.2.1 c.2.2 h
 | shl =>
  simp only [intOp] at e
  split at e <;> cases e
  rename_i c
  exact PyProof.Rows.lshift_int_small c.1 c.2.1 c.2.2 h
 | shr =>
  simp only [intOp] at e
  split at e <;> cases e
  exact PyProof.Rows.rshift_int (by assumption) h
 | band => cases e; exact PyProof.Rows.and_int h
 | bor => cases e; exact PyProof.Rows.or_int h
theorem St.newList (S : St X F L cl O w σ s) {vs : List PV} {xs : List Value} {a : Addr} {k : Nat} {h' : Heap} {t : Nat} (hv : VRs X.B w.fz w.al σ.nxt vs xs) (ha : a ∉ keys w.P) (F' : Fr X.B L h' w.m)
  (N' : News X.B L h' ((a, listOf xs.toArray k) :: w.P)) :
  St X F L cl O { w with mo:=[(a, listOf xs.toArray k)] ++ w.mo, al:=al1 w.al σ.nxt a, be:=al1 w.be σ.nxt a } ⟨σ.loc, upd σ.mem σ.nxt (.list vs), σ.nxt + 1⟩ { s with heap:=h', toks:=t }:=by
 refine ⟨S.pu.newObj (by simp [keys]) (fun b hb => ?_) (.head _) (.head _) ⟨xs, k, .head _, hv.mono (al1_grow ..)⟩, F', N', S.gens, S.os⟩
 rw [List.mem_singleton.mp hb]; exact ha
theorem ext_new {w : Wd} {n : Nat} {a d : Addr} {es : Led} : Ext w { w with mo:=es ++ w.mo, al:=al1 w.al n a, be:=al1 w.be n d } n (n + 1):=⟨al1_grow .., rfl⟩
theorem vr_new {w : Wd} {n : Nat} {a d : Addr} {es : Led} : VRw X { w with mo:=es ++ w.mo, al:=al1 w.al n a, be:=al1 w.be n d } (n + 1) (.ref n) (.ref a):=by
 have h : VR X.B w.fz (al1 w.al n a) (n + 1) (.ref n) (.ref (al1 w.al n a n)):=.ref n (Nat.lt_succ_self _)
 rw [al1_self] at h
 exact h
theorem St.listAt (S : St X F L cl O w σ s) {i : Nat} {vs : List PV} (hi : i < σ.nxt) (e : σ.mem i = .list vs) : ∃ xs k, (w.al i, listOf xs.toArray k) ∈ w.mo /\ VRs X.B w.fz w.al σ.nxt vs xs:=by
 have:=S.pu.mem i hi
 rw [e] at this; exact this
theorem St.barrAt (S : St X F L cl O w σ s) {i : Nat} {b : List UInt8} (hi : i < σ.nxt) (e : σ.mem i = .barr b) : (w.al i, barrO b) ∈ w.mo:=by
 have:=S.pu.mem i hi
 rw [e] at this; exact this
theorem St.instAt (S : St X F L cl O w σ s) {i C : Nat} {fs : List (Nat × PV)} (hi : i < σ.nxt) (e : σ.mem i = .inst C fs) :
  (w.al i, instObj C (w.be i)) ∈ w.mo /\ (C = 199 \/ C = 283) /\ ∃ es k, (w.be i, dictOf es k) ∈ w.mo /\ FR X.B w.fz w.al σ.nxt fs es:=by
 have:=S.pu.mem i hi
 rw [e] at this; exact this
theorem St.isList (S : St X F L cl O w σ s) {a : Addr} {xs : List Value} {k : Nat} (h : (a, listOf xs.toArray k) ∈ w.mo) : s.heap.IsList a xs.toArray:=⟨_, (S.nw _ (mem_mo h)).1, rfl, k, rfl⟩
theorem lineSz_le : zLs <= sizeLine:=by decide
end
section
variable {X : Cx} {n : Nat} {F : FnC} {L : Addr} {cl : List (Str × Addr)} {O : Outer} {w : Wd} {σ : AS} {s : Shared} {A : Around} {env : Env} {Q : Value -> Shared -> Prop} {Er : Value -> Shared -> Prop}
theorem zi {i : Int} {k : Nat} {pos : Pos} : SE X n F (.Constant (.int i) k pos) (eK (.int i)):=fun A L cl O w σ s Q Er hA hS hP =>
 wpAny_Constant_int (hP _ _ _ (hS.tk _) .refl (.int _ _))
theorem se_none {k : Nat} {pos : Pos} : SE X n F (.Constant .none k pos) (eK .none):=fun A L cl O w σ s Q Er hA hS hP =>
 wpAny_Constant_none (hP _ _ _ hS .refl .none)
theorem se_bool {b : Bool} {k : Nat} {pos : Pos} : SE X n F (.Constant (.bool b) k pos) (eK (.bool b)):=fun A L cl O w σ s Q Er hA hS hP =>
 wpAny_Constant_bool (hP _ _ _ hS .refl (.bool _))
theorem se_str {x : Str} {k : Nat} {pos : Pos} : SE X n F (.Constant (.str x) k pos) (eK (.str x)):=fun A L cl O w σ s Q Er hA hS hP =>
 wpAny_Constant_str (hP _ _ _ (hS.tk _) .refl (.str _ _))
theorem se_byt {x : List UInt8} {k : Nat} {pos : Pos} : SE X n F (.Constant (.bytes x) k pos) (eK (.byt x)):=fun A L cl O w σ s Q Er hA hS hP =>
 Constant_bytes (hP _ _ _ (hS.tk _) .refl (.byt _ _))
theorem zl {nm : Str} {pos : Pos} {i : Nat} (hF : F.Ok) (hi : F.vars[i]? = some nm) : SE X n F (.Name nm pos) (eL i):=fun A L cl O w σ s Q Er hA hS hP => by
 unfold eL at hP
 split at hP
 ·rename_i v e
  obtain ⟨nm', h1, x, h2, h3⟩:=hS.pu.locs i v e
  obtain rfl : nm' = nm:=Option.some.inj (h1.symm.trans hi)
  have hd:=hF.dbg nm' (List.mem_of_getElem? hi)
  rcases h3 with ⟨hk, hm⟩ | ⟨hk, c, o, hc, ho, hod⟩
  ·exact nameX_L (cn:=F.qual) (cs:=F.scope) (a:=F.fa) (ccd:=F.cd) (cl:=cl) hS.fr hm (hP _ _ _ hS .refl h2) hF.fn hk hd
  ·exact nameX_C (cn:=F.qual) (cs:=F.scope) (a:=F.fa) (ccd:=F.cd) (cl:=cl) (L:=L) hS.nw hc (List.mem_append_right _ (List.mem_append_left _ ho)) hod (hP _ _ _ hS .refl h2) hF.fn hk hd
 ·exact hP.elim
theorem se_gint (hX : X.Ok) (hF : F.Ok) {nm : Str} {pos : Pos} {i : Int} {t : Tok} (e : nsIn X.K mainGlobals nm = some (some (.int i t))) (hk : F.scope.names.lookup nm = some .globalImplicit) (hd : (nm == ("__debug__" : Str)) = false) :
  SE X n F (.Name nm pos) (eK (.int i)):=fun A L cl O w σ s Q Er hA hS hP =>
 nameX_K (cn:=F.qual) (cs:=F.scope) (a:=F.fa) (ccd:=F.cd) (cl:=cl) hS.fr hX.K (topRead_of hX.T) e (hP _ _ _ hS .refl (.int _ _)) hF.fn hk hd
theorem gname (hX : X.Ok) (hF : F.Ok) {nm : Str} {pos : Pos} {v : Value} (e : nsIn X.K mainGlobals nm = some (some v)) (hk : F.scope.names.lookup nm = some .globalImplicit) (hd : (nm == ("__debug__" : Str)) = false)
  (S : St X F L cl O w σ s) (h : Q v s) : wpAny (model X.prog X.w) A (eval (.Name nm pos) (F.env L cl)) Q Er s :=
 nameX_K (cn:=F.qual) (cs:=F.scope) (a:=F.fa) (ccd:=F.cd) (cl:=cl) S.fr hX.K (topRead_of hX.T) e h hF.fn hk hd
theorem bname (hX : X.Ok) (hF : F.Ok) {nm : Str} {pos : Pos} {v : Value} (e : nsIn X.K mainGlobals nm = some none) (hv : bootBuiltins nm = some v) (hn : nm ≠ "__name__") (hk : F.scope.names.lookup nm = some .globalImplicit) (hd : (nm == ("__debug__" : Str)) = false)
  (S : St X F L cl O w σ s) (h : Q v s) : wpAny (model X.prog X.w) A (eval (.Name nm pos) (F.env L cl)) Q Er s :=
 nameX_B (cn:=F.qual) (cs:=F.scope) (a:=F.fa) (ccd:=F.cd) (cl:=cl) S.fr hX.K (topRead_of hX.T) e hv hn h hF.fn hk hd
theorem foldl_arr (l : List Value) : ∀ (k : Nat) (acc : Array Value), (List.replicate k l.toArray).foldl (fun x y => x ++ y) acc = acc ++ (List.replicate k l).flatten.toArray
 | 0, acc => by simp
 | k + 1, acc => by
  rw [List.replicate_succ, List.foldl_cons, foldl_arr l k, List.replicate_succ, List.flatten_cons]
  simp [Array.append_assoc]
theorem bin_ok (S : St X F L cl O w σ s) {op : Op} {v u : PV} {x y : Value} (hv : VRw X w σ.nxt v x) (hu : VRw X w σ.nxt u y)
  (hP : Post X F L cl O (VRw X) w σ.nxt (binM op v u σ) Q Er) : wpAny (model X.prog X.w) A (binaryOp (opr op) x y) Q Er s:=by
 induction hv using VR_cases with
 | int a t =>
  induction hu using VR_cases with
  | int b t' =>
   unfold binM at hP
   dsimp only at hP
   split at hP
   ·rename_i z e
    exact intOp_ok e (hP _ _ _ (S.tk _) .refl (.int _ _))
   ·exact hP.elim
  | _ => exact hP.elim
 | byt a t =>
  induction hu using VR_cases with
  | byt b t' =>
   cases op with
   | add =>
    unfold binM at hP
    dsimp only at hP
    split at hP
    ·rename_i hz
     refine bytes_add_K (d:=a ++ b) ?_ rfl fun t' k => hP _ _ _ (S.tk _) .refl (.byt _ _)
     simp only [List.size_toArray]
     exact yL hz (by decide)
    ·exact hP.elim
   | _ => exact hP.elim
  | int b t' =>
   cases op with
   | mul =>
    unfold binM at hP
    dsimp only at hP
    split at hP
    ·rename_i hz
     exact bytes_mul_any (fun e => by rw [e] at hz; cases hz.1) (Int.le_trans (by decide) hz.2.1) (Int.le_trans hz.2.2 (by decide)) (hz.1 ▸ (by decide : 1 <= 16)) fun t' k => hP _ _ _ (S.tk _) .refl (.byt _ _)
    ·exact hP.elim
   | _ => exact hP.elim
  | _ => exact hP.elim
 | ref i hi =>
  induction hu using VR_cases with
  | int b t' =>
   cases op with
   | mul =>
    unfold binM at hP
    dsimp only at hP
    split at hP
    ·rename_i vs hop hm
     split at hP
     ·rename_i hz
      obtain ⟨xs, k, hx, hvs⟩:=S.listAt hi hm
      have hlen:=hvs.length
      ·have hbu : b <= 1048576:=Int.le_trans hz.2.2 (by decide)
       have hbl:=hz.2.1
       refine PyProof.Rows.mul_list S.fr S.nw (S.nw _ (mem_mo hx)).1 (by omega) (by omega) ?_ fun h' F' N' => ?_
       ·rw [List.size_toArray, <- hlen]
        have h1 : b.toNat <= 1048576:=by omega
        calc vs.length * b.toNat <= 1 * 1048576:=Nat.mul_le_mul (Nat.le_of_eq hz.1) h1
         _ <= 2 ^ 24:=by decide
       ·have e : (List.replicate (if xs.toArray.isEmpty = true then 0 else b.toNat) xs.toArray).foldl (fun x1 x2 => x1 ++ x2) #[] = (rep xs b).toArray:=by
         rw [foldl_arr]
         cases xs with
         | nil =>
          have : ∀ k, (List.replicate k ([] : List Value)).flatten = []:=fun k => by induction k with | zero => rfl | succ k ih => rw [List.replicate_succ, List.flatten_cons, ih]; rfl
          simp [rep, this]
         | cons a r => simp [rep]
        rw [e] at N'
        exact hP _ _ _ (S.newList (hvs.flatten b.toNat) S.size_off F' N') ext_new vr_new
     ·exact hP.elim
    ·exact hP.elim
   | _ => exact hP.elim
  | ref j hj =>
   cases op with
   | add =>
    unfold binM at hP
    dsimp only at hP
    split at hP
    ·rename_i vs us hop hm hm'
     split at hP
     ·rename_i hz
      obtain ⟨xs, k, hx, hvs⟩:=S.listAt hi hm
      obtain ⟨ys, k', hy, hus⟩:=S.listAt hj hm'
      refine PyProof.Rows.add_arrays S.fr S.nw (S.isList hx) (S.isList hy) (fun h' F' N' => ?_) ?_
      ·exact hP _ _ _ (S.newList (hvs.append hus) S.size_off F' N') ext_new vr_new
      ·simp only [List.size_toArray]
       rw [<- hvs.length, <- hus.length]
       exact yL hz lineSz_le
     ·exact hP.elim
    ·exact hP.elim
   | _ => exact hP.elim
  | _ => exact hP.elim
 | _ => exact hP.elim
theorem zb {op : Op} {l r : Expr} {pos : Pos} {a b : M PV} (ha : SE X n F l a) (hb : SE X n F r b) : SE X n F (.BinOp l (opr op) r pos) (eBin op a b):=fun A L cl O w σ s Q Er hA hS hP =>
 wpAny_BinOp (ha A L cl O w σ s _ _ hA hS (hP.bind fun v σ1 x w1 s1 _ S1 E1 V1 P1 =>
  hb A L cl O w1 σ1 s1 _ _ hA S1 (P1.bind fun u σ2 y w2 s2 _ S2 E2 V2 P2 => bin_ok S2 (V1.mono E2.toGrow) V2 P2)))
theorem se_neg {e : Expr} {pos : Pos} {a : M PV} (ha : SE X n F e a) : SE X n F (.UnaryOp .USub e pos) (eNeg a):=fun A L cl O w σ s Q Er hA hS hP =>
 wpAny_UnaryOp (ha A L cl O w σ s _ _ hA hS (hP.bind fun v σ1 x w1 s1 _ S1 E1 V1 P1 => by
  induction V1 using VR_cases with
  | int i t => exact PyProof.Rows.neg_int (P1 _ _ _ (S1.tk _) .refl (.int _ _))
  | _ => exact P1.elim))
end
section
variable {X : Cx} {n : Nat} {F : FnC} {L : Addr} {cl : List (Str × Addr)} {O : Outer} {w : Wd} {σ : AS} {s : Shared} {A : Around} {env : Env} {Q : Value -> Shared -> Prop} {Er : Value -> Shared -> Prop}
noncomputable def opc : Cm -> CmpOp
 | .eq => .Eq | .ne => .NotEq | .lt => .Lt | .le => .LtE | .gt => .Gt | .ge => .GtE
theorem intCm_ok {c : Cm} {a b : Int} {t u : Tok} (h : Q (.bool (intCm c a b)) s) : wpAny (model X.prog X.w) A (compareOp (opc c) (.int a t) (.int b u)) Q Er s:=by
 rw [intCm_eq] at h
 cases c with
 | eq => exact PyProof.Rows.eq_int h
 | ne => exact PyProof.Rows.ne_int h
 | lt => exact PyProof.Rows.lt_int h
 | le => exact PyProof.Rows.le_int h
 | gt => exact PyProof.Rows.gt_int h
 | ge => exact PyProof.Rows.ge_int h
theorem cmp_ok (hA : Ar A n (F.env L cl) O) (S : St X F L cl O w σ s) {c : Cm} {v u : PV} {x y : Value} (hv : VRw X w σ.nxt v x) (hu : VRw X w σ.nxt u y)
  (hP : Post X F L cl O (EqR (α:=Bool)) w σ.nxt (cmpM c v u σ) (fun b s' => Q (.bool b) s') Er) : wpAny (model X.prog X.w) A (compareOp (opc c) x y) Q Er s:=by
 induction hv using VR_cases with
 | int a t =>
  induction hu using VR_cases with
  | int b t' => exact intCm_ok (hP _ _ _ S .refl rfl)
  | _ => exact hP.elim
 | byt a t =>
  induction hu using VR_cases with
  | byt b t' =>
   cases c with
   | eq => exact eq_bytes (hP _ _ _ S .refl rfl)
   | ne => exact ne_bytes (hP _ _ _ S .refl rfl)
   | _ => exact hP.elim
  | _ => exact hP.elim
 | str a t =>
  induction hu using VR_cases with
  | str b t' =>
   cases c with
   | eq => exact PyProof.Rows.eq_str (hP _ _ _ S .refl rfl)
   | ne => exact PyProof.Rows.ne_str (hP _ _ _ S .refl rfl)
   | _ => exact hP.elim
  | _ => exact hP.elim
 | ref i hi =>
  induction hu using VR_cases with
  | ref j hj =>
   unfold cmpM at hP
   dsimp only at hP
   split at hP
   ·rename_i vs us hm hm'
    split at hP
    ·rename_i ns ms e1 e2
     split at hP
     ·obtain ⟨xs, k, hx, hvs⟩:=S.listAt hi hm
      obtain ⟨ys, k', hy, hus⟩:=S.listAt hj hm'
      have hun : A.units + 64 < cLine:=by
       exact uni2 hA.units (by decide)
      cases c with
      | eq => exact eq_intsK (S.isList hx) (hvs.ints e1) (S.isList hy) (hus.ints e2) hun (hP _ _ _ S .refl rfl)
      | ne => exact ne_intsK (S.isList hx) (hvs.ints e1) (S.isList hy) (hus.ints e2) hun (hP _ _ _ S .refl rfl)
      | _ => exact hP.elim
     ·exact hP.elim
    ·exact hP.elim
   ·exact hP.elim
  | _ => exact hP.elim
 | _ => exact hP.elim
theorem se_cmp {c : Cm} {l r : Expr} {pos : Pos} {a b : M PV} (ha : SE X n F l a) (hb : SE X n F r b) (hm : behindInMarks (opc c) r = false) : SE X n F (.Compare l [opc c] [r] pos) (eB (tCmp c a b)):=fun A L cl O w σ s Q Er hA hS hP =>
 wpAny_Compare1 (ha A L cl O w σ s _ _ hA hS ((show Post X F L cl O (VRw X) w σ.nxt (bnd a (fun x => bnd (bnd b fun y => cmpM c x y) fun b => ret (.bool b)) σ) Q Er by
   exact Post.eq (bnd_assoc _ _ _ _) hP).bind fun v σ1 x w1 s1 _ S1 E1 V1 P1 =>
  hb A L cl O w1 σ1 s1 _ _ hA S1 ((show Post X F L cl O (VRw X) w1 σ1.nxt (bnd b (fun y => bnd (cmpM c v y) fun b => ret (.bool b)) σ1) Q Er by
   exact Post.eq (bnd_assoc _ _ _ _) P1).bind fun u σ2 y w2 s2 _ S2 E2 V2 P2 =>
   cmp_ok hA S2 (V1.mono E2.toGrow) V2 (P2.bind fun t σ3 t' w3 s3 _ S3 E3 V3 P3 => by
    cases V3
    exact P3 _ _ _ S3 .refl (.bool _))))) hm
theorem st_cmp {c : Cm} {l r : Expr} {pos : Pos} {a b : M PV} (ha : SE X n F l a) (hb : SE X n F r b) (hm : behindInMarks (opc c) r = false) : STt X n F (.Compare l [opc c] [r] pos) (tCmp c a b):=fun A L cl O w σ s Q Er hA hS hP =>
 wpAny_isTrue_Compare1 (ha A L cl O w σ s _ _ hA hS (hP.bind fun v σ1 x w1 s1 _ S1 E1 V1 P1 =>
  hb A L cl O w1 σ1 s1 _ _ hA S1 (P1.bind fun u σ2 y w2 s2 _ S2 E2 V2 P2 =>
   cmp_ok hA S2 (V1.mono E2.toGrow) V2 (P2.mono (fun b s' h => wpAny_truthy_bool h) fun _ _ h => h)))) hm
theorem st_isNone {l : Expr} {k : Nat} {pos pos' : Pos} {a : M PV} (ha : SE X n F l a) : STt X n F (.Compare l [.Is] [.Constant .none k pos'] pos) (tIsNone a):=fun A L cl O w σ s Q Er hA hS hP =>
 wpAny_isTrue_Compare1 (ha A L cl O w σ s _ _ hA hS (hP.bind fun v σ1 x w1 s1 _ S1 E1 V1 P1 =>
  wpAny_Constant_none (is_none (wpAny_truthy_bool (by
   have e : (x == Value.none) = isN v:=by cases V1 <;> rfl
   rw [e]
   exact P1 _ _ _ S1 .refl rfl)))))
theorem st_isNotNone {l : Expr} {k : Nat} {pos pos' : Pos} {a : M PV} (ha : SE X n F l a) : STt X n F (.Compare l [.IsNot] [.Constant .none k pos'] pos) (tNot (tIsNone a)):=fun A L cl O w σ s Q Er hA hS hP =>
 wpAny_isTrue_Compare1 (ha A L cl O w σ s _ _ hA hS ((show Post X F L cl O EqR w σ.nxt (bnd a (fun v => ret (!isN v)) σ) Q Er by
   exact Post.eq (bnd_assoc _ _ _ _) hP).bind fun v σ1 x w1 s1 _ S1 E1 V1 P1 =>
  wpAny_Constant_none (isNot_none (wpAny_truthy_bool (by
   have e : (x == Value.none) = isN v:=by cases V1 <;> rfl
   rw [e]
   exact P1 _ _ _ S1 .refl rfl)))))
theorem st_not {e : Expr} {pos : Pos} {t : M Bool} (ht : STt X n F e t) : STt X n F (.UnaryOp .Not e pos) (tNot t):=fun A L cl O w σ s Q Er hA hS hP =>
 wpAny_isTrue_Not (ht A L cl O w σ s _ _ hA hS (hP.bind fun v σ1 x w1 s1 _ S1 E1 V1 P1 => by
  cases V1
  exact P1 _ _ _ S1 .refl rfl))
theorem truth_ok (S : St X F L cl O w σ s) {v : PV} {x : Value} {Q : Bool -> Shared -> Prop} (hv : VRw X w σ.nxt v x) (hP : Post X F L cl O (EqR (α:=Bool)) w σ.nxt (truthM v σ) Q Er) : wpAny (model X.prog X.w) A (truthy x) Q Er s:=by
 induction hv using VR_cases with
 | int i t => exact PyProof.Rows.truthy_int (hP _ _ _ S .refl rfl)
 | bool b => exact wpAny_truthy_bool (hP _ _ _ S .refl rfl)
 | none => exact truthy_none (hP _ _ _ S .refl rfl)
 | _ => exact hP.elim
theorem st_val {e : Expr} {a : M PV} (ha : SE X n F e a) (he : ∀ env, isTrue e env (eval e env) = (do let v <- eval e env; standAt e.pos; holding [v] (truthy v))) : STt X n F e (tVal a):=fun A L cl O w σ s Q Er hA hS hP =>
 wpAny_isTrue_value (ha A L cl O w σ s _ _ hA hS (hP.bind fun v σ1 x w1 s1 _ S1 E1 V1 P1 => truth_ok S1 V1 P1)) (he _)
theorem se_if {t b e : Expr} {pos : Pos} {ct : M Bool} {cb ce : M PV} (ht : STt X n F t ct) (hb : SE X n F b cb) (he : SE X n F e ce) : SE X n F (.IfExp t b e pos) (eIf ct cb ce):=fun A L cl O w σ s Q Er hA hS hP =>
 wpAny_IfExp (ht A L cl O w σ s _ _ hA hS (hP.bind fun v σ1 x w1 s1 _ S1 E1 V1 P1 => by
  cases V1
  cases v with
  | true => exact hb A L cl O w1 σ1 s1 _ _ hA S1 P1
  | false => exact he A L cl O w1 σ1 s1 _ _ hA S1 P1))
noncomputable def SAll (X : Cx) (n : Nat) (F : FnC) (op : BoolOp) (es : List Expr) (C : M Bool) : Prop:=Snd X n F EqR (fun env => allTrue op es env) C
theorem st_bool {op : BoolOp} {es : List Expr} {pos : Pos} {C : M Bool} (h : SAll X n F op es C) : STt X n F (.BoolOp op es pos) C:=fun A L cl O w σ s Q Er hA hS hP =>
 wpAny_isTrue_BoolOp (h A L cl O w σ s _ _ hA hS hP)
theorem all_or {e : Expr} {es : List Expr} {t r : M Bool} (ht : STt X n F e t) (hr : SAll X n F .Or es r) : SAll X n F .Or (e :: es) (tOr t r):=fun A L cl O w σ s Q Er hA hS hP =>
 wpAny_allTrue_Or_cons (ht A L cl O w σ s _ _ hA hS (hP.bind fun v σ1 x w1 s1 _ S1 E1 V1 P1 => by
  cases V1
  cases v with
  | true => exact P1 _ _ _ S1 .refl rfl
  | false => exact hr A L cl O w1 σ1 s1 _ _ hA S1 P1))
theorem all_and {e : Expr} {es : List Expr} {t r : M Bool} (ht : STt X n F e t) (hr : SAll X n F .And es r) : SAll X n F .And (e :: es) (tAnd t r):=fun A L cl O w σ s Q Er hA hS hP =>
 wpAny_allTrue_And_cons (ht A L cl O w σ s _ _ hA hS (hP.bind fun v σ1 x w1 s1 _ S1 E1 V1 P1 => by
  cases V1
  cases v with
  | true => exact hr A L cl O w1 σ1 s1 _ _ hA S1 P1
  | false => exact P1 _ _ _ S1 .refl rfl))
theorem all_or1 {e : Expr} {t : M Bool} (ht : STt X n F e t) : SAll X n F .Or [e] t:=fun A L cl O w σ s Q Er hA hS hP =>
 wpAny_allTrue_Or_cons (ht A L cl O w σ s _ _ hA hS (hP.mono (fun b s' h => by
  cases b with
  | true => exact h
  | false => exact wpAny_allTrue_Or_nil h) fun _ _ h => h))
theorem all_and1 {e : Expr} {t : M Bool} (ht : STt X n F e t) : SAll X n F .And [e] t:=fun A L cl O w σ s Q Er hA hS hP =>
 wpAny_allTrue_And_cons (ht A L cl O w σ s _ _ hA hS (hP.mono (fun b s' h => by
  cases b with
  | true => exact wpAny_allTrue_And_nil h
  | false => exact h) fun _ _ h => h))
theorem st_chain2 {c d : Cm} {l r r' : Expr} {pos : Pos} {a b b' : M PV} (ha : SE X n F l a) (hb : SE X n F r b) (hb' : SE X n F r' b') (hm : lastMarks [opc c, opc d] [r, r'] = false) :
  STt X n F (.Compare l [opc c, opc d] [r, r'] pos) (tChain a [(c, b), (d, b')]):=fun A L cl O w σ s Q Er hA hS hP =>
 isTrue_chain (ha A L cl O w σ s _ _ hA hS ((show Post X F L cl O EqR w σ.nxt (bnd a (fun x => bnd b fun y => bnd (cmpM c x y) fun t => if t then (bnd b' fun z => cmpM d y z) else ret false) σ) Q Er from hP).bind fun v σ1 x w1 s1 _ S1 E1 V1 P1 =>
  test_link (hb A L cl O w1 σ1 s1 _ _ hA S1 (P1.bind fun u σ2 y w2 s2 _ S2 E2 V2 P2 =>
   cmp_ok hA S2 (V1.mono E2.toGrow) V2 (P2.bind fun t σ3 t' w3 s3 _ S3 E3 V3 P3 => by
    cases V3
    refine wpAny_truthy_bool ?_
    cases t with
    | false => exact P3 _ _ _ S3 .refl rfl
    | true => exact test_last (hb' A L cl O w3 σ3 s3 _ _ hA S3 (P3.bind fun z σ4 z' w4 s4 _ S4 E4 V4 P4 =>
      cmp_ok hA S4 ((V2.mono E3.toGrow).mono E4.toGrow) V4 (P4.mono (fun b s' h => wpAny_truthy_bool h) fun _ _ h => h))))))) ) hm
theorem st_chain3 {c d e : Cm} {l r r' r'' : Expr} {pos : Pos} {a b b' b'' : M PV} (ha : SE X n F l a) (hb : SE X n F r b) (hb' : SE X n F r' b') (hb'' : SE X n F r'' b'') (hm : lastMarks [opc c, opc d, opc e] [r, r', r''] = false) :
  STt X n F (.Compare l [opc c, opc d, opc e] [r, r', r''] pos) (tChain a [(c, b), (d, b'), (e, b'')]):=fun A L cl O w σ s Q Er hA hS hP =>
 isTrue_chain (ha A L cl O w σ s _ _ hA hS ((show Post X F L cl O EqR w σ.nxt (bnd a (fun x => bnd b fun y => bnd (cmpM c x y) fun t => if t then (bnd b' fun z => bnd (cmpM d y z) fun t => if t then (bnd b'' fun q => cmpM e z q) else ret false) else ret false) σ) Q Er from hP).bind fun v σ1 x w1 s1 _ S1 E1 V1 P1 =>
  test_link (hb A L cl O w1 σ1 s1 _ _ hA S1 (P1.bind fun u σ2 y w2 s2 _ S2 E2 V2 P2 =>
   cmp_ok hA S2 (V1.mono E2.toGrow) V2 (P2.bind fun t σ3 t' w3 s3 _ S3 E3 V3 P3 => by
    cases V3
    refine wpAny_truthy_bool ?_
    cases t with
    | false => exact P3 _ _ _ S3 .refl rfl
    | true => exact test_link (hb' A L cl O w3 σ3 s3 _ _ hA S3 (P3.bind fun z σ4 z' w4 s4 _ S4 E4 V4 P4 =>
      cmp_ok hA S4 ((V2.mono E3.toGrow).mono E4.toGrow) V4 (P4.bind fun t σ5 t' w5 s5 _ S5 E5 V5 P5 => by
       cases V5
       refine wpAny_truthy_bool ?_
       cases t with
       | false => exact P5 _ _ _ S5 .refl rfl
       | true => exact test_last (hb'' A L cl O w5 σ5 s5 _ _ hA S5 (P5.bind fun q σ6 q' w6 s6 _ S6 E6 V6 P6 =>
         cmp_ok hA S6 ((V4.mono E5.toGrow).mono E6.toGrow) V6 (P6.mono (fun b s' h => wpAny_truthy_bool h) fun _ _ h => h))))))))))) hm
noncomputable def SIt (X : Cx) (n : Nat) (F : FnC) (es : List Expr) (cs : List (M PV)) : Prop:=∀ pos : Pos, Snd X n F (VRsw X) (fun env => spliced (backTo pos (starEach es env))) (evs cs)
theorem zn : SIt X n F [] []:=fun pos A L cl O w σ s Q Er hA hS hP => wpAny_items_nil (hP _ _ _ hS .refl .nil)
theorem zc {e : Expr} {es : List Expr} {c : M PV} {cs : List (M PV)} (hc : SE X n F e c) (hcs : SIt X n F es cs) (he : ∀ env, starEach (e :: es) env = (false, eval e env) :: starEach es env) : SIt X n F (e :: es) (c :: cs) :=
 fun pos A L cl O w σ s Q Er hA hS hP => wpAny_items_cons (hc A L cl O w σ s _ _ hA hS (hP.bind fun v σ1 x w1 s1 _ S1 E1 V1 P1 =>
  hcs pos A L cl O w1 σ1 s1 _ _ hA S1 (P1.bind fun vs σ2 xs w2 s2 _ S2 E2 V2 P2 => P2 _ _ _ S2 .refl (.cons (V1.mono E2.toGrow) V2)))) (he _)
theorem evs_length : ∀ {cs : List (M PV)} {σ σ' : AS} {vs : List PV}, evs cs σ = .ok vs σ' -> vs.length = cs.length
 | [], _, _, _, e => by cases e; rfl
 | c :: cs, σ, σ', vs, e => by
  unfold evs bnd at e
  split at e
  ·rename_i v s1 e1
   dsimp only at e
   split at e
   ·rename_i us s2 e2
    cases e
    exact congrArg (· + 1) (evs_length e2)
   ·cases e
   ·cases e
  ·cases e
  ·cases e
theorem fz_P {w : Wd} {p : Addr × Obj} {q : Addr × Obj} (h : q ∈ ({ w with fz:=p :: w.fz } : Wd).P) : q ∈ p :: w.P:=by
 unfold Wd.P Wd.rest at h ⊢
 simp only [List.mem_append, List.mem_cons] at h ⊢
 rcases h with h | h | h | (h | h) | h
 ·exact .inr (.inl h)
 ·exact .inr (.inr (.inl h))
 ·exact .inr (.inr (.inr (.inl h)))
 ·exact .inl h
 ·exact .inr (.inr (.inr (.inr (.inl h))))
 ·exact .inr (.inr (.inr (.inr (.inr h))))
theorem ext_fz {w : Wd} {n : Nat} {p : Addr × Obj} : Ext w { w with fz:=p :: w.fz } n n:=⟨⟨fun _ h => List.mem_cons_of_mem _ h, fun _ _ => rfl, yM _⟩, rfl⟩
theorem St.newFz (S : St X F L cl O w σ s) {a : Addr} {o : Obj} {h' : Heap} {t : Nat} (ha : a ∉ keys w.P) (F' : Fr X.B L h' w.m) (N' : News X.B L h' ((a, o) :: w.P)) :
  St X F L cl O { w with fz:=(a, o) :: w.fz } σ { s with heap:=h', toks:=t } :=
 ⟨S.pu.addFz ha, F', fun p hp => N' p (fz_P hp), S.gens, S.os⟩
theorem newTup_ok (S : St X F L cl O w σ s) {vs : List PV} {xs : List Value} (hvs : VRsw X w σ.nxt vs xs) (hl : vs.length <= 1000)
  (hP : Post X F L cl O (VRw X) w σ.nxt (ret (.tup vs) σ) Q Er) : wpAny (model X.prog X.w) A (newTuple xs) Q Er s :=
 newTuple_N S.fr S.nw (fun h' F' N' => hP _ _ _ (S.newFz (t:=s.toks) S.size_off F' N') ext_fz (.tup _ _ _ (.head _) (hvs.mono ext_fz.toGrow))) (by
  rw [<- hvs.length]; exact yL hl (by decide))
theorem se_tup {es : List Expr} {k : Nat} {pos : Pos} {cs : List (M PV)} (h : SIt X n F es cs) (hl : cs.length <= 1000) : SE X n F (.Tuple es k pos) (eTup cs):=fun A L cl O w σ s Q Er hA hS hP =>
 Tuple_ (h pos A L cl O w σ s _ _ hA hS (hP.bind fun vs σ1 xs w1 s1 e1 S1 E1 V1 P1 => newTup_ok S1 V1 (by rw [evs_length e1]; exact hl) P1))
theorem se_list {es : List Expr} {pos : Pos} {cs : List (M PV)} (h : SIt X n F es cs) (hl : cs.length <= 1000) : SE X n F (.List es pos) (eList cs):=fun A L cl O w σ s Q Er hA hS hP =>
 List_ (h pos A L cl O w σ s _ _ hA hS (hP.bind fun vs σ1 xs w1 s1 e1 S1 E1 V1 P1 =>
  newList_N S1.fr S1.nw (fun h' F' N' => P1 _ _ _ (S1.newList (t:=s1.toks) V1 S1.size_off F' N') ext_new vr_new) (by
   rw [<- V1.length, evs_length e1]; exact yL hl (by decide))))
theorem st_notIn {l : Expr} {i j : Int} {k k1 k2 : Nat} {pos pos' p1 p2 : Pos} {a : M PV} (ha : SE X n F l a) :
  STt X n F (.Compare l [.NotIn] [.Tuple [.Constant (.int i) k1 p1, .Constant (.int j) k2 p2] k pos'] pos) (tNotIn a [i, j]):=fun A L cl O w σ s Q Er hA hS hP =>
 wpAny_isTrue_Compare1 (ha A L cl O w σ s _ _ hA hS (hP.bind fun v σ1 x w1 s1 _ S1 E1 V1 P1 => by
  induction V1 using VR_cases with
  | int y t =>
   refine Tuple_ (wpAny_items_cons (wpAny_Constant_int (wpAny_items_cons (wpAny_Constant_int (wpAny_items_nil ?_)))))
   have S2:=(S1.tk (s1.toks + 1)).tk (s1.toks + 1 + 1)
   refine newTuple_N S2.fr S2.nw (fun h' F' N' => ?_) (by show 2 <= sizeLine; decide)
   refine notin_tuple_ints (ns:=[i, j]) (items:=#[.int i s1.toks, .int j (s1.toks + 1)]) ⟨_, (N' _ (.head _)).1, rfl, 0, rfl⟩ (.cons _ _ (.cons _ _ .nil)) (wpAny_truthy_bool ?_)
   have e : (!([i, j].any (· == y))) = (!([i, j].contains y)):=by
    congr 1
    rw [List.contains_eq_any_beq]
    congr 1
    funext z
    exact Bool.beq_comm
   rw [e]
   exact P1 _ _ _ (S2.newFz (t:=s1.toks + 1 + 1) S2.size_off F' N') ext_fz rfl
  | _ => exact P1.elim))
end
section
variable {X : Cx} {n : Nat} {F : FnC} {L : Addr} {cl : List (Str × Addr)} {O : Outer} {w : Wd} {σ : AS} {s : Shared} {A : Around} {env : Env} {Q : Value -> Shared -> Prop} {Er : Value -> Shared -> Prop}
theorem St.tupAt (S : St X F L cl O w σ s) {a : Addr} {xs : List Value} (h : (a, tupO xs) ∈ w.fz) : IsTup s.heap a xs.toArray :=
 ⟨_, (S.nw (a, tupO xs) (List.mem_append_right _ (List.mem_append_right _ (List.mem_append_right _ (List.mem_append_left _ h))))).1, rfl, 0, rfl⟩
theorem idx_some {α : Type} {l : List α} {k : Int} {a : α} (e : idx l k = some a) : 0 <= k /\ k < zLs /\ l[k.toNat]? = some a:=by
 rw [idx_eq] at e
 split at e
 ·rename_i h; exact ⟨h.1, h.2, e⟩
 ·cases e
theorem sub_ok (S : St X F L cl O w σ s) {v u : PV} {x y : Value} {value slice : Expr} (hv : VRw X w σ.nxt v x) (hu : VRw X w σ.nxt u y) (hs : ∀ o i, subscripted slice false o i = operate [o, i] (getItem o i))
  (hP : Post X F L cl O (VRw X) w σ.nxt (subM v u σ) Q Er) : wpAny (model X.prog X.w) A (subscriptTail value slice x y) Q Er s:=by
 have hline : ((zLs : Nat) : Int) = 1048576:=by decide
 induction hv using VR_cases with
 | tup vs xs a hm hvs =>
  induction hu using VR_cases with
  | int k t =>
   unfold subM at hP
   dsimp only at hP
   split at hP
   ·rename_i v e
    obtain ⟨h0, h1, h2⟩:=idx_some e
    obtain ⟨x, hx, hvx⟩:=hvs.get h2
    have ht:=S.tupAt hm
    have hlt : k.toNat < xs.length:=(List.getElem?_eq_some_iff.mp hx).1
    refine tail_any ht.typeIs slot_tuple_getitem.lookup (PyProof.Rows.getItem_tuple ht (by lia) (by lia) (j:=k.toNat) ?_ (by simpa using hx) (hP _ _ _ S .refl hvx)) (hs _ _)
    have h3 : k < ((xs.toArray.size : Nat) : Int):=by simp only [List.size_toArray]; lia
    have h4 : ¬ k < 0:=by lia
    unfold seqIndex?
    simp only [h4, if_false, h0, h3, if_true, decide_true, Bool.and_self]
   ·exact hP.elim
  | _ => exact hP.elim
 | byt b t =>
  induction hu using VR_cases with
  | int k t' =>
   unfold subM at hP
   dsimp only at hP
   split at hP
   ·rename_i v e
    split at e
    ·rename_i hz
     obtain ⟨h0, h1, h2⟩:=idx_some e
     have hlt : k.toNat < b.length:=(List.getElem?_eq_some_iff.mp h2).1
     refine tail_any (typeIs_bytes _ _ _) FB.slot_bytes_getitem.lookup ?_ (hs _ _)
     refine getItem_bytes (yL hz (by decide)) h0 (by lia) ?_
     have ev : (b.getD k.toNat 0) = v:=by rw [yJ, h2]; rfl
     rw [ev]
     exact hP _ _ _ (S.tk _) .refl (.int _ _)
    ·cases e
   ·exact hP.elim
  | _ => exact hP.elim
 | ref i hi =>
  induction hu using VR_cases with
  | int k t =>
   unfold subM at hP
   dsimp only at hP
   split at hP
   ·rename_i vs hm
    split at hP
    ·rename_i v e
     obtain ⟨h0, h1, h2⟩:=idx_some e
     obtain ⟨xs, c, hx, hvs⟩:=S.listAt hi hm
     obtain ⟨x, hx', hvx⟩:=hvs.get h2
     have hl:=S.isList hx
     exact tail_any hl.typeIs slot_list_getitem.lookup (wpAny_getItem_list hl h0 (by lia) (by simpa using hx') (hP _ _ _ S .refl hvx)) (hs _ _)
    ·exact hP.elim
   ·exact hP.elim
  | _ => exact hP.elim
 | _ => exact hP.elim
theorem se_sub {l r : Expr} {pos : Pos} {a b : M PV} (ha : SE X n F l a) (hb : SE X n F r b) (hs : ∀ o i, subscripted r false o i = operate [o, i] (getItem o i)) : SE X n F (.Subscript l r pos) (eSub a b):=fun A L cl O w σ s Q Er hA hS hP =>
 Subscript_ (ha A L cl O w σ s _ _ hA hS (hP.bind fun v σ1 x w1 s1 _ S1 E1 V1 P1 =>
  hb A L cl O w1 σ1 s1 _ _ hA S1 (P1.bind fun u σ2 y w2 s2 _ S2 E2 V2 P2 => sub_ok S2 (V1.mono E2.toGrow) V2 hs P2)))
theorem cut_list {α : Type} (l : List α) (k h : Nat) : (l.drop (min k l.length)).take (min h l.length - min k l.length) = (l.take h).drop k:=by
 rw [List.drop_take]
 rcases Nat.le_total k l.length with hk | hk
 ·rw [Nat.min_eq_left hk]
  rcases Nat.le_total h l.length with hh | hh
  ·rw [Nat.min_eq_left hh]
  ·rw [Nat.min_eq_right hh, List.take_of_length_le (by rw [List.length_drop]; exact yM _), List.take_of_length_le (by rw [List.length_drop]; exact Nat.sub_le_sub_right hh k)]
 ·rw [Nat.min_eq_right hk, List.drop_length, List.drop_eq_nil_of_le hk, List.take_nil, List.take_nil]
theorem cutL_some {α : Type} {l r : List α} {lo hi : Option Int} (e : cutL l lo hi = some r) :
  l.length <= zLs /\ (∀ k, lo = some k -> 0 <= k) /\ (∀ k, hi = some k -> 0 <= k) /\ r = (l.drop (kms_lo lo l.length)).take (kms_hi hi l.length - kms_lo lo l.length):=by
 unfold cutL at e
 split at e
 ·rename_i h
  simp only [Bool.and_eq_true, decide_eq_true_eq] at h
  obtain ⟨⟨h1, h2⟩, h3⟩:=h
  have p1 : ∀ k, lo = some k -> 0 <= k:=fun k q => by
   subst q
   simp only [Option.all_some, okBound, dcd_iff, decide_eq_true_eq] at h1
   exact h1.1
  have p2 : ∀ k, hi = some k -> 0 <= k:=fun k q => by
   subst q
   simp only [Option.all_some, okBound, dcd_iff, decide_eq_true_eq] at h2
   exact h2.1
  refine ⟨h3, p1, p2, ?_⟩
  cases e
  have el : kms_lo lo l.length = min (loN lo) l.length:=by
   cases lo with
   | none => simp [kms_lo, loN]
   | some k => unfold kms_lo loN; dsimp only; rw [if_neg (by have:=p1 k rfl; lia)]
  rw [el]
  cases hi with
  | none =>
   have:=cut_list l (loN lo) l.length
   rw [List.take_of_length_le (yM _), Nat.min_self] at this
   exact this.symm
  | some k =>
   have eh : kms_hi (some k) l.length = min k.toNat l.length:=by
    unfold kms_hi; dsimp only; rw [if_neg (by have:=p2 k rfl; lia)]
   rw [eh]
   exact (cut_list l _ _).symm
 ·cases e
noncomputable def SPt (X : Cx) (n : Nat) (F : FnC) (oe : Option Expr) (om : Option (M PV)) : Prop:=Snd X n F (fun _ _ o x => IsPart x o) (fun env => evalPart oe env) (optI om)
theorem pt_none : SPt X n F none none:=fun A L cl O w σ s Q Er hA hS hP => wpAny_of_eq (evalPart_none _) (hP _ _ _ hS .refl .none)
theorem pt_some {e : Expr} {c : M PV} (h : SE X n F e c) : SPt X n F (some e) (some c):=fun A L cl O w σ s Q Er hA hS hP =>
 h A L cl O w σ s _ _ hA hS (hP.bind fun v σ1 x w1 s1 _ S1 E1 V1 P1 => by
  induction V1 using VR_cases with
  | int k t => exact P1 _ _ _ S1 .refl (.int _ _)
  | _ => exact P1.elim)
theorem vrs_any {B : Heap} {fz : Led} {al : Nat -> Addr} {n : Nat} {vs : List PV} {xs : List Value} {lo hi : Option Int} (h : VRs B fz al n vs xs) :
  VRs B fz al n ((vs.drop (kms_lo lo vs.length)).take (kms_hi hi vs.length - kms_lo lo vs.length)) (kms_pick xs lo hi):=by
 unfold kms_pick
 rw [<- h.length]
 exact (h.drop _).take _
theorem cut_ok (S : St X F L cl O w σ s) {v : PV} {x y z : Value} {lo hi : Option Int} {value slice : Expr} (hv : VRw X w σ.nxt v x) (hl : IsPart y lo) (hh : IsPart z hi) (hs : ∀ o i, subscripted slice false o i = operate [i, o] (getItem o i))
  (hP : Post X F L cl O (VRw X) w σ.nxt (cutM v lo hi σ) Q Er) :
  wpAny (model X.prog X.w) A (subscriptTail value slice x (.ref s.heap.objs.size)) Q Er { s with heap:=s.heap.push { cls:=.type "slice", data:=.fields #[y, z, .none] } }:=by
 have F0:=S.fr.push { cls:=.type "slice", data:=.fields #[y, z, .none] }
 have N0:=News.pushKeep S.nw { cls:=.type "slice", data:=.fields #[y, z, .none] }
 have S0:=S.fn0 F0 N0
 have list : ∀ {a : Addr} {xs : List Value} {vs r : List PV}, s.heap.IsList a xs.toArray -> VRs X.B w.fz w.al σ.nxt vs xs -> cutL vs lo hi = some r -> Post X F L cl O (VRw X) w σ.nxt (newO (.list r) σ) Q Er ->
   wpAny (model X.prog X.w) A (subscriptTail value slice (.ref a) (.ref s.heap.objs.size)) Q Er { s with heap:=s.heap.push { cls:=.type "slice", data:=.fields #[y, z, .none] } }:=by
  intro a xs vs r hl' hvs e hP'
  obtain ⟨c1, c2, c3, rfl⟩:=cutL_some e
  refine tail_any (hl'.push _).typeIs slot_list_getitem.lookup (wpAny_getItem_list_slice (hl'.push _) (Heap.IsSliceOf.new ..) hl hh .none (by simp) ?_ ?_) (hs _ _)
  ·rw [kms_pick_eq]
   have F1:=F0.push (listOf (kms_pick xs.toArray.toList lo hi).toArray 0)
   have N1:=News.push F0 N0 (listOf (kms_pick xs.toArray.toList lo hi).toArray 0)
   exact hP' _ _ _ (S0.newList (t:=s.toks) (k:=0) (vrs_any hvs) S0.size_off F1 N1) ext_new vr_new
  ·rw [List.size_toArray, <- hvs.length]; exact yL c1 lineSz_le
 cases hv with
 | «ints» ns xs a hb hi' =>
  unfold cutM at hP
  dsimp only at hP
  split at hP
  ·rename_i r e
   have e' : cutL (ns.map PV.int) lo hi = some (r.map PV.int):=by
    unfold cutL at e ⊢
    rw [yG]
    split at e
    ·rename_i c
     rw [if_pos c]
     cases e
     rw [List.map_drop]
     cases hi with
     | none => rfl
     | some h => simp only [hiL, List.map_take]
    ·cases e
   exact list (let ⟨o, ho, r⟩:=hb; ⟨o, S.fr.keep _ _ ho, r⟩) (VRs.of_ints hi') e' hP
  ·exact hP.elim
 | byt b t =>
  unfold cutM at hP
  dsimp only at hP
  split at hP
  ·rename_i r e
   obtain ⟨c1, c2, c3, rfl⟩:=cutL_some e
   refine tail_any (typeIs_bytes _ _ _) FB.slot_bytes_getitem.lookup (getItem_meets (typeIs_bytes _ _ _) (by decide) FB.slot_bytes_getitem FB.entry_bytes_getitem (FB.args_bytes_getitem_2 _ _) (KBc.meets_slice2 b.toArray t _ hl hh)
    ⟨Heap.IsSliceOf.new _ _ _ _, yL (KBc.size_picked_le _ lo hi) (by rw [List.size_toArray]; exact yL c1 lineSz_le), fun t' k => ?_⟩) (hs _ _)
   have ek : ∀ (o : Option Int) , (∀ k, o = some k -> 0 <= k) -> o.elim 0 (clipAt b.length) = kms_lo o b.length:=fun o ho => by
    cases o with
    | none => rfl
    | some k =>
     have:=ho k rfl
     obtain ⟨k', rfl⟩:=Int.eq_ofNat_of_zero_le this
     show clipAt _ _ = _
     rw [clipAt_nat]
     unfold kms_lo; dsimp only; rw [if_neg (by lia)]; rfl
   have eh : ∀ (o : Option Int) , (∀ k, o = some k -> 0 <= k) -> o.elim b.length (clipAt b.length) = kms_hi o b.length:=fun o ho => by
    cases o with
    | none => rfl
    | some k =>
     have:=ho k rfl
     obtain ⟨k', rfl⟩:=Int.eq_ofNat_of_zero_le this
     show clipAt _ _ = _
     rw [clipAt_nat]
     unfold kms_hi; dsimp only; rw [if_neg (by lia)]; rfl
   have hp : KBy.picked b.toArray lo hi = ((b.drop (kms_lo lo b.length)).take (kms_hi hi b.length - kms_lo lo b.length)).toArray:=by
    rw [KBc.picked_eq]
    simp only [List.size_toArray]
    rw [ek lo c2, eh hi c3]
   rw [hp]
   exact hP _ _ _ (S0.tk _) .refl (.byt _ _)
  ·exact hP.elim
 | ref i hi' =>
  unfold cutM at hP
  dsimp only at hP
  split at hP
  ·rename_i vs hm
   split at hP
   ·rename_i r e
    obtain ⟨xs, c, hx, hvs⟩:=S.listAt hi' hm
    exact list (S.isList hx) hvs e hP
   ·exact hP.elim
  ·exact hP.elim
 | _ => exact hP.elim
theorem se_cut {l : Expr} {pos pos' : Pos} {lo hi : Option Expr} {a : M PV} {clo chi : Option (M PV)} (ha : SE X n F l a) (hl : SPt X n F lo clo) (hh : SPt X n F hi chi) : SE X n F (.Subscript l (.Slice lo hi none pos') pos) (eCut a clo chi):=fun A L cl O w σ s Q Er hA hS hP =>
 Subscript_ (ha A L cl O w σ s _ _ hA hS (hP.bind fun v σ1 x w1 s1 _ S1 E1 V1 P1 =>
  wpAny_Slice (hl A L cl O w1 σ1 s1 _ _ hA S1 (P1.bind fun u σ2 y w2 s2 _ S2 E2 V2 P2 =>
   hh A L cl O w2 σ2 s2 _ _ hA S2 (P2.bind fun q σ3 z w3 s3 _ S3 E3 V3 P3 =>
    wpAny_of_eq (evalPart_none _) (cut_ok S3 ((V1.mono E2.toGrow).mono E3.toGrow) V2 V3 (fun _ _ => rfl) P3))))))
theorem rev_ok (S2 : St X F L cl O w σ s) {v : PV} {x : Value} {t : Tok} {value slice : Expr} (hv : VRw X w σ.nxt v x) (hs : ∀ o i, subscripted slice false o i = operate [o, i] (getItem o i))
  (P1 : Post X F L cl O (VRw X) w σ.nxt (revM v σ) Q Er) :
  wpAny (model X.prog X.w) A (subscriptTail value slice x (.ref s.heap.objs.size)) Q Er { s with heap:=s.heap.push { cls:=.type "slice", data:=.fields #[.none, .none, .int (-1) t] } }:=by
 have F0:=S2.fr.push { cls:=.type "slice", data:=.fields #[.none, .none, .int (-1) t] }
 have N0:=News.pushKeep S2.nw { cls:=.type "slice", data:=.fields #[.none, .none, .int (-1) t] }
 have S0:=S2.fn0 F0 N0
 induction hv using VR_cases with
 | ref i hi =>
  unfold revM at P1
  dsimp only at P1
  split at P1
  ·rename_i vs hm
   split at P1
   ·rename_i hz
    obtain ⟨xs, c, hx, hvs⟩:=S2.listAt hi hm
    have hl:=S2.isList hx
    refine tail_any (hl.push _).typeIs slot_list_getitem.lookup (wpAny_getItem_list_slice (hl.push _) (Heap.IsSliceOf.new ..) .none .none (.int (-1) t) (by decide) ?_ ?_) (hs _ _)
    ·rw [krv_pick]
     have F1:=F0.push (listOf xs.toArray.toList.reverse.toArray 0)
     have N1:=News.push F0 N0 (listOf xs.toArray.toList.reverse.toArray 0)
     exact P1 _ _ _ (S0.newList (t:=s.toks) (k:=0) hvs.reverse S0.size_off F1 N1) ext_new vr_new
    ·rw [List.size_toArray, <- hvs.length]; exact yL hz lineSz_le
   ·exact P1.elim
  ·exact P1.elim
 | _ => exact P1.elim
theorem se_rev {l : Expr} {pos pos' p1 p2 : Pos} {k : Nat} {a : M PV} (ha : SE X n F l a) : SE X n F (.Subscript l (.Slice none none (some (.UnaryOp .USub (.Constant (.int 1) k p1) p2)) pos') pos) (eRev a):=fun A L cl O w σ s Q Er hA hS hP =>
 Subscript_ (ha A L cl O w σ s _ _ hA hS (hP.bind fun v σ1 x w1 s1 _ S1 E1 V1 P1 =>
  wpAny_Slice (wpAny_of_eq (evalPart_none _) (wpAny_of_eq (evalPart_none _) (show wpAny _ _ (eval _ _) _ _ _ from (wpAny_UnaryOp (wpAny_Constant_int (PyProof.Rows.neg_int
   (rev_ok (s:={ s1 with toks:=s1.toks + 1 + 1 }) (S1.tk (s1.toks + 1 + 1)) V1 (fun _ _ => rfl) P1)))))))))
end
section
variable {X : Cx} {n : Nat} {F : FnC} {L : Addr} {cl : List (Str × Addr)} {O : Outer} {w : Wd} {σ : AS} {s : Shared} {A : Around} {env : Env} {Q : Value -> Shared -> Prop} {Er : Value -> Shared -> Prop}
noncomputable def GetOk (K : Frag) (nm : Str) : Prop:=∀ C, C = 199 \/ C = 283 -> plainGet K C nm = true /\ hasDictIn K C = true /\ ∃ attr, findIn K (.ref C) nm = some attr /\ noGet K attr = true
noncomputable def SetOk (K : Frag) (nm : Str) : Prop:=∀ C, C = 199 \/ C = 283 -> findIn K (.ref C) "__setattr__" = some (some (.builtin "object.__setattr__")) /\ plainOver K C = true /\ takerIn K C nm = some none /\ hasDictIn K C = true
theorem attr_ok (hX : X.Ok) (S : St X F L cl O w σ s) {v : PV} {x : Value} {k : Nat} {nm : Str} {expr : Bool} (hk : fnm[k]? = some nm) (hg : GetOk X.K nm) (hv : VRw X w σ.nxt v x)
  (hP : Post X F L cl O (VRw X) w σ.nxt (attrM k v σ) Q Er) : wpAny (model X.prog X.w) A (getAttr x nm expr) Q Er s:=by
 induction hv using VR_cases with
 | ref i hi =>
  unfold attrM at hP
  dsimp only at hP
  split at hP
  ·rename_i C fs hm
   split at hP
   ·rename_i u e
    refine yN fun hgl => ?_
    obtain ⟨h1, h2, es, c, h3, h4⟩:=S.instAt hi hm
    refine hgl ?_; clear hgl
    obtain ⟨y, hy, hvy⟩:=h4.getL hk e
    obtain ⟨g1, g2, attr, g3, g4⟩:=hg C h2
    exact get_own S.fr hX.K (InstAt.of_news S.nw (mem_mo h1) (mem_mo h3)) g1 g2 g3 g4 hy hvy.handed (hP _ _ _ (S.tk _) .refl hvy)
   ·exact hP.elim
  ·exact hP.elim
 | _ => exact hP.elim
theorem se_attr (hX : X.Ok) {o : Expr} {nm : Str} {pos : Pos} {k : Nat} {a : M PV} (hk : fnm[k]? = some nm) (hg : GetOk X.K nm) (ha : SE X n F o a)
  (he : ∀ env, eval (.Attribute o nm pos) env = (do
   let v <- eval o env
   standAt pos.atName
   let r <- holding [v] (getAttr v nm true)
   letTemporaryGo o v r
   pure r)) : SE X n F (.Attribute o nm pos) (eAttr a k):=fun A L cl O w σ s Q Er hA hS hP =>
 Attribute_any_ (ha A L cl O w σ s _ _ hA hS (hP.bind fun v σ1 x w1 s1 _ S1 E1 V1 P1 => attr_ok hX S1 hk hg V1 P1)) (he _)
theorem setAttr_ok (hX : X.Ok) (S : St X F L cl O w σ s) {v u : PV} {x y : Value} {k : Nat} {nm : Str} {Q : Unit -> Shared -> Prop} (hk : fnm[k]? = some nm) (hg : SetOk X.K nm) (hv : VRw X w σ.nxt v x) (hu : VRw X w σ.nxt u y)
  (hP : Post X F L cl O (EqR (α:=Unit)) w σ.nxt (setAttrM k v u σ) Q Er) : wpAny (model X.prog X.w) A (setAttr x nm y) Q Er s:=by
 induction hv using VR_cases with
 | ref i hi =>
  unfold setAttrM at hP
  dsimp only at hP
  split at hP
  ·rename_i C fs hm
   split at hP
   ·rename_i hz
    obtain ⟨h1, h2, es, c, h3, h4⟩:=S.instAt hi hm
    obtain ⟨g1, g2, g3, g4⟩:=hg C h2
    have hne : w.al i ≠ w.be i:=fun q => by
     have e:=S.pu.unique (mem_mo h1) (q ▸ mem_mo h3)
     have:=congrArg Obj.data e
     cases this
    have hlen : (putL nm (PyData.keyHash X.w.params nm) (.str nm (s.toks + 1)) y es).length <= 1000:=by
     have:=(h4.put (hs:=PyData.keyHash X.w.params nm) (t:=s.toks + 1) hk hu).length
     rw [<- this]; lia
    refine set_dict (news:=w.P) S.fr hX.K S.nw (InstAt.of_news S.nw (mem_mo h1) (mem_mo h3)) rfl g1 g2 g3 g4 ?_ rfl (S.pu.updP h3) hlen fun h' F' N' => ?_
    ·rw [getL_of h4.noRef]; rfl
    ·refine hP () { w with mo:=setK (w.be i) _ w.mo } _ ⟨?_, F', N', S.gens, S.os⟩ (.same rfl rfl rfl) rfl
     refine S.pu.setObj hi (.inr rfl) (S.pu.adr i hi).2 ⟨mem_setK_ne h1 hne, h2, _, _, mem_setK_self h3, h4.put hk hu⟩
   ·exact hP.elim
  ·exact hP.elim
 | _ => exact hP.elim
theorem setSub_ok (S : St X F L cl O w σ s) {v u q : PV} {x y z : Value} {Q : Unit -> Shared -> Prop} (hv : VRw X w σ.nxt v x) (hu : VRw X w σ.nxt u y) (hq : VRw X w σ.nxt q z)
  (hP : Post X F L cl O (EqR (α:=Unit)) w σ.nxt (setSubM v u q σ) Q Er) : wpAny (model X.prog X.w) A (setItem x y z) Q Er s:=by
 induction hv using VR_cases with
 | ref i hi =>
  induction hu using VR_cases with
  | int k t =>
   unfold setSubM at hP
   dsimp only at hP
   split at hP
   ·rename_i vs hm
    split at hP
    ·rename_i hz
     obtain ⟨xs, c, hx, hvs⟩:=S.listAt hi hm
     have hl:=hvs.length
     have hline : ((zLs : Nat) : Int) = 1048576:=by decide
     have hline' : zLs = 1048576:=by decide
     have U:=S.pu.updP (o':=listOf (xs.set k.toNat z).toArray c) hx
     obtain ⟨pre, post, e1, e2, a, b⟩:=U.split
     have N1:=S.nw
     rw [e1] at N1
     have zz:=N1 (w.al i, listOf xs.toArray c) (List.mem_append.mpr (.inr (.head _)))
     refine ki_setAt zz.1 hz.1 (by lia) (by rw [List.size_toArray]; lia) ?_
     have F1:=S.fr.change (Heap.SameBut.update (h:=s.heap) (a:=w.al i) (f:=Obj.mapSeq (·.setIfInBounds k.toNat z)) ..) zz.2.1 zz.2.2
     have N2:=ki_turn (its':=(xs.set k.toNat z).toArray) (n':=c) (·.setIfInBounds k.toNat z) N1 a b (by apply Array.toList_inj.mp; simp) (by simp)
     rw [<- e2] at N2
     refine hP () { w with mo:=setK (w.al i) (listOf (xs.set k.toNat z).toArray c) w.mo } _ ⟨?_, F1, N2, S.gens, S.os⟩ (.same rfl rfl rfl) rfl
     exact S.pu.setObj hi (.inl rfl) (S.pu.adr i hi).1 ⟨_, _, mem_setK_self hx, VRs.set hq hvs _⟩
    ·exact hP.elim
   ·exact hP.elim
  | _ => exact hP.elim
 | _ => exact hP.elim
theorem updF_setK {d : Addr} {o : Obj} : ∀ {l : Led}, (keys l).Nodup -> (d, o) ∈ l -> UpdF d o l (fun o' => setK d o' l)
 | [], _, h => nomatch h
 | p :: r, hn, h => by
  have hn':=List.nodup_cons.mp (show ((p.1) :: keys r).Nodup from hn)
  by_cases e : p.1 = d
  ·rcases List.mem_cons.mp h with rfl | h'
   ·have : (fun o' => setK d o' ((d, o) :: r)) = fun o' => (d, o') :: r:=by
     funext o'
     show (if d = d then (d, o') else (d, o)) :: setK d o' r = _
     rw [if_pos rfl, setK_off hn'.1]
    rw [this]
    exact .head fun q hq (e' : q.1 = d) => hn'.1 (List.mem_map.mpr ⟨q, hq, e'⟩)
   ·exact absurd (e ▸ List.mem_map_of_mem (f:=(·.1)) h' : p.1 ∈ keys r) hn'.1
  ·have : (fun o' => setK d o' (p :: r)) = fun o' => p :: setK d o' r:=by
    funext o'
    show (if p.1 = d then (d, o') else p) :: setK d o' r = _
    rw [if_neg e]
   rw [this]
   rcases List.mem_cons.mp h with rfl | h'
   ·exact absurd rfl e
   ·exact .tail e (updF_setK hn'.2 h')
theorem StP.updC (S : StP X F cl O w σ) {d : Addr} {o o' : Obj} (h : (d, o) ∈ w.ce) : setK d o' w.P = ({ w with ce:=setK d o' w.ce }).P:=by
 have nd:=S.nod
 unfold Wd.P Wd.rest at nd ⊢
 simp only [setK_append]
 rw [keys_append, keys_append] at nd
 have n1:=List.nodup_append.mp nd
 have n2:=List.nodup_append.mp n1.2.1
 have dk : d ∈ keys w.ce:=List.mem_map.mpr ⟨_, h, rfl⟩
 have h1 : d ∉ keys w.mo:=fun q => n1.2.2 d q d (List.mem_append_left _ dk) rfl
 have h2 : d ∉ keys (w.tp ++ (w.fz ++ w.fo)):=fun q => n2.2.2 d dk d q rfl
 rw [setK_off h1]
 have h3:=setK_off (o:=o') h2
 rw [setK_append, setK_append] at h3
 rw [h3]
theorem StP.setCel (S : StP X F cl O w σ) (hF : F.Ok) {i : Nat} {nm : Str} {v : PV} {x : Value} {c : Addr} {ob : Obj} (hi : F.vars[i]? = some nm) (hk : F.scope.names.lookup nm = some .cell) (hc : cl.lookup nm = some c)
  (hm : c ∈ keys w.ce) (hd : ob.data = .cell (some x)) (hv : VR X.B w.fz w.al σ.nxt v x) :
  StP X F cl O { w with ce:=setK c ob w.ce } ⟨σ.loc.set i (some v), σ.mem, σ.nxt⟩:=by
 obtain ⟨p, hp, rfl⟩:=List.mem_map.mp hm
 refine ⟨?_, S.fo, S.mem, S.inj, S.adr, fun j u e => ?_, fun nm' c' e => ?_, S.celi, S.ckd⟩
 ·show (keys ({ w with ce:=setK p.1 ob w.ce }).P).Nodup
  rw [<- S.updC hp, keys_setK]; exact S.nod
 ·by_cases hj : j = i
  ·subst hj
   have l : j < σ.loc.length:=by
    have:=(List.getElem?_eq_some_iff.mp e).1
    simpa using this
   rw [List.getElem?_set_self l] at e
   cases e
   exact ⟨nm, hi, x, hv, .inr ⟨hk, p.1, ob, hc, mem_setK_self hp, hd⟩⟩
  ·rw [List.getElem?_set_ne (Ne.symm hj)] at e
   obtain ⟨n', h1, y, h2, h3⟩:=S.locs j u e
   have ne : n' ≠ nm:=fun q => by
    obtain ⟨lj, ej⟩:=List.getElem?_eq_some_iff.mp h1
    obtain ⟨li, ei⟩:=List.getElem?_eq_some_iff.mp hi
    have:=(List.pairwise_iff_getElem.mp hF.nd)
    rcases Nat.lt_or_gt_of_ne hj with h | h
    ·exact this j i lj li h (by rw [ej, ei, q])
    ·exact this i j li lj h (by rw [ej, ei, q])
   refine ⟨n', h1, y, h2, h3.imp id ?_⟩
   intro hz0
   refine yN fun hgl => ?_
   obtain ⟨k1, c', o, k2, k3, k4⟩:=hz0
   refine hgl ?_; clear hgl
   exact ⟨k1, c', o, k2, mem_setK_ne k3 (fun (q : c' = p.1) => ne (S.celi _ _ _ k2 (q ▸ hc))), k4⟩
 ·obtain ⟨o, v', k1, k2⟩:=S.cel nm' c' e
  by_cases q : c' = p.1
  ·subst q; exact ⟨ob, _, mem_setK_self hp, hd⟩
  ·exact ⟨o, v', mem_setK_ne k1 q, k2⟩
theorem setL_ok (S : St X F L cl O w σ s) (hF : F.Ok) {i : Nat} {nm : Str} {v : PV} {x : Value} {Q : Unit -> Shared -> Prop} (hi : F.vars[i]? = some nm) (hv : VRw X w σ.nxt v x)
  (hP : Post X F L cl O (EqR (α:=Unit)) w σ.nxt (setL i v σ) Q Er) : wpAny (model X.prog X.w) A (storeName (F.env L cl) nm x) Q Er s:=by
 unfold setL at hP
 split at hP
 ·rcases hF.kind nm (List.mem_of_getElem? hi) with hk | hk
  ·exact storeX_L (cn:=F.qual) (cs:=F.scope) (a:=F.fa) (ccd:=F.cd) (cl:=cl) S.fr S.nw (fun h' F' N' => hP _ _ _ ⟨S.pu.setLoc hF hi hk hv, F', N', S.gens, S.os⟩ (.same rfl rfl rfl) rfl) hF.fn hk
  ·obtain ⟨c, hc⟩:=Option.isSome_iff_exists.mp (S.pu.ckd nm (List.mem_of_getElem? hi) hk)
   obtain ⟨o, v₀, h1, h2⟩:=S.pu.cel nm c hc
   refine storeX_C (cn:=F.qual) (cs:=F.scope) (a:=F.fa) (ccd:=F.cd) (cl:=cl) S.fr S.nw hc (updF_setK S.pu.nod (List.mem_append_right _ (List.mem_append_left _ h1))) h2 (fun h' o' F' N' hd => ?_) hF.fn hk
   rw [S.pu.updC h1] at N'
   exact hP () _ _ ⟨S.pu.setCel hF hi hk hc (List.mem_map.mpr ⟨_, h1, rfl⟩) hd hv, F', N', S.gens, S.os⟩ (.same rfl rfl rfl) rfl
 ·exact hP.elim
end
section
variable {X : Cx} {n : Nat} {F : FnC} {L : Addr} {cl : List (Str × Addr)} {O : Outer} {w : Wd} {σ : AS} {s : Shared} {A : Around} {env : Env} {Er : Value -> Shared -> Prop}
inductive ExT (X : Cx) (P : Led) (e C : Addr) (fl : Value) (h : Heap) : Prop where
 | mk (oe : _) (vs : _) (T : _) (oT : _) (ts : _) (h0 : h.get? e = some oe) (h1 : oe.cls = .ref C) (h2 : oe.data = .fields vs) (h3 : vs[1]? = some (.ref T)) (h4 : X.B.get? e = none) (h5 : e ∉ keys P) (h6 : X.B.get? T = none) (h7 : T ≠ e) (h8 : T ∉ keys P) (h9 : h.get? T = some oT) (h10 : oT.data = .fields ts) (h11 : ts[3]? = some fl) : ExT X P e C fl h
theorem ExT.at {P : Led} {e C : Addr} {fl : Value} {h : Heap} (x : ExT X P e C fl h) (ok : Value -> Prop) (hk : ok fl) : ExcAt X P e C ok h:=by
 obtain ⟨oe, vs, T, oT, ts, h1, h2, h3, h4, h5, h6, h7, h8, h9, h10, h11, h12⟩:=x
 exact ⟨oe, vs, h1, h2, h3, (Array.getElem?_eq_some_iff.mp h4).1, h5, h6, .inr ⟨T, oT, ts, fl, h4, h7, h8, h9, h10, h11, h12, hk⟩⟩
theorem P_split (w : Wd) : w.P = (w.mo ++ w.ce ++ w.tp ++ w.fz) ++ w.fo:=by unfold Wd.P Wd.rest; simp [List.append_assoc]
theorem FoR.frames {base h : Heap} {O : Outer} {l : Led} (x : FoR O l) : (∀ p ∈ l, h.get? p.1 = some p.2 /\ base.get? p.1 = none) -> h.FunFrames base (O.map (·.1)):=by
 induction x with
 | nil => exact fun _ => trivial
 | cons hk hf hm r ih =>
  rename_i L _ o _ _
  intro N
  obtain ⟨es, ep, hd, _⟩:=hm
  refine ⟨by rw [hk]; decide, ⟨L, o, hf, (N _ (.head _)).2, (N _ (.head _)).1, fun vs q => by rw [hd] at q; cases q⟩, ih fun p hp => N p (.tail _ hp)⟩
theorem FoR.slots {h h' : Heap} (hu : h.UpToSlots h') {O : Outer} {l : Led} (x : FoR O l) : (∀ p ∈ l, h.get? p.1 = some p.2) -> ∃ l', FoR O l' /\ keys l' = keys l /\ ∀ p ∈ l', h'.get? p.1 = some p.2:=by
 induction x with
 | nil => exact fun _ => ⟨[], .nil, rfl, fun _ hp => nomatch hp⟩
 | cons hk hf hm r ih =>
  rename_i L _ o _ _
  intro N
  obtain ⟨es, ep, hd, hs, hn⟩:=hm
  obtain ⟨l', a, b, c⟩:=ih fun p hp => N p (.tail _ hp)
  obtain ⟨sl, hsl⟩:=hu L o (N _ (.head _)) fun vs q => by rw [hd] at q; cases q
  refine ⟨(L, { o with slots:=sl }) :: l', .cons hk hf ⟨es, ep, hd, hs, hn⟩ a, by show L :: keys l' = L :: keys _; rw [b], fun p hp => ?_⟩
  rcases List.mem_cons.mp hp with rfl | hp
  ·exact hsl
  ·exact c p hp
theorem FoR.dict {O : Outer} {l : Led} (h : FoR O l) : ∀ p ∈ l, ∃ es ep, p.2.data = .dict es ep:=by
 induction h with
 | nil => exact fun _ h => nomatch h
 | cons _ _ hm _ ih =>
  intro p hp
  rcases List.mem_cons.mp hp with rfl | hp
  ·obtain ⟨es, ep, hd, _⟩:=hm; exact ⟨es, ep, hd⟩
  ·exact ih p hp
theorem St.noL (S : St X F L cl O w σ s) : X.B.get? L = none:=by
 cases q : X.B.get? L with
 | none => rfl
 | some o => exact absurd (yK (Heap.lt_size q) S.fr.above) (Nat.lt_irrefl _)
theorem mem_fo {p : Addr × Obj} (h : p ∈ w.fo) : p ∈ w.P:=by rw [P_split]; exact List.mem_append_right _ h
theorem St.turn (S : St X F L cl O w σ s) {e T : Addr} {h' : Heap} (he : X.B.get? e = none /\ e ∉ keys w.P) (hT : X.B.get? T = none /\ T ∉ keys w.P)
  (hb : (hideAll s.heap (e :: T :: L :: keys w.fo)).StaysIn h') (hu : s.heap.UpToSlots h') :
  ∃ w', St X F L cl O w' σ { s with heap:=h' } /\ Ext w w' σ.nxt σ.nxt /\ keys w'.P = keys w.P /\ keys w'.fo = keys w.fo:=by
 refine yN fun hgl => ?_
 obtain ⟨fo', a, b, c⟩:=S.pu.fo.slots hu fun p hp => (S.nw p (mem_fo hp)).1
 refine hgl ?_; clear hgl
 have ek : keys ({ w with fo:=fo' } : Wd).P = keys w.P:=by
  rw [P_split ({ w with fo:=fo' } : Wd), P_split w, keys_append, keys_append _ w.fo, b]
 have nd:=S.pu.nod
 rw [P_split, keys_append] at nd
 have nd':=(List.nodup_append.mp nd).2.2
 refine ⟨{ w with fo:=fo' }, ⟨?_, ⟨hu.ns S.fr.ns, fun q o hq => hb q o (hideAll_get _ (S.fr.keep q o hq) fun hm => ?_), S.fr.above⟩, fun p hp => ?_, S.gens, S.os⟩, .same rfl rfl rfl, ek, b⟩
 ·refine ⟨?_, a, S.pu.mem, S.pu.inj, S.pu.adr, fun i v e => ?_, S.pu.cel, S.pu.celi, S.pu.ckd⟩
  ·rw [ek]; exact S.pu.nod
  ·obtain ⟨nm, h1, h2⟩:=S.pu.locs i v e
   exact ⟨nm, h1, h2⟩
 ·have no : X.B.get? q = none:=by
   rcases List.mem_cons.mp hm with rfl | hm
   ·exact he.1
   rcases List.mem_cons.mp hm with rfl | hm
   ·exact hT.1
   rcases List.mem_cons.mp hm with rfl | hm
   ·exact S.noL
   obtain ⟨p, hp, rfl⟩:=List.mem_map.mp hm
   exact (S.nw p (mem_fo hp)).2.2
  rw [no] at hq; cases hq
 ·rw [P_split] at hp
  rcases List.mem_append.mp hp with hp | hp
  ·have hq : p ∈ w.P:=by rw [P_split]; exact List.mem_append_left _ hp
   have hk : p.1 ∈ keys w.P:=List.mem_map.mpr ⟨p, hq, rfl⟩
   have N:=S.nw p hq
   refine ⟨hb _ _ (hideAll_get _ N.1 fun hm => ?_), N.2⟩
   rcases List.mem_cons.mp hm with q | hm
   ·exact he.2 (q ▸ hk)
   rcases List.mem_cons.mp hm with q | hm
   ·exact hT.2 (q ▸ hk)
   rcases List.mem_cons.mp hm with q | hm
   ·exact N.2.1 q
   ·exact nd' p.1 (List.mem_map.mpr ⟨p, hp, rfl⟩) p.1 hm rfl
  ·have hk : p.1 ∈ keys w.fo:=b ▸ List.mem_map.mpr ⟨p, hp, rfl⟩
   obtain ⟨p', hp', e'⟩:=List.mem_map.mp hk
   have N:=S.nw p' (mem_fo hp')
   rw [e'] at N
   exact ⟨c p hp, N.2⟩
theorem St.frames (S : St X F L cl O w σ s) (hF : F.Ok) {base : Heap} (hL : base.get? L = none) (hfo : ∀ a ∈ keys w.fo, base.get? a = none) : s.heap.FunFrames base (F.env L cl :: O.map (·.1)):=by
 refine yN fun hgl => ?_
 obtain ⟨o, es, ep, ho, hd, _⟩:=S.fr.ns
 refine hgl ?_; clear hgl
 refine ⟨by show F.scope.kind ≠ _; rw [hF.fn]; decide, ⟨L, o, rfl, hL, ho, fun vs q => by rw [hd] at q; cases q⟩, S.pu.fo.frames fun p hp => ⟨(S.nw p (mem_fo hp)).1, hfo _ (List.mem_map.mpr ⟨p, hp, rfl⟩)⟩⟩
theorem off_of {w' : Wd} {T e T₀ : Addr} {h' : Heap} {oT : Obj} {ts : Array Value} (S : St X F L cl O w' σ { s with heap:=h' }) (ek : keys w'.P = keys w.P) (ef : keys w'.fo = keys w.fo) (hn : (hideAll s.heap (e :: T₀ :: L :: keys w.fo)).get? T = none) (S0 : St X F L cl O w σ s)
  (hT : h'.get? T = some oT) (hd : oT.data = .fields ts) (ne : T ≠ e) (he : X.B.get? e = none) (h0 : X.B.get? T₀ = none) (h0' : T₀ ∉ keys w.P) : X.B.get? T = none /\ T ∉ keys w'.P:=by
 have notL : T ≠ L:=fun q => by
  obtain ⟨o, es, ep, ho, hd', _⟩:=S.fr.ns
  subst q
  have:=ho.symm.trans hT
  cases this
  rw [hd] at hd'; cases hd'
 have notfo : T ∉ keys w.fo:=fun q => by
  have q' : T ∈ keys w'.fo:=by rw [ef]; exact q
  obtain ⟨p, hp, rfl⟩:=List.mem_map.mp q'
  have N:=S.nw p (mem_fo hp)
  obtain ⟨es, ep, hd'⟩:=S.pu.fo.dict p hp
  have:=N.1.symm.trans hT
  cases this
  rw [hd] at hd'; cases hd'
 have key : ∀ {o : Obj}, s.heap.get? T = some o -> T = T₀:=fun {o} e' => by
  by_cases q : T = T₀
  ·exact q
  ·have:=hideAll_get (e :: T₀ :: L :: keys w.fo) e' (fun hm => by
    rcases List.mem_cons.mp hm with z | hm
    ·exact ne z
    rcases List.mem_cons.mp hm with z | hm
    ·exact q z
    rcases List.mem_cons.mp hm with z | hm
    ·exact notL z
    ·exact notfo hm)
   rw [hn] at this; cases this
 constructor
 ·cases q : X.B.get? T with
  | none => rfl
  | some o => have z:=key (S0.fr.keep T o q); subst z; rw [h0] at q; cases q
 ·rw [ek]
  intro q
  obtain ⟨p, hp, rfl⟩:=List.mem_map.mp q
  have z:=key (S0.nw p hp).1
  exact h0' (z ▸ q)
theorem noted (S : St X F L cl O w σ s) {e T C : Addr} {a0 : Value} {h' : Heap} (he : X.B.get? e = none /\ e ∉ keys w.P) (hT : X.B.get? T = none /\ T ∉ keys w.P)
  (hN : Heap.NotedW (hideAll s.heap (e :: T :: L :: keys w.fo)) (F.env L cl :: O.map (·.1)) e (.ref C) a0 (rawInt L) s.heap h') :
  ∃ w', St X F L cl O w' σ { s with heap:=h' } /\ Ext w w' σ.nxt σ.nxt /\ ExT X w'.P e C (rawInt L) h':=by
 refine yN fun hgl => ?_
 obtain ⟨k1, _, ⟨oe, vs, T', oT, ts, t1, t2, t3, t4, t5, t6, t7, t8, t9⟩, k4⟩:=hN
 refine hgl ?_; clear hgl
 refine yN fun hgl => ?_
 obtain ⟨w', S', E, ek, ef⟩:=S.turn he hT k1 k4
 refine hgl ?_; clear hgl
 have off:=off_of S' ek ef t5 S t7 t8 t6 he.1 hT.1 hT.2
 exact ⟨w', S', E, oe, vs, T', oT, ts, t1, t2.1, t3, t4, he.1, by rw [ek]; exact he.2, off.1, t6, off.2, t7, t8, t9⟩
theorem note_ok (hF : F.Ok) (hfr : A.frames = some (F.env L cl :: O.map (·.1))) {C e : Addr} {Q : Unit -> Shared -> Prop} (hx : Fly X F L cl O w σ C e s)
  (h : ∀ w' s', St X F L cl O w' σ s' -> ExT X w'.P e C (rawInt L) s'.heap -> Ext w w' σ.nxt σ.nxt -> Q () s') : wpAny (model X.prog X.w) A (noteFrame (.ref e) (F.env L cl)) Q Er s:=by
 obtain ⟨S, oe, vs, h1, h2, h3, h4, h5, h6, h7⟩:=hx
 obtain ⟨a0, ha0⟩ : ∃ a0, vs[0]? = some a0:=⟨_, Array.getElem?_eq_getElem (by omega)⟩
 have stays : ∀ T, (hideAll s.heap (e :: T :: L :: keys w.fo)).StaysIn s.heap:=fun T b o q => of_hideAll _ q
 have hL : ∀ T, (hideAll s.heap (e :: T :: L :: keys w.fo)).get? L = none:=fun T => hideAll_none _ (.tail _ (.tail _ (.head _)))
 have hfo : ∀ T, ∀ a ∈ keys w.fo, (hideAll s.heap (e :: T :: L :: keys w.fo)).get? a = none:=fun T a ha => hideAll_none _ (.tail _ (.tail _ (.tail _ ha)))
 rcases h7 with h7 | ⟨T, oT, ts, fl, t1, t2, t3, t4, t5, t6, t7, t8⟩
 ·unfold noteFrame
  simp only [show (F.env L cl).frame = some L from rfl]
  refine wpAny_bind (wpAny_field h1 h3 h7 ?_)
  rw [if_neg (by decide)]
  refine wpAny_entryW (base:=hideAll s.heap (e :: e :: L :: keys w.fo)) hfr (S.frames hF (hL e) (hfo e)) rfl h1 (stays e) (hideAll_none _ (.head _)) h3 h4 ha0 fun h' hN => ?_
  rw [h2] at hN
  obtain ⟨w', S', E, x⟩:=noted S ⟨h5, h6⟩ ⟨h5, h6⟩ hN
  exact h w' _ S' x E
 ·rcases t8 with rfl | rfl
  ·refine wpAny_noteFrame_onW (cls:=.ref C) (base:=hideAll s.heap (e :: T :: L :: keys w.fo)) hfr (S.frames hF (hL T) (hfo T)) rfl ⟨oe, vs, T, oT, ts, h1, ⟨h2, ha0⟩, h3, t1, hideAll_none _ (.tail _ (.head _)), t3, t5, t6, t7⟩ (stays T) (hideAll_none _ (.head _)) fun h' hN => ?_
   obtain ⟨w', S', E, x⟩:=noted S ⟨h5, h6⟩ ⟨t2, t4⟩ hN
   exact h w' _ S' x E
  ·refine wpAny_noteFrame_againW (L:=L) (cls:=.ref C) (base:=hideAll s.heap (e :: T :: L :: keys w.fo)) rfl ⟨oe, vs, T, oT, ts, h1, ⟨h2, ha0⟩, h3, t1, hideAll_none _ (.tail _ (.head _)), t3, t5, t6, t7⟩ ?_
   exact h w s S ⟨oe, vs, T, oT, ts, h1, h2, h3, t1, h5, h6, t2, t3, t4, t5, t6, t7⟩ .refl
theorem St.upd_off (S : St X F L cl O w σ s) {T : Addr} {oT : Obj} {ts : Array Value} (f : Obj -> Obj) (hB : X.B.get? T = none) (hP : T ∉ keys w.P) (hT : s.heap.get? T = some oT) (hd : oT.data = .fields ts) :
  St X F L cl O w σ { s with heap:=s.heap.update T f }:=by
 have notL : L ≠ T:=fun q => by
  refine yN fun hgl => ?_
  obtain ⟨o, es, ep, ho, hd', _⟩:=S.fr.ns
  refine hgl ?_; clear hgl
  subst q
  have:=ho.symm.trans hT
  cases this
  rw [hd] at hd'; cases hd'
 have other : ∀ b, b ≠ T -> (s.heap.update T f).get? b = s.heap.get? b:=fun b hb => Heap.get?_update_other _ _ (Ne.symm hb)
 refine S.fn0 ⟨?_, fun b o e => (other b fun q => by rw [q, hB] at e; cases e).trans (S.fr.keep b o e), S.fr.above⟩ fun p hp => ⟨(other p.1 fun q => hP (q ▸ List.mem_map.mpr ⟨p, hp, rfl⟩)).trans (S.nw p hp).1, (S.nw p hp).2⟩
 obtain ⟨o, es, ep, ho, r⟩:=S.fr.ns
 exact ⟨o, es, ep, (other L notL).trans ho, r⟩
theorem flight_ok {C e : Addr} {fl : Value} {f : Option Addr} {Q : Unit -> Shared -> Prop} (S : St X F L cl O w σ s) (hx : ExT X w.P e C fl s.heap)
  (h : ∀ s', St X F L cl O w σ s' -> ExT X w.P e C (f.elim .none fun f => rawInt f) s'.heap -> Q () s') : wpAny (model X.prog X.w) A (setFlight (.ref e) f) Q Er s:=by
 obtain ⟨oe, vs, T, oT, ts, h1, h2, h3, h4, h5, h6, h7, h8, h9, h10, h11, h12⟩:=hx
 have hsz3 : 3 < ts.size:=(Array.getElem?_eq_some_iff.mp h12).1
 unfold setFlight
 refine wpAny_bind (wpAny_field h1 h3 h4 ?_)
 rw [if_pos (show (Value.ref T != Value.none) = true from by simp)]
 refine wpAny_setField h10 h11 hsz3 (h _ (S.upd_off _ h7 h9 h10 h11) ?_)
 exact ⟨oe, vs, T, _, _, (Heap.get?_update_other _ _ h8).trans h1, h2, h3, h4, h5, h6, h7, h8, h9, Heap.get?_update_self _ h10 (Obj.isFreed_of_fields (Obj.data_mapFields h11 _)), Obj.data_mapFields h11 _, by simp [hsz3]⟩
theorem own_err (hF : F.Ok) (hfr : A.frames = some (F.env L cl :: O.map (·.1))) {C e : Addr} (hx : Fly X F L cl O w σ C e s)
  (h : ∀ w' s', Fly X F L cl O w' σ C e s' -> Ext w w' σ.nxt σ.nxt -> Er (.ref e) s') : notedBy (model X.prog X.w) A (F.env L cl) (cameBackBy (model X.prog X.w) A (F.env L cl) Er) (.ref e) s:=by
 show wpAny _ A (noteFrame (.ref e) (F.env L cl)) (fun _ s'' => cameBackBy (model X.prog X.w) A (F.env L cl) Er (.ref e) s'') _ s
 refine note_ok hF hfr hx fun w' s' S' x E => ?_
 unfold cameBackBy
 have x':=x
 obtain ⟨oe, vs, T, oT, ts, h1, h2, h3, h4, r⟩:=x'
 refine wpAny_bind (wpAny_field h1 h3 h4 ?_)
 rw [if_neg (by simp)]
 exact flight_ok (f:=some L) S' x fun s2 S2 x2 => h w' s2 ⟨S2, x2.at _ (.inr rfl)⟩ E
end
section
variable {X : Cx} {n : Nat} {F : FnC} {L : Addr} {cl : List (Str × Addr)} {O : Outer} {w : Wd} {σ : AS} {s : Shared} {A : Around} {env : Env} {Er : Value -> Shared -> Prop}
theorem ss_nil : SSs X n F [] (sSeq []):=fun A L cl O w σ s Q Er hA hS hP => wpAny_execs_nil (hP _ _ _ hS .refl .nx)
theorem zss {st : Stmt} {ss : List Stmt} {a : S} {r : List S} (h : SS X n F st a) (hr : SSs X n F ss (sSeq r)) : SSs X n F (st :: ss) (sSeq (a :: r)):=fun A L cl O w σ s Q Er hA hS hP =>
 wpAny_execs_cons (h A L cl O w σ s _ _ hA hS (hP.bind fun v σ1 x w1 s1 _ S1 E1 V1 P1 => by
  cases V1 with
  | nx => exact hr A L cl O w1 σ1 s1 _ _ hA S1 P1
  | rt hv => exact P1 _ _ _ S1 .refl (.rt hv)))
theorem ss_asg {x : Str} {e : Expr} {i : Nat} {c : M PV} {p pos : Pos} (hF : F.Ok) (hi : F.vars[i]? = some x) (h : SE X n F e c) (hs : ∀ env, swapsWith e (some (.Name x p)) pos.line env = pure false) :
  SS X n F (.Assign [.Name x p] e pos) (sAsg i c):=fun A L cl O w σ s Q Er hA hS hP =>
 wpAny_Assign_Name (h A L cl O w σ s _ _ hA hS (hP.bind fun v σ1 x w1 s1 _ S1 E1 V1 P1 =>
  setL_ok S1 hF hi V1 (P1.bind fun _ σ2 _ w2 s2 _ S2 E2 _ P2 => P2 _ _ _ S2 .refl .nx))) (hs _)
theorem ss_asgA (hX : X.Ok) {o e : Expr} {nm : Str} {k : Nat} {co ce : M PV} {p pos : Pos} (hk : fnm[k]? = some nm) (hg : SetOk X.K nm) (h : SE X n F e ce) (ho : SE X n F o co)
  (hs : ∀ env, swapsWith e (some (.Attribute o nm p)) pos.line env = pure false) : SS X n F (.Assign [.Attribute o nm p] e pos) (sAsgA co k ce):=fun A L cl O w σ s Q Er hA hS hP =>
 plainObj_wpAny_Assign_Attribute (h A L cl O w σ s _ _ hA hS (hP.bind fun v σ1 x w1 s1 _ S1 E1 V1 P1 =>
  ho A L cl O w1 σ1 s1 _ _ hA S1 (P1.bind fun u σ2 y w2 s2 _ S2 E2 V2 P2 =>
   setAttr_ok hX S2 hk hg V2 (V1.mono E2.toGrow) (P2.bind fun _ σ3 _ w3 s3 _ S3 E3 _ P3 => P3 _ _ _ S3 .refl .nx)))) (hs _)
theorem ss_asgS {o i e : Expr} {co ci ce : M PV} {p pos : Pos} (h : SE X n F e ce) (ho : SE X n F o co) (hi : SE X n F i ci)
  (hs : ∀ env, swapsWith e (some (.Subscript o i p)) pos.line env = pure false) : SS X n F (.Assign [.Subscript o i p] e pos) (sAsgS co ci ce):=fun A L cl O w σ s Q Er hA hS hP =>
 wpAny_Assign_Subscript (h A L cl O w σ s _ _ hA hS (hP.bind fun v σ1 x w1 s1 _ S1 E1 V1 P1 =>
  ho A L cl O w1 σ1 s1 _ _ hA S1 (P1.bind fun u σ2 y w2 s2 _ S2 E2 V2 P2 =>
   hi A L cl O w2 σ2 s2 _ _ hA S2 (P2.bind fun q σ3 z w3 s3 _ S3 E3 V3 P3 =>
    setSub_ok S3 (V2.mono E3.toGrow) V3 ((V1.mono E2.toGrow).mono E3.toGrow) (P3.bind fun _ σ4 _ w4 s4 _ S4 E4 _ P4 => P4 _ _ _ S4 .refl .nx))))) (hs _)
noncomputable def augOk : Op -> Bool
 | .add | .sub | .shl | .shr | .bor => true
 | _ => false
theorem aug_ok (S : St X F L cl O w σ s) {op : Op} {v u : PV} {x y : Value} {Q : Value -> Shared -> Prop} (ho : augOk op = true) (hv : VRw X w σ.nxt v x) (hu : VRw X w σ.nxt u y)
  (hP : Post X F L cl O (VRw X) w σ.nxt (augM op v u σ) Q Er) : wpAny (model X.prog X.w) A (inplaceOp (opr op) x y) Q Er s:=by
 induction hv using VR_cases with
 | int a t =>
  induction hu using VR_cases with
  | int b t' =>
   unfold augM at hP
   dsimp only at hP
   split at hP
   ·rename_i z e
    have h:=hP _ _ _ (S.tk (s.toks + 1)) .refl (.int z s.toks)
    cases op with
    | add => cases e; exact PyProof.Rows.iadd_int h
    | sub => cases e; exact PyProof.Rows.isub_int h
    | shl =>
     simp only [intOp] at e
     split at e <;> cases e
     rename_i c
     exact PyProof.Rows.ilshift_int_small c.1 c.2.1 c.2.2 h
    | shr =>
     simp only [intOp] at e
     split at e <;> cases e
     exact PyProof.Rows.irshift_int (by assumption) h
    | bor => cases e; exact PyProof.Rows.ior_int h
    | _ => cases ho
   ·exact hP.elim
  | _ => exact hP.elim
 | _ => exact hP.elim
theorem load_ok (S : St X F L cl O w σ s) (hF : F.Ok) {nm : Str} {i : Nat} {Q : Value -> Shared -> Prop} (hi : F.vars[i]? = some nm) (hP : Post X F L cl O (VRw X) w σ.nxt (eL i σ) Q Er) :
  wpAny (model X.prog X.w) A (loadName (F.env L cl) nm) Q Er s:=by
 unfold eL at hP
 split at hP
 ·rename_i v e
  obtain ⟨nm', h1, x, h2, h3⟩:=S.pu.locs i v e
  obtain rfl : nm' = nm:=Option.some.inj (h1.symm.trans hi)
  rcases h3 with ⟨hk, hm⟩ | ⟨hk, c, o, hc, ho, hod⟩
  ·exact wpAny_loadName_local (env:=F.env L cl) hF.fn hk S.fr.ns hm (hP _ _ _ S .refl h2)
  ·exact wpAny_loadName_cell (env:=F.env L cl) hF.fn hk hc ⟨o, S.nw.get (List.mem_append_right _ (List.mem_append_left _ ho)), hod⟩ (hP _ _ _ S .refl h2)
 ·exact hP.elim
theorem ss_aug {x : Str} {e : Expr} {i : Nat} {op : Op} {c : M PV} {p pos : Pos} (hF : F.Ok) (ho : augOk op = true) (hi : F.vars[i]? = some x) (h : SE X n F e c) :
  SS X n F (.AugAssign (.Name x p) (opr op) e pos) (sAug i op c):=fun A L cl O w σ s Q Er hA hS hP =>
 wpAny_AugAssign_Name (load_ok hS hF hi (hP.bind fun v σ1 x w1 s1 _ S1 E1 V1 P1 =>
  h A L cl O w1 σ1 s1 _ _ hA S1 (P1.bind fun u σ2 y w2 s2 _ S2 E2 V2 P2 =>
   aug_ok S2 ho (V1.mono E2.toGrow) V2 (P2.bind fun z σ3 q w3 s3 _ S3 E3 V3 P3 =>
    setL_ok S3 hF hi V3 (P3.bind fun _ σ4 _ w4 s4 _ S4 E4 _ P4 => P4 _ _ _ S4 .refl .nx)))))
theorem ss_augA (hX : X.Ok) {o e : Expr} {nm : Str} {k : Nat} {op : Op} {co ce : M PV} {p pos : Pos} (ha : augOk op = true) (hk : fnm[k]? = some nm) (hg : GetOk X.K nm) (hset : SetOk X.K nm) (ho : SE X n F o co) (h : SE X n F e ce) :
  SS X n F (.AugAssign (.Attribute o nm p) (opr op) e pos) (sAugA co k op ce):=fun A L cl O w σ s Q Er hA hS hP =>
 wpAny_AugAssign_AttributeAny (ho A L cl O w σ s _ _ hA hS (hP.bind fun v σ1 x w1 s1 _ S1 E1 V1 P1 =>
  attr_ok hX S1 hk hg V1 (P1.bind fun u σ2 y w2 s2 _ S2 E2 V2 P2 =>
   h A L cl O w2 σ2 s2 _ _ hA S2 (P2.bind fun q σ3 z w3 s3 _ S3 E3 V3 P3 =>
    aug_ok S3 ha (V2.mono E3.toGrow) V3 (P3.bind fun t σ4 t' w4 s4 _ S4 E4 V4 P4 =>
     setAttr_ok hX S4 hk hset (((V1.mono E2.toGrow).mono E3.toGrow).mono E4.toGrow) V4 (P4.bind fun _ σ5 _ w5 s5 _ S5 E5 _ P5 => P5 _ _ _ S5 .refl .nx))))))
theorem ss_if {t : Expr} {a b : List Stmt} {ct : M Bool} {ca cb : List S} {pos : Pos} (ht : STt X n F t ct) (ha : SSs X n F a (sSeq ca)) (hb : SSs X n F b (sSeq cb)) : SS X n F (.If t a b pos) (sIf ct ca cb):=fun A L cl O w σ s Q Er hA hS hP =>
 wpAny_If (ht A L cl O w σ s _ _ hA hS (hP.bind fun v σ1 x w1 s1 _ S1 E1 V1 P1 => by
  cases V1
  cases v with
  | true => exact ha A L cl O w1 σ1 s1 _ _ hA S1 P1
  | false => exact hb A L cl O w1 σ1 s1 _ _ hA S1 P1))
theorem ss_ret {e : Expr} {c : M PV} {pos : Pos} (h : SE X n F e c) : SS X n F (.Return (some e) pos) (sRet c):=fun A L cl O w σ s Q Er hA hS hP =>
 wpAny_Return_some (h A L cl O w σ s _ _ hA hS (hP.bind fun v σ1 x w1 s1 _ S1 E1 V1 P1 => P1 _ _ _ S1 .refl (.rt V1)))
theorem ss_exp {e : Expr} {c : M PV} {pos : Pos} (hF : F.Ok) (h : SE X n F e c) (hs : ∀ env, env.scope.kind = .function -> swapsWith e none pos.line env = pure false) : SS X n F (.Expr e pos) (sExp c):=fun A L cl O w σ s Q Er hA hS hP =>
 wpAny_Expr_any (h A L cl O w σ s _ _ hA hS (hP.bind fun v σ1 x w1 s1 _ S1 E1 V1 P1 => by
  cases v with
  | ref => exact P1.elim
  | tup => exact P1.elim
  | «ints» => exact P1.elim
  | _ => exact P1 _ _ _ S1 .refl .nx)) (by unfold interactive; rw [show (F.env L cl).scope.kind = .function from hF.fn]; rfl) (hs _ hF.fn)
noncomputable def StoreAs (X : Cx) (env : Env) (f : Value -> Sem Unit) (nm : Str) : Prop:=∀ (A : Around) (v : Value) (Q : Unit -> Shared -> Prop) (Er : Value -> Shared -> Prop) (s : Shared), wpAny (model X.prog X.w) A (storeName env nm v) Q Er s -> wpAny (model X.prog X.w) A (f v) Q Er s
theorem storeAs_bind {nm : Str} : StoreAs X env (bindName env nm) nm:=fun A v Q Er s h => bindName_ h
theorem storeAs_assign {nm : Str} {p : Pos} : StoreAs X env (assign (.Name nm p) env) nm:=fun A v Q Er s h => PyProof.Rows.assign_Name h
inductive StoresAs (X : Cx) (env : Env) : List (Value -> Sem Unit) -> List Str -> Prop
 | nil : StoresAs X env [] []
 | cons {f : Value -> Sem Unit} {nm : Str} {fs : List (Value -> Sem Unit)} {nms : List Str} : StoreAs X env f nm -> StoresAs X env fs nms -> StoresAs X env (f :: fs) (nm :: nms)
theorem storesAs_bind : ∀ nms : List Str, StoresAs X env (nms.map fun nm => bindName env nm) nms
 | [] => .nil
 | nm :: r => .cons storeAs_bind (storesAs_bind r)
theorem setLs_ok (hF : F.Ok) {fs : List (Value -> Sem Unit)} {nms : List Str} (hfs : StoresAs X (F.env L cl) fs nms) : ∀ {is : List Nat} {vs : List PV} {xs : List Value} {w : Wd} {σ : AS} {s : Shared} {Q : Unit -> Shared -> Prop}, St X F L cl O w σ s ->
  is.map (F.vars[·]?) = nms.map some -> VRsw X w σ.nxt vs xs -> Post X F L cl O (EqR (α:=Unit)) w σ.nxt (setLs is vs σ) Q Er ->
  wpAny (model X.prog X.w) A (assignInOrder fs xs) Q Er s:=by
 induction hfs with
 | nil =>
  intro is vs xs w σ s Q S e hv hP
  cases is with
  | cons => cases e
  | nil =>
   cases hv with
   | nil =>
    show wpAny _ A (pure ()) Q Er s
    exact wpAny_pure (hP _ _ _ S .refl rfl)
   | cons => exact hP.elim
 | @cons f nm fs nms hf _ ih =>
  intro is vs xs w σ s Q S e hv hP
  cases is with
  | nil => cases e
  | cons i is =>
   cases hv with
   | nil => exact hP.elim
   | cons h1 h2 =>
    rename_i v x vs xs
    have e1 : F.vars[i]? = some nm:=(List.cons.inj e).1
    show wpAny _ A (do holding xs (f x); assignInOrder fs xs) Q Er s
    exact wpAny_bind (wpAny_holding (hf _ _ _ _ _ (setL_ok S hF e1 h1 (hP.bind fun _ σ1 _ w1 s1 _ S1 E1 _ P1 =>
     ih S1 (List.cons.inj e).2 (h2.mono E1.toGrow) P1))))
theorem items_ok (hA : Ar A n (F.env L cl) O) (hn : 1 <= n) (S : St X F L cl O w σ s) {a : Addr} {xs : List Value} {k : Nat} {Q : List Value -> Shared -> Prop} (hm : (a, tupO xs) ∈ w.fz) (hl : k = xs.length)
  (h : ∀ s', St X F L cl O w σ s' -> Q xs s') : wpAny (model X.prog X.w) A (unpackItems (.ref a) k none) Q Er s:=by
 have hh : A.handled = none:=hA.hd.resolve_right (by omega)
 have hlen : k = xs.toArray.size:=by rw [List.size_toArray]; exact hl
 rw [hlen]
 refine unpackItems_tuple hh (S.tupAt hm) fun h' hE => ?_
 have hk : ∀ b o, s.heap.get? b = some o -> h'.get? b = some o:=fun b o e => hE b o (Nat.ne_of_lt (Heap.lt_size e)) e
 exact h _ (S.keepsH s.toks hk)
theorem map_len {is : List Nat} {nms : List Str} (he : is.map (F.vars[·]?) = nms.map some) : nms.length = is.length:=by
 have:=congrArg List.length he
 rw [yG, yG] at this
 exact this.symm
theorem unpack_ok (hF : F.Ok) (hA : Ar A n (F.env L cl) O) (hn : 1 <= n) (S : St X F L cl O w σ s) {is : List Nat} {nms : List Str} {targets : List (Bool × (Value -> Sem Unit))} {v : PV} {x : Value} {Q : Unit -> Shared -> Prop}
  (he : is.map (F.vars[·]?) = nms.map some) (hfs : StoresAs X (F.env L cl) (targets.map (·.2)) nms) (hst : targets.findIdx? (·.1) = none) (htl : targets.length = nms.length)
  (hv : VRw X w σ.nxt v x) (hP : Post X F L cl O (EqR (α:=Unit)) w σ.nxt (unpackM is v σ) Q Er) :
  wpAny (model X.prog X.w) A (unpack x targets) Q Er s:=by
 induction hv using VR_cases with
 | tup vs xs a hm hvs =>
  unfold unpackM at hP
  dsimp only at hP
  split at hP
  ·rename_i hl
   unfold unpack
   rw [hst, htl]
   refine wpAny_bind (wpAny_holding (items_ok hA hn S hm (by rw [map_len he, <- hl, hvs.length]) fun s' S' => ?_))
   exact setLs_ok hF hfs S' he hvs hP
  ·exact hP.elim
 | _ => exact hP.elim
inductive Tg2 : List Expr -> List Str -> Prop
 | two {a b : Str} {p q : Pos} : Tg2 [.Name a p, .Name b q] [a, b]
 | three {a b c : Str} {p q r : Pos} : Tg2 [.Name a p, .Name b q, .Name c r] [a, b, c]
theorem Tg2.stores {es : List Expr} {nms : List Str} (h : Tg2 es nms) (env : Env) : StoresAs X env ((assignEach es env).map (·.2)) nms /\ (assignEach es env).findIdx? (·.1) = none /\ (assignEach es env).length = nms.length:=by
 cases h with
 | two => exact ⟨.cons storeAs_assign (.cons storeAs_assign .nil), rfl, rfl⟩
 | three => exact ⟨.cons storeAs_assign (.cons storeAs_assign (.cons storeAs_assign .nil)), rfl, rfl⟩
theorem tgt_tup (hF : F.Ok) (hA : Ar A n (F.env L cl) O) (hn : 1 <= n) (S : St X F L cl O w σ s) {es : List Expr} {k : Nat} {p : Pos} {is : List Nat} {nms : List Str} {v : PV} {x : Value} {Q : Unit -> Shared -> Prop}
  (ht : Tg2 es nms) (he : is.map (F.vars[·]?) = nms.map some) (hv : VRw X w σ.nxt v x) (hP : Post X F L cl O (EqR (α:=Unit)) w σ.nxt (unpackM is v σ) Q Er) :
  wpAny (model X.prog X.w) A (assign (.Tuple es k p) (F.env L cl) x) Q Er s:=by
 obtain ⟨h1, h2, h3⟩:=ht.stores (X:=X) (F.env L cl)
 show wpAny _ A (do standAt p; unpack x (assignEach es (F.env L cl))) Q Er s
 exact wpAny_bind (wpAny_standAt (unpack_ok hF hA hn S he h1 h2 h3 hv hP))
theorem ss_unp (hF : F.Ok) (hn : 1 <= n) {es : List Expr} {e : Expr} {k : Nat} {p pos : Pos} {is : List Nat} {nms : List Str} {c : M PV} (ht : Tg2 es nms) (he : is.map (F.vars[·]?) = nms.map some) (h : SE X n F e c)
  (hs : ∀ env, swapsWithSole [.Tuple es k p] e pos.line env = pure false) (hw : ∀ L cl, swappedStores [.Tuple es k p] e (F.env L cl) = pure none) :
  SS X n F (.Assign [.Tuple es k p] e pos) (sUnp is c):=fun A L cl O w σ s Q Er hA hS hP =>
 PyProof.Rows.Assign_Tuple (h A L cl O w σ s _ _ hA hS (hP.bind fun v σ1 x w1 s1 _ S1 E1 V1 P1 =>
  tgt_tup hF hA hn S1 ht he V1 (P1.bind fun _ σ2 _ w2 s2 _ S2 E2 _ P2 => P2 _ _ _ S2 .refl .nx))) (hs _) (hw _ _)
theorem vrs_rev {w : Wd} {n : Nat} {vs : List PV} {xs : List Value} (h : VRsw X w n vs xs) : VRsw X w n vs.reverse xs.reverse:=VRs.reverse h
theorem ss_swap (hF : F.Ok) (hn : 1 <= n) {es vs : List Expr} {k k' : Nat} {p p' pos : Pos} {is : List Nat} {nms : List Str} {cs : List (M PV)} (he : is.map (F.vars[·]?) = nms.map some) (h : SIt X n F vs cs) (hl : cs.length = nms.length) (hl' : cs.length <= 1000)
  (hs : ∀ env, swapsWithSole [.Tuple es k p] (.Tuple vs k' p') pos.line env = pure false) (hw : ∀ L cl, swappedStores [.Tuple es k p] (.Tuple vs k' p') (F.env L cl) = pure (some nms)) :
  SS X n F (.Assign [.Tuple es k p] (.Tuple vs k' p') pos) (sSwap is cs):=fun A L cl O w σ s Q Er hA hS hP =>
 Assign_Tuple_swapped (names:=nms) (Tuple_ (h p' A L cl O w σ s _ _ hA hS (hP.bind fun us σ1 xs w1 s1 e1 S1 E1 V1 P1 =>
  newTup_ok S1 V1 (by rw [evs_length e1]; exact hl') (show Post X F L cl O (VRw X) w1 σ1.nxt (.ok (.tup us) σ1) _ Er from fun x w2 s2 S2 E2 V2 => by
   cases V2 with
   | tup _ ys a hm hvs =>
    refine items_ok hA hn S2 hm (by rw [<- hvs.length, evs_length e1, hl]) fun s3 S3 => ?_
    refine setLs_ok hF (storesAs_bind nms.reverse) S3 ?_ (vrs_rev hvs) ((P1.ext E2).bind fun _ σ4 _ w4 s4 _ S4 E4 _ P4 => P4 _ _ _ S4 .refl .nx)
    rw [List.map_reverse, List.map_reverse, he])))) (hs _) (hw _ _)
inductive STs (X : Cx) (n : Nat) (F : FnC) : List Expr -> List (M PV × M PV) -> Prop
 | nil : STs X n F [] []
 | cons {o i : Expr} {p : Pos} {es : List Expr} {co ci : M PV} {cs : List (M PV × M PV)} : SE X n F o co -> SE X n F i ci -> STs X n F es cs -> STs X n F (.Subscript o i p :: es) ((co, ci) :: cs)
theorem STs.stars {es : List Expr} {cs : List (M PV × M PV)} (h : STs X n F es cs) (env : Env) : (assignEach es env).findIdx? (·.1) = none /\ (assignEach es env).length = cs.length /\ (assignEach es env).map (·.2) = es.map (assign · env):=by
 induction h with
 | nil => exact ⟨rfl, rfl, rfl⟩
 | cons _ _ _ ih =>
  obtain ⟨a, b, c⟩:=ih
  refine ⟨?_, ?_, ?_⟩
  ·show List.findIdx? (·.1) ((false, _) :: assignEach _ env) = none
   rw [List.findIdx?_cons, a]; rfl
  ·show (assignEach _ env).length + 1 = _
   rw [b]; rfl
  ·show _ :: (assignEach _ env).map (·.2) = _
   rw [c]; rfl
theorem assign_sub {o i : Expr} {p : Pos} {v : Value} {Q : Unit -> Shared -> Prop} (h : wpAny (model X.prog X.w) A (eval o env) (fun ov s₂ => wpAny (model X.prog X.w) A (eval i env) (fun iv s₃ => wpAny (model X.prog X.w) A (setItem ov iv v) Q Er s₃) Er s₂) Er s) :
  wpAny (model X.prog X.w) A (assign (.Subscript o i p) env v) Q Er s:=by
 rw [arm_assign_Subscript]
 exact wpAny_bind (wpAny_holding (wpAny_mono h (fun ov s2 h2 => wpAny_bind (wpAny_holding (wpAny_mono h2 (fun iv s3 h3 => wpAny_bind (wpAny_standAt (wpAny_bind (wpAny_holding (wpAny_mono h3 (fun _ s4 h4 => wpAny_release' h4) fun _ _ h => h))))) fun _ _ h => h))) fun _ _ h => h))
theorem setSubs_ok {es : List Expr} {cs : List (M PV × M PV)} (h : STs X n F es cs) : ∀ {vs : List PV} {xs : List Value} {w : Wd} {σ : AS} {s : Shared} {Q : Unit -> Shared -> Prop}, Ar A n (F.env L cl) O -> St X F L cl O w σ s -> VRsw X w σ.nxt vs xs ->
  Post X F L cl O (EqR (α:=Unit)) w σ.nxt (setSubs cs vs σ) Q Er -> wpAny (model X.prog X.w) A (assignInOrder (es.map (assign · (F.env L cl))) xs) Q Er s:=by
 induction h with
 | nil =>
  intro vs xs w σ s Q hA S hv hP
  cases hv with
  | nil =>
   show wpAny _ A (pure ()) Q Er s
   exact wpAny_pure (hP _ _ _ S .refl rfl)
  | cons => exact hP.elim
 | @cons o i p es co ci cs ho hi _ ih =>
  intro vs xs w σ s Q hA S hv hP
  cases hv with
  | nil => exact hP.elim
  | cons h1 h2 =>
   rename_i v x vs xs
   show wpAny _ A (do holding xs (assign (.Subscript o i p) (F.env L cl) x); assignInOrder (es.map (assign · (F.env L cl))) xs) Q Er s
   refine wpAny_bind (wpAny_holding (assign_sub (ho A L cl O w σ s _ _ hA S (hP.bind fun u σ1 y w1 s1 _ S1 E1 V1 P1 =>
    hi A L cl O w1 σ1 s1 _ _ hA S1 (P1.bind fun q σ2 z w2 s2 _ S2 E2 V2 P2 =>
     setSub_ok S2 (V1.mono E2.toGrow) V2 ((h1.mono E1.toGrow).mono E2.toGrow) (P2.bind fun _ σ3 _ w3 s3 _ S3 E3 _ P3 =>
      ih hA S3 (((h2.mono E1.toGrow).mono E2.toGrow).mono E3.toGrow) P3))))))
theorem ss_asgSs (hn : 1 <= n) {es vs : List Expr} {k k' : Nat} {p p' pos : Pos} {ts : List (M PV × M PV)} {cs : List (M PV)} (ht : STs X n F es ts) (h : SIt X n F vs cs) (hl : cs.length = ts.length) (hl' : cs.length <= 1000)
  (hs : ∀ env, swapsWithSole [.Tuple es k p] (.Tuple vs k' p') pos.line env = pure false) (hw : ∀ L cl, swappedStores [.Tuple es k p] (.Tuple vs k' p') (F.env L cl) = pure none) :
  SS X n F (.Assign [.Tuple es k p] (.Tuple vs k' p') pos) (sAsgSs ts cs):=fun A L cl O w σ s Q Er hA hS hP =>
 PyProof.Rows.Assign_Tuple (Tuple_ (h p' A L cl O w σ s _ _ hA hS (hP.bind fun us σ1 xs w1 s1 e1 S1 E1 V1 P1 =>
  newTup_ok S1 V1 (by rw [evs_length e1]; exact hl') (show Post X F L cl O (VRw X) w1 σ1.nxt (.ok (.tup us) σ1) _ Er from fun x w2 s2 S2 E2 V2 => by
   cases V2 with
   | tup _ ys a hm hvs =>
    obtain ⟨g1, g2, g3⟩:=ht.stars (F.env L cl)
    show wpAny _ A (do standAt p; unpack (.ref a) (assignEach es (F.env L cl))) _ Er s2
    refine wpAny_bind (wpAny_standAt ?_)
    unfold unpack
    rw [g1, g2, g3]
    refine wpAny_bind (wpAny_holding (items_ok hA hn S2 hm (by rw [<- hvs.length, evs_length e1, hl]) fun s3 S3 => ?_))
    exact setSubs_ok ht hA S3 hvs ((P1.ext E2).bind fun _ σ4 _ w4 s4 _ S4 E4 _ P4 => P4 _ _ _ S4 .refl .nx))))) (hs _) (hw _ _)
end
section
variable {X : Cx} {n : Nat} {F : FnC} {L : Addr} {cl : List (Str × Addr)} {O : Outer} {w : Wd} {σ : AS} {s : Shared} {A : Around} {env : Env} {Er : Value -> Shared -> Prop}
noncomputable def withTp (w : Wd) (tp : Led) : Wd:={ w with tp:=tp }
theorem withTp_eq {w : Wd} {tp : Led} (h : w.tp = tp) : withTp w tp = w:=by subst h; rfl
theorem tp_P {w : Wd} {p : Addr × Obj} {tp : Led} {q : Addr × Obj} (h : q ∈ (withTp w tp).P) : q ∈ (withTp w (p :: tp)).P:=by
 unfold Wd.P Wd.rest withTp at h ⊢
 simp only [List.mem_append, List.mem_cons] at h ⊢
 rcases h with h | h | h | h | h
 ·exact .inl h
 ·exact .inr (.inl h)
 ·exact .inr (.inr (.inl (.inr h)))
 ·exact .inr (.inr (.inr (.inl h)))
 ·exact .inr (.inr (.inr (.inr h)))
theorem P_tp {w : Wd} {p : Addr × Obj} {tp : Led} {q : Addr × Obj} (h : q ∈ (withTp w (p :: tp)).P) : q = p \/ q ∈ (withTp w tp).P:=by
 unfold Wd.P Wd.rest withTp at h ⊢
 simp only [List.mem_append, List.mem_cons] at h ⊢
 rcases h with h | h | (h | h) | h | h
 ·exact .inr (.inl h)
 ·exact .inr (.inr (.inl h))
 ·exact .inl h
 ·exact .inr (.inr (.inr (.inl h)))
 ·exact .inr (.inr (.inr (.inr (.inl h))))
 ·exact .inr (.inr (.inr (.inr (.inr h))))
theorem tp_head {w : Wd} {p : Addr × Obj} {tp : Led} (h : w.tp = p :: tp) : p ∈ w.P:=by
 unfold Wd.P Wd.rest
 rw [h]
 simp only [List.mem_append, List.mem_cons]
 exact .inr (.inr (.inl (.inl trivial)))
theorem StP.tpOnly {w : Wd} {p : Addr × Obj} {tp : Led} (S : StP X F cl O (withTp w (p :: tp)) σ) {q : Addr × Obj} (h : q ∈ (withTp w tp).P) : q.1 ≠ p.1:=by
 intro e
 have nd:=S.nod
 have k : (keys ((withTp w (p :: tp)).P)).Perm (p.1 :: keys (withTp w tp).P):=by
  unfold keys Wd.P Wd.rest withTp
  refine (List.Perm.map _ ?_).trans (List.Perm.of_eq (yC ..))
  have : w.mo ++ (w.ce ++ (p :: tp ++ (w.fz ++ w.fo))) = (w.mo ++ w.ce) ++ p :: (tp ++ (w.fz ++ w.fo)):=by simp
  show (w.mo ++ (w.ce ++ (p :: tp ++ (w.fz ++ w.fo)))).Perm (p :: (w.mo ++ (w.ce ++ (tp ++ (w.fz ++ w.fo)))))
  rw [this]
  refine List.perm_middle.trans (List.Perm.of_eq (by simp))
 exact (List.nodup_cons.mp (k.nodup_iff.mp nd)).1 (e ▸ List.mem_map.mpr ⟨q, h, rfl⟩)
theorem StP.reTp {w : Wd} {a : Addr} {o o' : Obj} {tp : Led} (S : StP X F cl O (withTp w ((a, o) :: tp)) σ) : StP X F cl O (withTp w ((a, o') :: tp)) σ:=by
 refine ⟨?_, S.fo, S.mem, S.inj, S.adr, fun i v e => ?_, S.cel, S.celi, S.ckd⟩
 ·have : keys (withTp w ((a, o') :: tp)).P = keys (withTp w ((a, o) :: tp)).P:=by unfold keys Wd.P Wd.rest withTp; simp
  rw [this]; exact S.nod
 ·obtain ⟨nm, h1, h2⟩:=S.locs i v e
  exact ⟨nm, h1, h2.mono (w:=withTp w ((a, o) :: tp)) (w':=withTp w ((a, o') :: tp)) Grow.refl rfl rfl⟩
theorem St.tpSet {a : Addr} {o o' : Obj} {tp : Led} (S : St X F L cl O (withTp w ((a, o) :: tp)) σ s) {h' : Heap} (t : Nat) (ho : h'.get? a = some o') (hE : Heap.ExtBut a s.heap h') :
  St X F L cl O (withTp w ((a, o') :: tp)) σ { s with heap:=h', toks:=t }:=by
 have N:=S.nw (a, o) (tp_head rfl)
 refine ⟨S.pu.reTp, ?_, fun p hp => ?_, S.gens, S.os⟩
 ·obtain ⟨oL, es, ep, hL, r⟩:=S.fr.ns
  exact ⟨⟨oL, es, ep, hE L oL (fun q => N.2.1 q.symm) hL, r⟩, fun b ob e => hE b ob (fun q => by rw [q, N.2.2] at e; cases e) (S.fr.keep b ob e), S.fr.above⟩
 ·rcases P_tp hp with rfl | hp
  ·exact ⟨ho, N.2⟩
  ·have:=S.nw p (tp_P hp)
   exact ⟨hE _ _ (S.pu.tpOnly hp) this.1, this.2⟩
theorem St.tpDrop {a : Addr} {o : Obj} {tp : Led} (S : St X F L cl O (withTp w ((a, o) :: tp)) σ s) {h' : Heap} (t : Nat) (hE : Heap.ExtBut a s.heap h') :
  St X F L cl O (withTp w tp) σ { s with heap:=h', toks:=t }:=by
 have N:=S.nw (a, o) (tp_head rfl)
 refine ⟨StP.dropTp (w:=w) S.pu, ?_, fun p hp => ?_, S.gens, S.os⟩
 ·obtain ⟨oL, es, ep, hL, r⟩:=S.fr.ns
  exact ⟨⟨oL, es, ep, hE L oL (fun q => N.2.1 q.symm) hL, r⟩, fun b ob e => hE b ob (fun q => by rw [q, N.2.2] at e; cases e) (S.fr.keep b ob e), S.fr.above⟩
 ·have:=S.nw p (tp_P hp)
  exact ⟨hE _ _ (S.pu.tpOnly hp) this.1, this.2⟩
theorem Fly.tpDrop {C e : Addr} {p : Addr × Obj} {tp : Led} (x : Fly X F L cl O (withTp w (p :: tp)) σ C e s) : Fly X F L cl O (withTp w tp) σ C e s:=by
 obtain ⟨S, oe, vs, h1, h2, h3, h4, h5, h6, h7⟩:=x
 have sub : ∀ a, a ∉ keys (withTp w (p :: tp)).P -> a ∉ keys (withTp w tp).P:=fun a h q => by
  obtain ⟨r, hr, rfl⟩:=List.mem_map.mp q
  exact h (List.mem_map.mpr ⟨r, tp_P hr, rfl⟩)
 refine ⟨S.tpDrop (o:=p.2) s.toks (.refl _ _), oe, vs, h1, h2, h3, h4, h5, sub _ h6, h7.imp id ?_⟩
 rintro ⟨T, oT, ts, fl, t1, t2, t3, t4, t5, t6, t7, t8⟩
 exact ⟨T, oT, ts, fl, t1, t2, t3, sub _ t4, t5, t6, t7, t8⟩
theorem St.tpAdd (S : St X F L cl O w σ s) {a : Addr} {o : Obj} {h' : Heap} {t : Nat} (ha : a ∉ keys w.P) (F' : Fr X.B L h' w.m) (N' : News X.B L h' ((a, o) :: w.P)) :
  St X F L cl O (withTp w ((a, o) :: w.tp)) σ { s with heap:=h', toks:=t } :=
 ⟨S.pu.addTp ha, F', fun p hp => N' p ((P_tp hp).elim (fun h => h ▸ .head _) fun h => .tail _ h), S.gens, S.os⟩
noncomputable abbrev RL (X : Cx) (A : Around) (env : Env) (Q : Flow -> Shared -> Prop) (Er : Value -> Shared -> Prop) : Result -> Shared -> Prop:=fun r s' => match r with
 | .ok f => Q f s'
 | .error e => cameBackBy (model X.prog X.w) A env Er e s'
inductive WLI (X : Cx) (F : FnC) (L : Addr) (cl : List (Str × Addr)) (O : Outer) (w : Wd) (n0 : Nat) (ct : M Bool) (cb : List S) (Q : Flow -> Shared -> Prop) (Er : Value -> Shared -> Prop) (k : Nat) (s' : Shared) : Prop where
 | mk (w' : Wd) (σ' : AS) (h1 : St X F L cl O w' σ' s') (h2 : Ext w w' n0 σ'.nxt) (h3 : Post X F L cl O (FlR X) w' σ'.nxt (sWhile ct cb k σ') Q Er) : WLI X F L cl O w n0 ct cb Q Er k s'
theorem ss_while (hF : F.Ok) {t : Expr} {body : List Stmt} {pos : Pos} {ct : M Bool} {cb : List S} {fuel : Nat} (ht : STt X n F t ct) (hb : SSs X n F body (sSeq cb)) : SS X n F (.While t body [] pos) (sWhile ct cb fuel):=fun A L cl O w σ s Q Er hA hS hP => by
 refine wpAny_While (codeAny_whileLoop (WLI X F L cl O w σ.nxt ct cb Q Er) ?_ fuel ⟨w, σ, hS, .refl, hP⟩)
 rintro k s1 ⟨w1, σ1, S1, E1, P1⟩
 cases k with
 | zero => exact P1.elim
 | succ k =>
  have err : ∀ {w2 : Wd} {σ2 : AS} {s2 : Shared} {C e : Addr}, Fly X F L cl O w2 σ2 C e s2 -> (∀ w' s', Fly X F L cl O w' σ2 C e s' -> Ext w2 w' σ2.nxt σ2.nxt -> Er (.ref e) s') ->
    notedBy (model X.prog X.w) A (F.env L cl) (fun e s' => RL X A (F.env L cl) Q Er (.error e) s') (.ref e) s2:=fun hx h => own_err hF hA.frames hx h
  have toEr : ∀ {α β : Type} {R : Wd -> Nat -> α -> β -> Prop} {w2 : Wd} {n2 : Nat} {r : Res α} {Q2 : β -> Shared -> Prop}, Post X F L cl O R w2 n2 r Q2 Er -> Post X F L cl O R w2 n2 r Q2 (notedBy (model X.prog X.w) A (F.env L cl) fun e s' => RL X A (F.env L cl) Q Er (.error e) s'):=by
   intro α β R w2 n2 r Q2 h
   cases r with
   | ok v σ' => exact h
   | exc C σ' => exact fun e w' s' hx hE => err hx fun w3 s3 hx3 hE3 => h e w3 s3 hx3 (hE.trans hE3)
   | stuck => exact h
  refine ht A L cl O w1 σ1 s1 _ _ hA S1 (toEr (P1.bind fun b σ2 b' w2 s2 _ S2 E2 V2 P2 => ?_))
  cases V2
  cases b with
  | false =>
   refine wpAny_execs_nil (P2 _ _ _ S2 .refl .nx)
  | true =>
   refine hb A L cl O w2 σ2 s2 _ _ hA S2 (toEr (Post.bind (show Post X F L cl O (FlR X) w2 σ2.nxt (bnd (sSeq cb) (fun f => match f with | .nx => sWhile ct cb k | .rt v => ret (.rt v)) σ2) Q Er from P2) fun f σ3 f' w3 s3 _ S3 E3 V3 P3 => ?_))
   cases V3 with
   | nx => exact ⟨k, Nat.lt_succ_self _, w3, σ3, S3, (E1.trans E2).trans E3, P3⟩
   | rt hv => exact P3 _ _ _ S3 .refl (.rt hv)
theorem Post.bindTp {α β γ δ : Type} {R : Wd -> Nat -> α -> β -> Prop} {R' : Wd -> Nat -> γ -> δ -> Prop} {m : M γ} {f : γ -> M α} {p : Addr × Obj} {tp : Led} {w1 : Wd} {n0 : Nat} {Q : β -> Shared -> Prop} {Q' : δ -> Shared -> Prop} {Er' : Value -> Shared -> Prop}
  (h : Post X F L cl O R (withTp w1 tp) n0 (bnd m f σ) Q Er)
  (k : ∀ v σ' x w' s', m σ = .ok v σ' -> St X F L cl O (withTp w' (p :: tp)) σ' s' -> Ext (withTp w1 tp) (withTp w' tp) n0 σ'.nxt -> R' (withTp w' (p :: tp)) σ'.nxt v x -> Post X F L cl O R (withTp w' tp) σ'.nxt (f v σ') Q Er -> Q' x s')
  (ke : ∀ C σ' e w' s', Fly X F L cl O (withTp w' (p :: tp)) σ' C e s' -> (∀ w2 s2, Fly X F L cl O (withTp w2 tp) σ' C e s2 -> Ext (withTp w' tp) (withTp w2 tp) σ'.nxt σ'.nxt -> Er (.ref e) s2) -> Er' (.ref e) s') :
  Post X F L cl O R' (withTp w1 (p :: tp)) n0 (m σ) Q' Er':=by
 unfold bnd at h
 cases e : m σ with
 | ok v σ' =>
  rw [e] at h
  intro x w' s' S E V
  have et : w' = withTp w' (p :: tp):=(withTp_eq E.tp).symm
  have E' : Ext (withTp w1 tp) (withTp w' tp) n0 σ'.nxt:=⟨E.toGrow, rfl⟩
  rw [et] at S V
  exact k v σ' x w' s' e S E' V (h.ext E')
 | exc C σ' =>
  rw [e] at h
  intro ex w' s' hx E
  have et : w' = withTp w' (p :: tp):=(withTp_eq E.tp).symm
  have E' : Ext (withTp w1 tp) (withTp w' tp) n0 σ'.nxt:=⟨E.toGrow, rfl⟩
  rw [et] at hx
  exact ke C σ' ex w' s' hx fun w2 s2 hx2 hE => h ex _ s2 hx2 (E'.trans hE)
 | stuck => rw [e] at h; exact h.elim
noncomputable def TgtS (X : Cx) (n : Nat) (F : FnC) (target : Expr) (tgt : PV -> M Unit) : Prop:=∀ (A : Around) (L : Addr) (cl : List (Str × Addr)) (O : Outer) (w : Wd) (σ : AS) (s : Shared) (v : PV) (x : Value) (Q : Unit -> Shared -> Prop) (Er : Value -> Shared -> Prop),
 Ar A n (F.env L cl) O -> St X F L cl O w σ s -> VRw X w σ.nxt v x -> Post X F L cl O (EqR (α:=Unit)) w σ.nxt (tgt v σ) Q Er -> wpAny (model X.prog X.w) A (assign target (F.env L cl) x) Q Er s
theorem tgt_name (hF : F.Ok) {x : Str} {p : Pos} {i : Nat} (hi : F.vars[i]? = some x) : TgtS X n F (.Name x p) (setL i):=fun A L cl O w σ s v y Q Er hA hS hv hP =>
 PyProof.Rows.assign_Name (setL_ok hS hF hi hv hP)
theorem tgt_pair (hF : F.Ok) (hn : 1 <= n) {es : List Expr} {k : Nat} {p : Pos} {is : List Nat} {nms : List Str} (ht : Tg2 es nms) (he : is.map (F.vars[·]?) = nms.map some) : TgtS X n F (.Tuple es k p) (unpackM is):=fun A L cl O w σ s v y Q Er hA hS hv hP =>
 tgt_tup hF hA hn hS ht he hv hP
inductive Arith : List Int -> Int -> Int -> Prop
 | nil {x c : Int} : Arith [] x c
 | cons {x c : Int} {l : List Int} : Arith l (x + c) c -> Arith (x :: l) x c
noncomputable abbrev rio (x : Int) (m : Nat) (c : Int) : Obj:={ cls:=.type "range_iterator", dict:=none, data:=.fields #[rawInt x, rawInt (m : Int), rawInt c], slots:=#[] }
theorem turn_err (hF : F.Ok) (hA : Ar A n (F.env L cl) O) {Q : Flow -> Shared -> Prop} {tp : Led} {p : Addr × Obj} {w' : Wd} {σ' : AS} {C e : Addr} {s' : Shared} (hx : Fly X F L cl O (withTp w' (p :: tp)) σ' C e s')
  (h : ∀ w2 s2, Fly X F L cl O (withTp w2 tp) σ' C e s2 -> Ext (withTp w' tp) (withTp w2 tp) σ'.nxt σ'.nxt -> Er (.ref e) s2) : notedBy (model X.prog X.w) A (F.env L cl) (fun e s' => RL X A (F.env L cl) Q Er (.error e) s') (.ref e) s' :=
 own_err hF hA.frames hx fun w3 s3 hx3 hE3 => by
  have et : w3 = withTp w3 (p :: tp):=(withTp_eq hE3.tp).symm
  rw [et] at hx3
  exact h w3 s3 hx3.tpDrop ⟨hE3.toGrow, rfl⟩
inductive LRI (X : Cx) (F : FnC) (L : Addr) (cl : List (Str × Addr)) (O : Outer) (w : Wd) (n0 : Nat) (it : Addr) (c : Int) (tgt : PV -> M Unit) (cb : S) (Q : Flow -> Shared -> Prop) (Er : Value -> Shared -> Prop) (k : Nat) (s1 : Shared) : Prop where
 | mk (w1 : Wd) (σ1 : AS) (x1 : Int) (ks1 : List Int) (S1 : St X F L cl O (withTp w1 ((it, rio x1 (List.length ks1) c) :: w.tp)) σ1 s1) (E1 : Ext w (withTp w1 w.tp) n0 σ1.nxt) (k1 : Arith ks1 x1 c) (e : k = ks1.length + 1)
  (P1 : Post X F L cl O (FlR X) (withTp w1 w.tp) σ1.nxt (forL tgt cb (ks1.map .int) σ1) Q Er) : LRI X F L cl O w n0 it c tgt cb Q Er k s1
theorem loop_range (hF : F.Ok) (hA : Ar A n (F.env L cl) O) (hn : 1 <= n) {target : Expr} {tgt : PV -> M Unit} {body : List Stmt} {cb : S} {it : Addr} {x c : Int} {ks : List Int} {Q : Flow -> Shared -> Prop} (ht : TgtS X n F target tgt) (hb : SSs X n F body cb)
  (hgo : ∀ it v, letOwnedTupleGo target it v = pure ()) (hS : St X F L cl O (withTp w ((it, rio x ks.length c) :: w.tp)) σ s) (hk : Arith ks x c) (hP : Post X F L cl O (FlR X) w σ.nxt (forL tgt cb (ks.map .int) σ) Q Er) :
  codeAny (model X.prog X.w) A (.forLoop target (.ref it) body [] (F.env L cl)) (RL X A (F.env L cl) Q Er) s:=by
 have hh : A.handled = none:=hA.hd.resolve_right (by lia)
 refine codeAny_forLoop_any (LRI X F L cl O w σ.nxt it c tgt cb Q Er) ?_ _ ⟨w, σ, x, ks, hS, .refl, hk, rfl, hP⟩
 rintro k s1 ⟨w1, σ1, x1, ks1, S1, E1, k1, rfl, P1⟩
 have hit : IsRangeIter s1.heap it x1 ks1.length c:=(S1.nw _ (tp_head rfl)).1
 cases k1 with
 | nil =>
  refine wpAny_pyNext_range_end hh hit (by simp) fun h' hE => wpAny_execs_nil ?_
  exact P1 _ _ _ (S1.tpDrop s1.toks hE) .refl .nx
 | @cons _ _ l k1 =>
  refine wpAny_pyNext_range_item hit (by simp) fun h' hit' hE => ?_
  have e1 : (((x1 :: l).length : Nat) : Int) - 1 = (l.length : Int):=by rw [yA]; lia
  rw [e1] at hit'
  have S2:=S1.tpSet (o':=rio (x1 + c) l.length c) (s1.toks + 1) hit' hE.extBut
  dsimp only
  refine wpAny_of_eq (hgo _ _) ?_
  refine ht A L cl O _ σ1 _ (.int x1) _ _ _ hA S2 (.int _ _) (P1.bindTp (fun _ σ2 _ w2 s2 _ S3 E3 _ P3 => ?_) fun C σ' e w' s' hx h => turn_err hF hA hx h)
  refine hb A L cl O _ σ2 s2 _ _ hA S3 (P3.bindTp (fun f σ4 f' w4 s4 _ S5 E5 V5 P5 => ?_) fun C σ' e w' s' hx h => turn_err hF hA hx h)
  cases V5 with
  | nx => exact ⟨l.length + 1, Nat.lt_succ_self _, w4, σ4, x1 + c, l, S5, (E1.trans E3).trans E5, k1, rfl, P5⟩
  | rt hv => exact P5 _ _ _ (S5.tpDrop s4.toks (.refl _ _)) .refl (.rt hv)
theorem arith_range (a c : Int) : ∀ (m : Nat) (b : Int), Arith ((List.range' 0 m).map fun (k : Nat) => b + (k : Int) * c) b c
 | 0, b => .nil
 | m + 1, b => by
  rw [List.range'_succ, yC]
  have e : b + ((0 : Nat) : Int) * c = b:=by simp
  rw [e]
  refine .cons ?_
  have:=arith_range a c m (b + c)
  have e2 : (List.map (fun (k : Nat) => b + (k : Int) * c) (List.range' (0 + 1) m)) = (List.range' 0 m).map fun (k : Nat) => b + c + (k : Int) * c:=by
   rw [show (0 : Nat) + 1 = 1 + 0 from rfl, <- List.map_add_range', List.map_map]
   refine List.map_congr_left fun k _ => ?_
   simp only [Function.comp]
   push_cast
   rw [Int.add_mul, Int.one_mul]
   lia
  rw [e2]
  exact this
theorem rangeL_arith {a b c : Int} (hc : c = 1 \/ c = -1) : Arith (rangeL a b c) a c /\ ((rangeL a b c).length : Int) = Builtin.Range.rangeSize a b c:=by
 rcases hc with rfl | rfl
 ·constructor
  ·have:=arith_range 0 1 (b - a).toNat a
   unfold rangeL
   rw [if_pos rfl, List.range_eq_range']
   simpa using this
  ·unfold rangeL
   rw [if_pos rfl, yG, List.length_range, rangeSize_one]
   split <;> lia
 ·constructor
  ·have:=arith_range 0 (-1) (a - b).toNat a
   unfold rangeL
   rw [if_neg (by decide), List.range_eq_range']
   have e : (fun (k : Nat) => a + (k : Int) * -1) = fun (k : Nat) => a - (k : Int):=by
    funext k; lia
   rw [e] at this
   exact this
  ·unfold rangeL
   rw [if_neg (by decide), yG, List.length_range]
   exact (rangeSize_downNat a b).symm
inductive RgS (vs : List PV) (r : Int × Int × List Int) : Prop where
 | mk (a b c : Int) (e : r = (a, c, rangeL a b c)) (hc : c = 1 \/ c = -1) (hl : (rangeL a b c).length <= zLs) (ha : -(2 ^ 40) < a /\ a < 2 ^ 40) (hb : -(2 ^ 40) < b /\ b < 2 ^ 40) (hv : (vs = [.int b] /\ a = 0 /\ c = 1) \/ (vs = [.int a, .int b] /\ c = 1) \/ (vs = [.int a, .int b, .int c] /\ c = -1)) : RgS vs r
theorem if_some {α : Type} {p : Prop} [Decidable p] {x r : α} (e : (if p then some x else none) = some r) : p /\ r = x:=by
 by_cases h : p
 ·rw [if_pos h] at e; exact ⟨h, (Option.some.inj e).symm⟩
 ·rw [if_neg h] at e; cases e
theorem rangeK_some {vs : List PV} {r : Int × Int × List Int} (e : rangeK vs = some r) : RgS vs r:=by
 cases vs with
 | nil => cases e
 | cons x vs =>
 cases x with
 | int a =>
  cases vs with
  | nil =>
   obtain ⟨h, e⟩:=if_some e
   simp only [Bool.and_eq_true, dcd_iff, decide_eq_true_eq, smallI] at h
   exact ⟨0, a, 1, e, .inl rfl, h.2, by decide, h.1, .inl ⟨rfl, rfl, rfl⟩⟩
  | cons y vs =>
  cases y with
  | int b =>
   cases vs with
   | nil =>
    obtain ⟨h, e⟩:=if_some e
    simp only [Bool.and_eq_true, dcd_iff, decide_eq_true_eq, smallI] at h
    exact ⟨a, b, 1, e, .inl rfl, h.2, h.1.1, h.1.2, .inr (.inl ⟨rfl, rfl⟩)⟩
   | cons z vs =>
   cases z with
   | int c =>
    cases vs with
    | nil =>
     obtain ⟨h, e2⟩:=if_some e
     simp only [Bool.and_eq_true, dcd_iff, decide_eq_true_eq, smallI] at h
     obtain ⟨⟨⟨h1, h2⟩, h3⟩, h4⟩:=h
     subst h3
     exact ⟨a, b, -1, e2, .inr rfl, h4, h1, h2, .inr (.inr ⟨rfl, rfl⟩)⟩
    | cons _ _ => cases e
   | _ => cases e
  | _ => cases e
 | _ => cases e
theorem small_range {a b c : Int} (hc : c = 1 \/ c = -1) (ha : -(2 ^ 40) < a /\ a < 2 ^ 40) (hb : -(2 ^ 40) < b /\ b < 2 ^ 40) : Builtin.Range.small a b c = true:=by
 have a1 : -(2 ^ 62) <= a:=Int.le_trans (by decide) (Int.le_of_lt ha.1)
 have a2 : a < 2 ^ 62:=Int.lt_of_lt_of_le ha.2 (by decide)
 have b1 : -(2 ^ 62) <= b:=Int.le_trans (by decide) (Int.le_of_lt hb.1)
 have b2 : b < 2 ^ 62:=Int.lt_of_lt_of_le hb.2 (by decide)
 rcases hc with rfl | rfl
 ·exact small_one a1 a2 b1 b2
 ·exact small_down a1 a2 b1 b2
theorem range_ok (S : St X F L cl O w σ s) {vs : List PV} {xs : List Value} {r : Int × Int × List Int} {Q : Value -> Shared -> Prop} (hv : VRsw X w σ.nxt vs xs) (e : rangeK vs = some r)
  (h : ∀ (a : Addr) (s' : Shared) (b : Int) (t u v : Tok), St X F L cl O w σ s' -> IsRange s'.heap a r.1 b r.2.1 t u v -> Builtin.Range.small r.1 b r.2.1 = true -> Builtin.Range.rangeSize r.1 b r.2.1 = (r.2.2.length : Int) -> Q (.ref a) s') :
  wpAny (model X.prog X.w) A (call (.type "range") xs) Q Er s:=by
 obtain ⟨a, b, c, rfl, hc, hl, ha, hb, hvs⟩:=rangeK_some e
 have hsm:=small_range hc ha hb
 have hsz:=(rangeL_arith (a:=a) (b:=b) hc).2.symm
 have keep : ∀ (o : Obj) (t : Nat), St X F L cl O w σ { s with heap:=s.heap.push o, toks:=t }:=fun o t => S.fn t (S.fr.push o) (News.pushKeep S.nw o)
 rcases hvs with ⟨rfl, rfl, rfl⟩ | ⟨rfl, rfl⟩ | ⟨rfl, rfl⟩
 ·obtain ⟨t, rfl⟩:=VRs.one hv
  exact call_range_1 (h _ _ _ _ _ _ (keep _ _) (IsRange.new ..) hsm hsz)
 ·obtain ⟨t, u, rfl⟩:=VRs.two hv
  exact call_range_2 (h _ _ _ _ _ _ (keep _ _) (IsRange.new ..) hsm hsz)
 ·obtain ⟨t, u, v, rfl⟩:=VRs.three hv
  exact call_range_3 (by decide) (h _ _ _ _ _ _ (keep _ _) (IsRange.new ..) hsm hsz) (.inl (PyProof.noPylong_of_log2 (by decide +kernel)))
end
section
variable {X : Cx} {n : Nat} {F : FnC} {L : Addr} {cl : List (Str × Addr)} {O : Outer} {w : Wd} {σ : AS} {s : Shared} {A : Around} {env : Env} {Er : Value -> Shared -> Prop}
noncomputable def PlL (l : List (Bool × Sem Value)) : Prop:=l = [] \/ ∃ x r, l = (false, x) :: r /\ r.any (·.1) = false
noncomputable def PlA (es : List Expr) : Prop:=∀ (pos : Pos) (env : Env), PlL (backTo pos (starEach es env))
theorem PlL.any {l : List (Bool × Sem Value)} (h : PlL l) : l.any (·.1) = false:=by
 rcases h with rfl | ⟨x, r, rfl, h⟩
 ·rfl
 ·show (false || _) = false; rw [h]; rfl
theorem evalArgs_list {M : Model} {f : Value} {l : List (Bool × Sem Value)} {Q : Args -> Shared -> Prop} (hp : PlL l) (h : wpAny M A (spliced l) (fun vs s₁ => Q ⟨vs, []⟩ s₁) Er s) : wpAny M A (evalArgs f true l []) Q Er s:=by
 rcases hp with rfl | ⟨x, r, rfl, _⟩
 ·unfold evalArgs
  show wpAny M A (spliced [] >>= _) Q Er s
  refine wpAny_bind (wpAny_mono h (fun vs s' h' => ?_) fun _ _ x => x)
  refine wpAny_bind (wpAny_pure ?_)
  refine wpAny_holding ?_
  exact wpAny_bind (wpAny_pure (wpAny_bind (wpAny_pure (wpAny_pure h'))))
 ·exact evalArgs_plain h
theorem args_type {M : Model} {pos : Pos} {T : String} {first : List Value} {l : List (Bool × Sem Value)} {Q : Value -> Shared -> Prop} (hp : PlL l) (h : wpAny M A (spliced l) (fun vs s₁ => wpAny M A (call (.type T) (first ++ vs)) Q Er s₁) Er s) :
  wpAny M A (callWith pos (.type T) first l []) Q Er s:=PyProof.Rows.callWith_type hp.any (evalArgs_list hp h)
theorem args_builtin {M : Model} {pos : Pos} {T : String} {first : List Value} {l : List (Bool × Sem Value)} {Q : Value -> Shared -> Prop} (hp : PlL l) (h : wpAny M A (spliced l) (fun vs s₁ => wpAny M A (call (.builtin T) (first ++ vs)) Q Er s₁) Er s) :
  wpAny M A (callWith pos (.builtin T) first l []) Q Er s:=callWith_builtin hp.any (evalArgs_list hp h)
theorem args_K {M : Model} {K : Frag} {f : Value} {pos : Pos} {first : List Value} {l : List (Bool × Sem Value)} {Q : Value -> Shared -> Prop} (hp : PlL l) (hk : keepIn K f = true) (h : wpAny M A (spliced l) (fun vs s₁ => K.In s₁.heap /\ wpAny M A (call f (first ++ vs)) Q Er s₁) Er s) :
  wpAny M A (callWith pos f first l []) Q Er s:=callWith_of (by rw [hp.any]; rfl) (keeps_K hk) (evalArgs_list hp h)
noncomputable def FunS (X : Cx) (n : Nat) (F : FnC) (f : Value) (k : Nat) (G : List PV -> M PV) : Prop:=∀ (A : Around) (L : Addr) (cl : List (Str × Addr)) (O : Outer) (w : Wd) (σ : AS) (s : Shared) (vs : List PV) (xs : List Value) (Q : Value -> Shared -> Prop) (Er : Value -> Shared -> Prop),
 vs.length = k -> Ar A n (F.env L cl) O -> St X F L cl O w σ s -> VRsw X w σ.nxt vs xs -> Post X F L cl O (VRw X) w σ.nxt (G vs σ) Q Er -> wpAny (model X.prog X.w) A (call f xs) Q Er s
structure BnK (X : Cx) (F : FnC) (nm : Str) (v : Value) : Prop where
 top : nsIn X.K mainGlobals nm = some none
 boot : bootBuiltins nm = some v
 ne : nm ≠ "__name__"
 kind : F.scope.names.lookup nm = some .globalImplicit
 dbg : (nm == ("__debug__" : Str)) = false
structure GnK (X : Cx) (F : FnC) (nm : Str) (v : Value) : Prop where
 top : nsIn X.K mainGlobals nm = some (some v)
 kind : F.scope.names.lookup nm = some .globalImplicit
 dbg : (nm == ("__debug__" : Str)) = false
theorem se_type (hX : X.Ok) (hF : F.Ok) {nm : Str} {T : String} {p pos : Pos} {es : List Expr} {cs : List (M PV)} {G : List PV -> M PV} (hn : BnK X F nm (.type T)) (hp : PlA es) (h : SIt X n F es cs) (hG : FunS X n F (.type T) cs.length G) :
  SE X n F (.Call (.Name nm p) es [] pos) (eCall G cs):=fun A L cl O w σ s Q Er hA hS hP =>
 Call_Name rfl (bname hX hF hn.top hn.boot hn.ne hn.kind hn.dbg hS (args_type (hp _ _) (h pos A L cl O w σ s _ _ hA hS (hP.bind fun vs σ1 xs w1 s1 e1 S1 E1 V1 P1 => hG A L cl O w1 σ1 s1 vs xs Q Er (evs_length e1) hA S1 V1 P1))))
theorem se_builtin (hX : X.Ok) (hF : F.Ok) {nm : Str} {T : String} {p pos : Pos} {es : List Expr} {cs : List (M PV)} {G : List PV -> M PV} (hn : BnK X F nm (.builtin T)) (hp : PlA es) (h : SIt X n F es cs) (hG : FunS X n F (.builtin T) cs.length G) :
  SE X n F (.Call (.Name nm p) es [] pos) (eCall G cs):=fun A L cl O w σ s Q Er hA hS hP =>
 Call_Name rfl (bname hX hF hn.top hn.boot hn.ne hn.kind hn.dbg hS (args_builtin (hp _ _) (h pos A L cl O w σ s _ _ hA hS (hP.bind fun vs σ1 xs w1 s1 e1 S1 E1 V1 P1 => hG A L cl O w1 σ1 s1 vs xs Q Er (evs_length e1) hA S1 V1 P1))))
theorem St.In (hX : X.Ok) (S : St X F L cl O w σ s) : X.K.In s.heap:=hX.K.keeps S.fr.keep
theorem se_def (hX : X.Ok) (hF : F.Ok) {nm : Str} {f : Addr} {p pos : Pos} {es : List Expr} {cs : List (M PV)} {G : List PV -> M PV} (hn : GnK X F nm (.ref f)) (hk : keepIn X.K (.ref f) = true) (hp : PlA es) (h : SIt X n F es cs) (hG : FunS X n F (.ref f) cs.length G) :
  SE X n F (.Call (.Name nm p) es [] pos) (eCall G cs):=fun A L cl O w σ s Q Er hA hS hP =>
 Call_Name rfl (gname hX hF hn.top hn.kind hn.dbg hS (args_K (K:=X.K) (hp _ _) hk (h pos A L cl O w σ s _ _ hA hS (hP.bind fun vs σ1 xs w1 s1 e1 S1 E1 V1 P1 => ⟨S1.In hX, hG A L cl O w1 σ1 s1 vs xs Q Er (evs_length e1) hA S1 V1 P1⟩))))
structure MethK (K : Frag) (C : Addr) (nm : Str) (f : Addr) : Prop where
 plain : plainGet K C nm = true
 find : findIn K (.ref C) nm = some (some (.ref f))
 fn : isFn K (.ref f) = true
 keep : keepIn K (.ref f) = true
 off : nm ∉ fnm
theorem se_meth (hX : X.Ok) {o : Expr} {nm : Str} {C f : Addr} {ap pos : Pos} {es : List Expr} {co : M PV} {cs : List (M PV)} {G : List PV -> M PV} (hm : MethK X.K C nm f) (hp : PlA es) (ho : SE X n F o co) (h : SIt X n F es cs) (hG : FunS X n F (.ref f) (cs.length + 1) G)
  {pl : Env -> Sem Bool} (he : ∀ env, eval (.Call (.Attribute o nm ap) es [] pos) env = (do
   let ov <- eval o env
   standAt ap.atName
   let (f, first) <- holding [ov] (getMethod ov nm (pl env))
   callWith pos f first (backTo pos (starEach es env)) [])) : SE X n F (.Call (.Attribute o nm ap) es [] pos) (eMeth C G co cs):=fun A L cl O w σ s Q Er hA hS hP =>
 MethodCall_ (pl:=pl (F.env L cl)) (ho A L cl O w σ s _ _ hA hS (hP.bind fun v σ1 x w1 s1 _ S1 E1 V1 P1 => by
  induction V1 using VR_cases with
  | ref i hi =>
   dsimp only at P1
   split at P1
   ·rename_i D fs hmem
    split at P1
    ·rename_i hD
     subst hD
     refine yN fun hgl => ?_
     obtain ⟨h1, h2, es', c, h3, h4⟩:=S1.instAt hi hmem
     refine hgl ?_; clear hgl
     refine method_inst (K:=X.K) S1.fr hX.K (InstAt.of_news S1.nw (mem_mo h1) (mem_mo h3)) hm.plain hm.find hm.fn (h4.getL_none hm.off) ?_
     refine args_K (K:=X.K) (hp _ _) hm.keep (h pos A L cl O w1 σ1 s1 _ _ hA S1 (P1.bind fun vs σ2 xs w2 s2 e2 S2 E2 V2 P2 => ⟨S2.In hX, ?_⟩))
     exact hG A L cl O w2 σ2 s2 (.ref i :: vs) _ Q Er (congrArg (· + 1) (evs_length e2)) hA S2 (.cons (VR.mono E2.toGrow (.ref i hi)) V2) P2
    ·exact P1.elim
   ·exact P1.elim
  | _ => exact P1.elim)) (he _)
theorem ss_forR (hX : X.Ok) (hF : F.Ok) (hn : 1 <= n) {x nm : Str} {xp p pos rpos : Pos} {es : List Expr} {cs : List (M PV)} {body : List Stmt} {cb : List S} {i : Nat} (hb : BnK X F "range" (.type "range")) (hi : F.vars[i]? = some x) (hp : PlA es) (h : SIt X n F es cs)
  (hbody : SSs X n F body (sSeq cb)) : SS X n F (.For (.Name x xp) (.Call (.Name "range" p) es [] rpos) body [] pos) (sForR i cs cb):=fun A L cl O w σ s Q Er hA hS hP =>
 wpAny_For (Call_Name rfl (bname hX hF hb.top hb.boot hb.ne hb.kind hb.dbg hS (args_type (hp _ _) (h rpos A L cl O w σ s _ _ hA hS (by
  have hP' : Post X F L cl O (FlR X) w σ.nxt (bnd (evs cs) (fun vs => bnd (fun s => match rangeK vs with | some r => Res.ok r.2.2 s | none => .stuck "range") fun ks => forL (setL i) (sSeq cb) (ks.map .int)) σ) Q Er:=by
   exact Post.eq (bnd_assoc _ _ _ _) hP
  refine hP'.bind fun vs σ1 xs w1 s1 _ S1 E1 V1 P1 => ?_
  unfold bnd at P1
  cases e : rangeK vs with
  | none => rw [e] at P1; exact P1.elim
  | some r =>
   rw [e] at P1
   refine yN fun hgl => ?_
   obtain ⟨a0, b0, c0, rfl, hc, _⟩:=rangeK_some e
   refine hgl ?_; clear hgl
   refine range_ok S1 V1 e fun a s2 b t u v S2 hr hsm hsz => ?_
   refine wpAny_pyIter_range hr hsm ?_
   rw [hsz]
   have F3:=S2.fr.push (rio a0 (rangeL a0 b0 c0).length c0)
   have N3:=News.push S2.fr S2.nw (rio a0 (rangeL a0 b0 c0).length c0)
   exact loop_range hF hA hn (tgt_name hF hi) hbody (fun _ _ => rfl) (S2.tpAdd (t:=s2.toks) S2.size_off F3 N3) (rangeL_arith hc).1 P1)))))
inductive LLI (X : Cx) (F : FnC) (L : Addr) (cl : List (Str × Addr)) (O : Outer) (w : Wd) (n0 : Nat) (it a : Addr) (i : Nat) (tgt : PV -> M Unit) (cb : S) (Q : Flow -> Shared -> Prop) (Er : Value -> Shared -> Prop) (k : Nat) (s1 : Shared) : Prop where
 | mk (w1 : Wd) (σ1 : AS) (o1 : Obj) (j1 : Nat) (S1 : St X F L cl O (withTp w1 ((it, o1) :: w.tp)) σ1 s1) (E1 : Ext w (withTp w1 w.tp) n0 σ1.nxt) (c1 : o1.cls = .type "list_iterator") (d1 : o1.data = .fields #[.ref a, .int (j1 : Nat) 0])
  (P1 : Post X F L cl O (FlR X) (withTp w1 w.tp) σ1.nxt (forLive tgt cb i k j1 σ1) Q Er) : LLI X F L cl O w n0 it a i tgt cb Q Er k s1
theorem loop_list (hF : F.Ok) (hA : Ar A n (F.env L cl) O) (hn : 1 <= n) {target : Expr} {tgt : PV -> M Unit} {body : List Stmt} {cb : S} {it : Addr} {o : Obj} {i j fuel : Nat} {Q : Flow -> Shared -> Prop} (ht : TgtS X n F target tgt) (hb : SSs X n F body cb)
  (hgo : (∀ it v, letOwnedTupleGo target it v = pure ()) \/ ((∃ es k p, target = .Tuple es k p) /\ ∃ is, tgt = unpackM is)) (hi : i < σ.nxt) (hc : o.cls = .type "list_iterator") (hd : o.data = .fields #[.ref (w.al i), .int j 0])
  (hS : St X F L cl O (withTp w ((it, o) :: w.tp)) σ s) (hP : Post X F L cl O (FlR X) w σ.nxt (forLive tgt cb i fuel j σ) Q Er) :
  codeAny (model X.prog X.w) A (.forLoop target (.ref it) body [] (F.env L cl)) (RL X A (F.env L cl) Q Er) s:=by
 have hh : A.handled = none:=hA.hd.resolve_right (by omega)
 refine codeAny_forLoop_any (LLI X F L cl O w σ.nxt it (w.al i) i tgt cb Q Er) ?_ fuel ⟨w, σ, o, j, hS, .refl, hc, hd, hP⟩
 rintro k s1 ⟨w1, σ1, o1, j1, S1, E1, c1, d1, P1⟩
 cases k with
 | zero => exact P1.elim
 | succ k =>
  have hit : s1.heap.IsListIter it (w.al i) j1:=⟨o1, (S1.nw _ (tp_head rfl)).1, c1, d1⟩
  have hi1 : i < σ1.nxt:=yK hi E1.le
  have eal : w1.al i = w.al i:=E1.al i hi
  unfold forLive at P1
  split at P1
  ·rename_i vs hm
   refine yN fun hgl => ?_
   obtain ⟨xs, c, hx, hvs⟩:=S1.listAt hi1 hm
   refine hgl ?_; clear hgl
   have hl : s1.heap.IsList (w.al i) xs.toArray:=eal ▸ S1.isList hx
   split at P1
   ·rename_i v ev
    refine yN fun hgl => ?_
    obtain ⟨x, ex, hvx⟩:=hvs.get ev
    refine hgl ?_; clear hgl
    refine wpAny_pyNext_list_item hit hl (by simpa using ex) fun h' hit' hE => ?_
    refine yN fun hgl => ?_
    obtain ⟨o2, ho2, c2, d2⟩:=hit'
    refine hgl ?_; clear hgl
    have S2:=S1.tpSet s1.toks ho2 hE.extBut
    dsimp only
    have go : ∀ {Q2 : Unit -> Shared -> Prop} {E2 : Value -> Shared -> Prop}, (Q2 () { s1 with heap:=h' }) -> wpAny (model X.prog X.w) A (letOwnedTupleGo target (.ref it) x) Q2 E2 { s1 with heap:=h' }:=by
     intro Q2 E2 hq
     rcases hgo with hgo | ⟨⟨es, kk, p, rfl⟩, is, rfl⟩
     ·exact wpAny_of_eq (hgo _ _) hq
     ·induction hvx using VR_cases with
      | tup us ys T hT hus => exact wpAny_letOwnedTupleGo_listiter ⟨o2, ho2, c2, d2⟩ hq
      | ref q hq' => exact wpAny_letOwnedTupleGo_listiter ⟨o2, ho2, c2, d2⟩ hq
      | «ints» ns xs a hb hi' => exact wpAny_letOwnedTupleGo_listiter ⟨o2, ho2, c2, d2⟩ hq
      | _ => exact wpAny_pure hq
    refine go ?_
    refine ht A L cl O _ σ1 _ v x _ _ hA S2 (VR.mono (fz':=(withTp w1 ((it, o2) :: w.tp)).fz) Grow.refl hvx) (P1.bindTp (fun _ σ2 _ w2 s2 _ S3 E3 _ P3 => ?_) fun C σ' e w' s' hx h => turn_err hF hA hx h)
    refine hb A L cl O _ σ2 s2 _ _ hA S3 (P3.bindTp (fun f σ4 f' w4 s4 _ S5 E5 V5 P5 => ?_) fun C σ' e w' s' hx h => turn_err hF hA hx h)
    cases V5 with
    | nx => exact ⟨k, Nat.lt_succ_self _, w4, σ4, o2, j1 + 1, S5, (E1.trans E3).trans E5, c2, by rw [d2], P5⟩
    | rt hv => exact P5 _ _ _ (S5.tpDrop s4.toks (.refl _ _)) .refl (.rt hv)
   ·rename_i ev
    have : (xs.toArray)[j1]? = none:=by
     have h1:=List.getElem?_eq_none_iff.mp ev
     rw [hvs.length] at h1
     simpa using h1
    refine wpAny_pyNext_list_end hh hit hl this fun h' hE => wpAny_execs_nil ?_
    exact P1 _ _ _ (S1.tpDrop s1.toks hE) .refl .nx
  ·exact P1.elim
theorem ss_forV (hF : F.Ok) (hn : 1 <= n) {target iter : Expr} {tgt : PV -> M Unit} {c : M PV} {body : List Stmt} {cb : List S} {pos : Pos} (ht : TgtS X n F target tgt) (hit : SE X n F iter c) (hbody : SSs X n F body (sSeq cb))
  (hgo : (∀ it v, letOwnedTupleGo target it v = pure ()) \/ ((∃ es k p, target = .Tuple es k p) /\ ∃ is, tgt = unpackM is)) (hs : ∀ env x, foldedSetIterable iter env x = pure x) : SS X n F (.For target iter body [] pos) (sForV tgt c cb):=fun A L cl O w σ s Q Er hA hS hP =>
 wpAny_For (hit A L cl O w σ s _ _ hA hS (hP.bind fun v σ1 x w1 s1 _ S1 E1 V1 P1 => by
  induction V1 using VR_cases with
  | ref i hi =>
   unfold forVM at P1
   dsimp only at P1
   split at P1
   ·rename_i vs hm
    split at P1
    ·refine yN fun hgl => ?_
     obtain ⟨xs, k, hx, hvs⟩:=S1.listAt hi hm
     refine hgl ?_; clear hgl
     refine wpAny_pyIter_list (S1.isList hx) ?_
     have F3:=S1.fr.push { cls:=.type "list_iterator", data:=.fields #[.ref (w1.al i), .int 0 0] }
     have N3:=News.push S1.fr S1.nw { cls:=.type "list_iterator", data:=.fields #[.ref (w1.al i), .int 0 0] }
     exact loop_list hF hA hn ht hbody hgo hi rfl rfl (S1.tpAdd (t:=s1.toks) S1.size_off F3 N3) P1
    ·exact P1.elim
   ·exact P1.elim
  | _ => exact P1.elim)) (hs _)
end
section
variable {X : Cx} {n : Nat} {F : FnC} {L : Addr} {cl : List (Str × Addr)} {O : Outer} {w : Wd} {σ : AS} {s : Shared} {A : Around} {env : Env} {Er : Value -> Shared -> Prop}
noncomputable def kdOf (F : FnC) : Str -> Option NameKind:=fun nm => F.scope.names.lookup nm
inductive DefX (K : Frag) (F' : FnC) (body : List Stmt) (k : Nat) : Prop where
 | mk (name : _) (params : _) (dV : _) (kV : _) (doc : _) (pm : _) (an : _) (ct : _) (oc : _) (od : _) (osl : _) (h0 : K.lookup F'.fa = some ⟨oc, od, .func (fnX name F'.qual params body F'.scope [] dV kV doc pm an F'.cd ct), osl⟩) (h1 : ∀ xs : List Value, xs.length = k -> ∀ s : Shared, K.In s.heap -> BindsTo s (fnX name F'.qual params body F'.scope [] dV kV doc pm an F'.cd ct) ⟨xs, []⟩ ((F'.vars.take k).zip xs)) : DefX K F' body k
structure DefK (K : Frag) (F' : FnC) (body : List Stmt) (k : Nat) : Prop where
 ex : DefX K F' body k
 code : codeIn K F'.cd F'.qual = true
 co : F'.scope.isCoroutine = false
 gen : F'.scope.isGenerator = false
 kle : k <= F'.vars.length
 cnd : ((cellsFrom 0 F'.scope.names []).map (·.1)).Nodup
 ckd : ∀ m, ∀ nm ∈ F'.vars, F'.scope.names.lookup nm = some .cell -> ((cellsFrom m F'.scope.names []).lookup nm).isSome = true
theorem bindL_off {kd : Str -> Option NameKind} {nm : Str} : ∀ {bs : List (Str × Value)} {m : Str -> Option Value}, nm ∉ bs.map (·.1) -> bindL kd bs m nm = m nm
 | [], _, _ => rfl
 | (a, v) :: r, m, h => by
  have h1 : nm ≠ a:=fun q => h (q ▸ .head _)
  have h2 : nm ∉ r.map (·.1):=fun q => h (.tail _ q)
  unfold bindL
  rw [bindL_off h2]
  split
  ·exact if_neg h1
  ·rfl
theorem bindC_off {kd : Str -> Option NameKind} {nm : Str} : ∀ {bs : List (Str × Value)} {m : Str -> Option Value}, nm ∉ bs.map (·.1) -> bindC kd bs m nm = m nm
 | [], _, _ => rfl
 | (a, v) :: r, m, h => by
  have h1 : nm ≠ a:=fun q => h (q ▸ .head _)
  have h2 : nm ∉ r.map (·.1):=fun q => h (.tail _ q)
  unfold bindC
  rw [bindC_off h2]
  split
  ·rfl
  ·exact if_neg h1
theorem zip_off {nm : Str} {ns : List Str} {xs : List Value} (h : nm ∉ ns) : nm ∉ (ns.zip xs).map (·.1):=fun q => by
 obtain ⟨p, hp, rfl⟩:=List.mem_map.mp q
 exact h (List.of_mem_zip (show (p.1, p.2) ∈ _ from hp)).1
theorem bind_get {kd : Str -> Option NameKind} {nm : Str} {x : Value} : ∀ {ns : List Str} {xs : List Value} {m c : Str -> Option Value} {i : Nat}, ns.Nodup -> ns[i]? = some nm -> xs[i]? = some x ->
  (kd nm = some .local -> bindL kd (ns.zip xs) m nm = some x) /\ (kd nm = some .cell -> bindC kd (ns.zip xs) c nm = some x)
 | [], _, _, _, _, _, h, _ => by cases h
 | _ :: _, [], _, _, _, _, _, h => by cases h
 | a :: ns, y :: xs, m, c, 0, hn, h, h' => by
  obtain rfl : a = nm:=Option.some.inj h
  obtain rfl : y = x:=Option.some.inj h'
  have off:=zip_off (xs:=xs) (List.nodup_cons.mp hn).1
  constructor
  ·intro hk
   show bindL kd ((a, y) :: ns.zip xs) m a = _
   unfold bindL
   rw [bindL_off off, if_pos hk, if_pos rfl]
  ·intro hk
   show bindC kd ((a, y) :: ns.zip xs) c a = _
   unfold bindC
   rw [bindC_off off, if_neg (by rw [hk]; decide), if_pos rfl]
 | a :: ns, y :: xs, m, c, i + 1, hn, h, h' => by
  have ih:=fun m c => bind_get (kd:=kd) (m:=m) (c:=c) (List.nodup_cons.mp hn).2 (show ns[i]? = some nm from h) (show xs[i]? = some x from h')
  constructor
  ·intro hk
   show bindL kd ((a, y) :: ns.zip xs) m nm = _
   unfold bindL
   exact (ih _ c).1 hk
  ·intro hk
   show bindC kd ((a, y) :: ns.zip xs) c nm = _
   unfold bindC
   exact (ih m _).2 hk
theorem CellsAre.get {cm : Str -> Option Value} {cs : List (Str × Addr)} {cells : Led} (h : CellsAre cm cs cells) : ∀ {nm : Str} {c : Addr}, cs.lookup nm = some c -> ∃ o, (c, o) ∈ cells /\ o.data = .cell (cm nm):=by
 induction h with
 | nil => intro nm c e; cases e
 | @cons n' c' o cs cells hd _ ih =>
  intro nm c e
  rw [List.lookup_cons] at e
  cases hb : nm == n' with
  | true => rw [hb] at e; cases e; rw [eq_of_beq hb]; exact ⟨o, .head _, hd⟩
  | false =>
   rw [hb] at e
   obtain ⟨o', h1, h2⟩:=ih e
   exact ⟨o', .tail _ h1, h2⟩
noncomputable def inW (w : Wd) (cells : Led) (L : Addr) (oL : Obj) (m : Str -> Option Value) : Wd:={ mo:=w.mo, ce:=cells, tp:=w.ce ++ w.tp, fz:=w.fz, fo:=(L, oL) :: w.fo, al:=w.al, be:=w.be, m:=m }
noncomputable def outW (w w1 : Wd) (fo : Led) : Wd:={ mo:=w1.mo, ce:=w.ce, tp:=w.tp, fz:=w1.fz, fo:=fo, al:=w1.al, be:=w1.be, m:=w.m }
theorem mem_inW {w : Wd} {cells : Led} {oL : Obj} {m : Str -> Option Value} {p : Addr × Obj} : p ∈ (inW w cells L oL m).P ↔ p ∈ cells \/ p = (L, oL) \/ p ∈ w.P:=by
 unfold Wd.P Wd.rest inW
 simp only [List.mem_append, List.mem_cons]
 constructor
 ·rintro (h | h | (h | h) | h | h | h) <;> simp [h]
 ·rintro (h | h | (h | h | h | h | h)) <;> simp [h]
theorem perm_inW {w : Wd} {cells : Led} {oL : Obj} {m : Str -> Option Value} : (inW w cells L oL m).P.Perm (cells ++ (L, oL) :: w.P):=by
 unfold Wd.P Wd.rest inW
 dsimp only
 have e1 : w.mo ++ (cells ++ (w.ce ++ w.tp ++ (w.fz ++ (L, oL) :: w.fo))) = (w.mo ++ (cells ++ (w.ce ++ w.tp ++ w.fz))) ++ (L, oL) :: w.fo:=by simp [List.append_assoc]
 rw [e1]
 refine List.perm_middle.trans ?_
 refine List.Perm.trans ?_ List.perm_middle.symm
 refine List.Perm.cons _ ?_
 have e2 : w.mo ++ (cells ++ (w.ce ++ w.tp ++ w.fz)) ++ w.fo = w.mo ++ (cells ++ (w.ce ++ (w.tp ++ (w.fz ++ w.fo)))):=by simp [List.append_assoc]
 rw [e2, <- List.append_assoc, <- List.append_assoc cells]
 exact List.Perm.append_right _ List.perm_append_comm
theorem perm_outW {w w1 : Wd} {fo : Led} {p : Addr × Obj} (ht : w1.tp = w.ce ++ w.tp) (hf : w1.fo = p :: fo) : w1.P.Perm (w1.ce ++ p :: (outW w w1 fo).P):=by
 unfold Wd.P Wd.rest outW
 dsimp only
 rw [ht, hf]
 have e1 : w1.mo ++ (w1.ce ++ (w.ce ++ w.tp ++ (w1.fz ++ p :: fo))) = (w1.mo ++ (w1.ce ++ (w.ce ++ w.tp ++ w1.fz))) ++ p :: fo:=by simp [List.append_assoc]
 rw [e1]
 refine List.perm_middle.trans ?_
 refine List.Perm.trans ?_ List.perm_middle.symm
 refine List.Perm.cons _ ?_
 have e2 : w1.mo ++ (w1.ce ++ (w.ce ++ w.tp ++ w1.fz)) ++ fo = w1.mo ++ (w1.ce ++ (w.ce ++ (w.tp ++ (w1.fz ++ fo)))):=by simp [List.append_assoc]
 rw [e2, <- List.append_assoc, <- List.append_assoc w1.ce]
 exact List.Perm.append_right _ List.perm_append_comm
theorem keys_perm {a b : Led} (h : a.Perm b) : (keys a).Perm (keys b):=h.map _
theorem St.into (hX : X.Ok) (S : St X F L cl O w σ s) (hF : F.Ok) {F' : FnC} (hF' : F'.Ok) {stmts : List Stmt} {k N : Nat} (D : DefK X.K F' stmts k) {vs : List PV} {xs : List Value} (hv : VRsw X w σ.nxt vs xs) (hl : vs.length = k)
  {s1 : Shared} (I : InCallC s s.heap.objs.size (bindL (kdOf F') ((F'.vars.take k).zip xs) fun _ => none) (cellsFrom (s.heap.objs.size + 1) F'.scope.names []) (bindC (kdOf F') ((F'.vars.take k).zip xs) fun _ => none) s1)
  (hg : s1.gens = s.gens) (ho : s1.os = s.os) :
  ∃ cells oL, St X F' s.heap.objs.size (cellsFrom (s.heap.objs.size + 1) F'.scope.names []) ((F.env L cl, L, w.m) :: O) (inW w cells L oL (bindL (kdOf F') ((F'.vars.take k).zip xs) fun _ => none))
   ⟨vs.map some ++ List.replicate (N - vs.length) none, σ.mem, σ.nxt⟩ s1:=by
 have keep:=I.toInCall.keep
 obtain ⟨oL, hoL, hM⟩:=OMap.of_ns S.fr.ns
 obtain ⟨cells, NC, CA⟩:=Cl.news (h₀:=s.heap) (h:=s1.heap) (L:=s.heap.objs.size) (cm:=bindC (kdOf F') ((F'.vars.take k).zip xs) fun _ => none) (yM _) (cs:=cellsFrom (s.heap.objs.size + 1) F'.scope.names [])
  fun n c hm => ⟨I.cell n c (lookup_of_mem_nodup (cellsFrom_names F'.scope.names 0 (s.heap.objs.size + 1) [] [] rfl ▸ D.cnd) hm), I.above n c hm⟩
 have Bn : ∀ a, s.heap.get? a = none -> X.B.get? a = none:=fun a h => by
  cases q : X.B.get? a with
  | none => rfl
  | some o => have:=S.fr.keep a o q; rw [h] at this; cases this
 have nw : News X.B s.heap.objs.size s1.heap (inW w cells L oL (bindL (kdOf F') ((F'.vars.take k).zip xs) fun _ => none)).P:=fun p hp => by
  rcases mem_inW.mp hp with hp | rfl | hp
  ·exact ⟨(NC p hp).1, (NC p hp).2.1, Bn _ (NC p hp).2.2⟩
  ·exact ⟨keep _ _ hoL, Nat.ne_of_lt (Heap.lt_size hoL), S.noL⟩
  ·exact ⟨keep _ _ (S.nw p hp).1, Nat.ne_of_lt (Heap.lt_size (S.nw p hp).1), (S.nw p hp).2.2⟩
 have cnd : (keys cells).Nodup:=by
  have ap:=I.apart
  clear nw NC
  have key : ∀ {cs : List (Str × Addr)} {cells : Led} {cm : Str -> Option Value}, CellsAre cm cs cells -> keys cells = cs.map (·.2):=by
   intro cs cells cm h
   induction h with
   | nil => rfl
   | cons _ _ ih => show _ :: keys _ = _ :: _; rw [ih]
  rw [key CA]
  exact List.pairwise_map.mpr ap
 refine ⟨cells, oL, ⟨?_, ⟨I.toInCall.ns, fun b o e => keep b o (S.fr.keep b o e), yL S.fr.above (Nat.le_of_lt (Heap.lt_size hoL))⟩, nw, hg.trans S.gens, ho.trans S.os⟩⟩
 have fin : ∀ a ∈ keys w.P, ∃ o, s.heap.get? a = some o:=fun a h => by
  obtain ⟨p, hp, rfl⟩:=List.mem_map.mp h
  exact ⟨p.2, (S.nw p hp).1⟩
 refine ⟨?_, .cons hF.fn rfl hM S.pu.fo, S.pu.mem, S.pu.inj, S.pu.adr, fun i v e => ?_, fun nm c e => ?_, fun nm nm' c e e' => name_of_addr I.apart (mem_of_lookup e) (mem_of_lookup e'), fun nm hm hk => D.ckd _ nm hm hk⟩
 ·refine (keys_perm perm_inW).nodup_iff.mpr ?_
  rw [keys_append]
  refine List.nodup_append.mpr ⟨cnd, List.nodup_cons.mpr ⟨fun q => ?_, S.pu.nod⟩, fun a ha b hb q => ?_⟩
  ·obtain ⟨p, hp, e⟩:=List.mem_map.mp q
   exact (S.nw p hp).2.1 e
  ·subst q
   obtain ⟨p, hp, rfl⟩:=List.mem_map.mp ha
   have h1:=(NC p hp).2.2
   rcases List.mem_cons.mp hb with q | hb
   ·rw [show p.1 = L from q, hoL] at h1; cases h1
   ·obtain ⟨o, h2⟩:=fin _ hb
    rw [h2] at h1; cases h1
 ·have hi : i < vs.length:=by
   rcases Nat.lt_or_ge i vs.length with h | h
   ·exact h
   ·rw [List.getElem?_append_right (by simpa using h)] at e
    have:=List.mem_of_getElem? e
    have:=(List.mem_replicate.mp this).2
    cases this
  rw [List.getElem?_append_left (by simpa using hi), List.getElem?_map] at e
  obtain ⟨v', e1, e2⟩:=Option.map_eq_some_iff.mp e
  cases e2
  obtain ⟨x, ex, hx⟩:=hv.get e1
  have hik : i < k:=hl ▸ hi
  have hiv : i < F'.vars.length:=yK hik D.kle
  refine ⟨F'.vars[i], yI hiv, x, hx, ?_⟩
  have e3 : (F'.vars.take k)[i]? = some F'.vars[i]:=by rw [List.getElem?_take_of_lt hik]; exact yI hiv
  have nd : (F'.vars.take k).Nodup:=hF'.nd.sublist (List.take_sublist _ _)
  have g:=bind_get (kd:=kdOf F') (m:=fun _ => none) (c:=fun _ => none) nd e3 ex
  have hmem : F'.vars[i] ∈ F'.vars:=List.getElem_mem _
  rcases hF'.kind _ hmem with hk | hk
  ·exact .inl ⟨hk, g.1 hk⟩
  ·obtain ⟨c, hc⟩:=Option.isSome_iff_exists.mp (D.ckd (s.heap.objs.size + 1) _ hmem hk)
   obtain ⟨o, h1, h2⟩:=CellsAre.get CA hc
   exact .inr ⟨hk, c, o, hc, h1, by rw [h2, g.2 hk]⟩
 ·obtain ⟨o, h1, h2⟩:=CellsAre.get CA e
  exact ⟨o, _, h1, h2⟩
theorem FoR.uncons {env : Env} {m : Str -> Option Value} {l : Led} (h : FoR ((env, L, m) :: O) l) : ∃ o l', l = (L, o) :: l' /\ OMap o m /\ FoR O l':=by
 cases h with
 | cons _ _ hm r => exact ⟨_, _, rfl, hm, r⟩
theorem St.back (S : St X F L cl O w σ s) {F' : FnC} {L' : Addr} {cl' : List (Str × Addr)} {cells : Led} {oL : Obj} {m' : Str -> Option Value} {w1 : Wd} {σ1 : AS} {s1 : Shared}
  (S1 : St X F' L' cl' ((F.env L cl, L, w.m) :: O) w1 σ1 s1) (E : Ext (inW w cells L oL m') w1 σ.nxt σ1.nxt) :
  ∃ w2, St X F L cl O w2 ⟨σ.loc, σ1.mem, σ1.nxt⟩ s1 /\ Ext w w2 σ.nxt σ1.nxt /\ w2.fz = w1.fz /\ w2.al = w1.al /\ ∀ a, a ∉ keys w1.P -> a ∉ keys w2.P:=by
 refine yN fun hgl => ?_
 obtain ⟨oL1, fo1, ef, hM, hfo⟩:=S1.pu.fo.uncons
 refine hgl ?_; clear hgl
 have pm:=perm_outW (w:=w) E.tp ef
 have nd:=(keys_perm pm).nodup_iff.mp S1.pu.nod
 rw [keys_append] at nd
 have nd2:=List.nodup_cons.mp (List.nodup_append.mp nd).2.1
 have sub : ∀ p ∈ (outW w w1 fo1).P, p ∈ w1.P:=fun p hp => pm.mem_iff.mpr (List.mem_append_right _ (.tail _ hp))
 have inL : (L, oL1) ∈ w1.P:=pm.mem_iff.mpr (List.mem_append_right _ (.head _))
 have g : Grow w.fz w1.fz w.al w1.al σ.nxt σ1.nxt:=E.toGrow
 refine ⟨outW w w1 fo1, ⟨⟨nd2.2, hfo, S1.pu.mem, S1.pu.inj, S1.pu.adr, fun i v e => ?_, S.pu.cel, S.pu.celi, S.pu.ckd⟩, ⟨hM.ns (S1.nw _ inL).1, S1.fr.keep, S.fr.above⟩, fun p hp => ⟨(S1.nw p (sub p hp)).1, fun q => ?_, (S1.nw p (sub p hp)).2.2⟩, S1.gens, S1.os⟩, ⟨g, rfl⟩, rfl, rfl, fun a h q => ?_⟩
 ·obtain ⟨nm, h1, h2⟩:=S.pu.locs i v e
  exact ⟨nm, h1, h2.mono (w:=w) (w':=outW w w1 fo1) g rfl rfl⟩
 ·exact nd2.1 (q ▸ List.mem_map.mpr ⟨p, hp, rfl⟩)
 ·obtain ⟨p, hp, rfl⟩:=List.mem_map.mp q
  exact h (List.mem_map.mpr ⟨p, sub p hp, rfl⟩)
theorem Ar.deeper (hA : Ar A (n + 1) (F.env L cl) O) {env' : Env} {m : Str -> Option Value} : Ar (A.deeper env') n env' ((F.env L cl, L, m) :: O):=by
 refine ⟨?_, ?_, Around.frames_deeper hA.frames, hA.guards, .inl (hA.hd.resolve_right (by lia))⟩
 ·have:=hA.depth; show A.depth + 1 + 2 * n <= 900; lia
 ·have:=hA.units; show A.units + 3 + 10 * n <= 9000; lia
theorem ExT.out {w1 w2 : Wd} {e C : Addr} {fl : Value} {h : Heap} (x : ExT X w1.P e C fl h) (sub : ∀ a, a ∉ keys w1.P -> a ∉ keys w2.P) : ExT X w2.P e C fl h:=by
 obtain ⟨oe, vs, T, oT, ts, h1, h2, h3, h4, h5, h6, h7, h8, h9, r1, r2, r3⟩:=x
 exact ⟨oe, vs, T, oT, ts, h1, h2, h3, h4, h5, sub _ h6, h7, h8, sub _ h9, r1, r2, r3⟩
noncomputable abbrev RC (Q : Value -> Shared -> Prop) (Er : Value -> Shared -> Prop) : Result -> Shared -> Prop:=fun r s' => match r with
 | .ok (.ret v) => Q v s'
 | .ok _ => False
 | .error e => Er e s'
noncomputable def CodS (X : Cx) (n : Nat) (F : FnC) (f : Value) (k : Nat) (G : List PV -> M PV) : Prop:=∀ (A : Around) (L : Addr) (cl : List (Str × Addr)) (O : Outer) (w : Wd) (σ : AS) (s : Shared) (vs : List PV) (xs : List Value) (Q : Value -> Shared -> Prop) (Er : Value -> Shared -> Prop),
 vs.length = k -> Ar A n (F.env L cl) O -> St X F L cl O w σ s -> VRsw X w σ.nxt vs xs -> Post X F L cl O (VRw X) w σ.nxt (G vs σ) Q Er -> codeAny (model X.prog X.w) A (.call f ⟨xs, []⟩) (RC Q Er) s
theorem CodS.fun {f : Value} {k : Nat} {G : List PV -> M PV} (h : CodS X n F f k G) : FunS X n F f k G:=fun A L cl O w σ s vs xs Q Er hl hA hS hv hP => wpAny_call (h A L cl O w σ s vs xs Q Er hl hA hS hv hP)
theorem fun_def (hX : X.Ok) (hF : F.Ok) {F' : FnC} (hF' : F'.Ok) {stmts : List Stmt} {k N : Nat} {cb : List S} (D : DefK X.K F' stmts k) (hb : SSs X n F' stmts (sSeq cb)) : CodS X (n + 1) F (.ref F'.fa) k (fnM N cb) :=
 fun A L cl O w σ s vs xs Q Er hl hA S hv hP => by
 obtain ⟨name, params, dV, kV, doc, pm, an, ct, oc, od, osl, hlk, hbind⟩:=D.ex
 have hk : F'.scope.kind = .function:=hF'.fn
 have hroom : A.depth < recursionLimit:=dep2 hA.depth
 have hlx : xs.length = k:=by rw [<- hv.length, hl]
 have hkind : ∀ x ∈ (F'.vars.take k).zip xs, F'.scope.names.lookup x.1 = some .local \/ (F'.scope.names.lookup x.1 = some .cell /\ ((cellsFrom (s.heap.objs.size + 1) F'.scope.names []).lookup x.1).isSome = true):=fun x hx => by
  have hm : x.1 ∈ F'.vars:=List.mem_of_mem_take (List.of_mem_zip (show (x.1, x.2) ∈ _ from hx)).1
  exact (hF'.kind _ hm).imp id fun h => ⟨h, D.ckd _ _ hm h⟩
 refine codeAny_call_function hroom (hX.K.keeps S.fr.keep _ _ hlk) rfl D.co D.gen rfl (codeRec_of (hX.K.keeps S.fr.keep) D.code) (hbind xs hlx s (S.In hX) _ _ _ _ ?_)
 refine wpAny_newFunctionEnv_cells hk hkind fun env' he s1 I => ?_
 subst he
 refine ⟨(hX.T.nolimit.keeps S.fr.keep).keeps I.toInCall.keep, codeAny_func ?_⟩
 obtain ⟨cells, oL, S1⟩:=S.into (N:=N) hX hF hF' D hv hl I (by obtain ⟨h', tk, rfl, _⟩:=I.done; rfl) (by obtain ⟨h', tk, rfl, _⟩:=I.done; rfl)
 have hA1:=hA.deeper (env':=F'.env s.heap.objs.size (cellsFrom (s.heap.objs.size + 1) F'.scope.names [])) (m:=w.m)
 refine hb _ _ _ _ _ _ s1 _ _ hA1 S1 ?_
 unfold fnM at hP
 cases e : sSeq cb ⟨vs.map some ++ List.replicate (N - vs.length) none, σ.mem, σ.nxt⟩ with
 | stuck => rw [e] at hP; exact hP.elim
 | ok f σ1 =>
  rw [e] at hP
  intro fv w1 s2 S2 E2 V2
  refine yN fun hgl => ?_
  obtain ⟨w2, S3, E3, efz, eal, _⟩:=S.back S2 E2
  refine hgl ?_; clear hgl
  cases V2 with
  | nx => exact hP _ _ _ S3 E3 .none
  | rt h => exact hP _ _ _ S3 E3 (by show VR X.B w2.fz w2.al _ _ _; rw [efz, eal]; exact h)
 | exc C σ1 =>
  rw [e] at hP
  intro ev w1 s2 hx E2
  unfold leaving
  refine wpAny_bind (note_ok hF' hA1.frames hx fun w2 s3 S3 x3 E3 => flight_ok (f:=none) S3 x3 fun s4 S4 x4 => ?_)
  obtain ⟨w5, S5, E5, _, _, sub⟩:=S.back S4 (E2.trans E3)
  exact hP _ _ _ ⟨S5, (x4.out sub).at _ (.inl rfl)⟩ E5
end
end Mine
end
section
open PySem PySem.W PySem.Calls PySem.Builtin PySem.Builtin.ObjectAttr
open PyProof.Rows (Fr News)
set_option maxRecDepth 100000
namespace Mine
noncomputable abbrev veTail : List Value:=[.ref 39, .type "ValueError", .type "Exception", .type "BaseException", .type "object"]
inductive ExcCls (h : Heap) (C : Addr) : Prop where
 | mk (nm : _) (q : _) (N : _) (bs : _) (hdct : _) (sn : _) (sub : _) (ab : _) (col : _) (dd : _) (k0 : _) (k1 : _) (k2 : _) (k3 : _) (k5 : _) (h0 : h.get? C = some (excClassObj nm q C N bs veTail hdct sn sub ab col dd k0 k1 k2 k3 k5 "ValueError.__new__")) : ExcCls h C
theorem ExcCls.keeps {h h' : Heap} {C : Addr} (x : ExcCls h C) (k : ∀ b o, h.get? b = some o -> h'.get? b = some o) : ExcCls h' C:=by
 obtain ⟨nm, q, N, bs, hdct, sn, sub, ab, col, dd, k0, k1, k2, k3, k5, e⟩:=x
 exact ⟨nm, q, N, bs, hdct, sn, sub, ab, col, dd, k0, k1, k2, k3, k5, k _ _ e⟩
section
variable {prog : Program} {w : World} {A : Around} {R : Result -> Shared -> Prop} {h : Heap} {g : Array GenState} {d : Drawn} {t : Nat} {os : OsState} {E : Value -> Shared -> Prop}
variable {nm q : Str} {C N : Addr} {bs : List Value} {hdct : Bool} {sn : List Str} {sub : List Value} {ab : Bool} {col : Option Bool} {dd : Option Addr} {k0 k1 k2 k3 k5 : Option Value} {inN : String} {bmN : List Value}
noncomputable abbrev excNewHeap (h : Heap) (C : Addr) (rest : List Value) : Heap:=(h.push { cls:=.type "tuple", data:=.seq rest.toArray }).push { cls:=.ref C, data:=.fields #[.ref h.objs.size, .none, .none, .none, .bool false, .none] }
theorem exc_new (Fn : ExcBaseFacts "ValueError" "ValueError.__new__" inN bmN) {rest : List Value} (hC : h.get? C = some (excClassObj nm q C N bs veTail hdct sn sub ab col dd k0 k1 k2 k3 k5 "ValueError.__new__"))
  (hq : R (.ok (.ret (.ref (h.objs.size + 1)))) ⟨excNewHeap h C rest, g, d, t, os⟩) (hrest : rest.length <= sizeLine) :
  codeAny (model prog w) A (.builtin "ValueError.__new__" ⟨.ref C :: rest, []⟩) R ⟨h, g, d, t, os⟩:=by
 have hends:=Fn.ends
 have hcB : (Value.ref C :: veTail).contains (.type "ValueError") = true:=by rw [List.contains_cons]; rfl
 have hcA : (Value.ref C :: veTail).contains (.type "AttributeError") = false:=by rw [List.contains_cons]; rfl
 have hcN : (Value.ref C :: veTail).contains (.type "NameError") = false:=by rw [List.contains_cons]; rfl
 refine codeAny_builtinAt Fn.entry ?_
 unfold Builtin.«BaseException.__new__»
 refine wpAt_bind ?_
 show wpAt _ _ _ (stack >>= _) _ _ _
 refine wpAt_bind (wpAt_stack fun p below => wpAt_of_wpAny ?_)
 wp_walk
 refine wpAt_of_wpAny ?_
 rw [Fn.owner]
 repeat (first | with_reducible refine wpAny_madeHere_exc Fn.canon hC ?_ | with_reducible refine wpAny_loadPart_at hC ?_ | (with_reducible refine wpAny_isSubtype_exc hC ?_; first | rw [hcB] | rw [hcA] | rw [hcN]) | wp_step)
 show R _ _
 rw [Heap.size_push]
 exact hq
theorem exc_type_call (Fn : ExcBaseFacts "ValueError" "ValueError.__new__" inN bmN) {rest : List Value} {fI : Addr} {oI : Obj} {Q : Fin -> Shared -> Prop} (hC : h.get? C = some (excClassObj nm q C N bs veTail hdct sn sub ab col dd k0 k1 k2 k3 k5 "ValueError.__new__"))
  (hi : Looks (model prog w) h (typeLookup (.ref C) "__init__") (some (.ref fI))) (hfI : h.get? fI = some oI) (hfc : oI.cls = .type "function")
  (hq : wpAny (model prog w) A (call (.ref fI) (.ref (h.objs.size + 1) :: rest)) (fun r s' => r = .none /\ Q (.done (.ret (.ref (h.objs.size + 1)))) s') E ⟨excNewHeap h C rest, g, d, t, os⟩) (hrest : rest.length <= sizeLine) :
  wpAny (model prog w) A (Builtin.«type.__call__» ⟨.ref C :: rest, []⟩) Q E ⟨h, g, d, t, os⟩:=by
 repeat (first | with_reducible refine wpAny_loadPart_at hC ?_ | with_reducible refine wpAny_madeBy_exc hC ?_ | wp_step)
 refine codeAny_call_builtin_code (Code.quiet_builtin _ Fn.quiet) (wpAny_check_new_subU (bmB:=veTail) Fn (by decide +kernel) .base hC ?_)
 refine exc_new Fn hC ?_ hrest
 show wpAny _ _ _ _ _ _
 have k : ∀ b o, h.get? b = some o -> (excNewHeap h C rest).get? b = some o:=fun b o e => Heap.get?_push_of_some _ (Heap.get?_push_of_some _ e)
 have hC₁:=k _ _ hC
 have hfI₁:=k _ _ hfI
 have hget : (excNewHeap h C rest).get? (h.objs.size + 1) = some { cls:=.ref C, data:=.fields #[.ref h.objs.size, .none, .none, .none, .bool false, .none] }:=by
  have:=Heap.get?_push_size (h:=h.push { cls:=.type "tuple", data:=.seq rest.toArray }) (o:={ cls:=.ref C, data:=.fields #[.ref h.objs.size, .none, .none, .none, .bool false, .none] }) rfl
  rwa [Heap.size_push] at this
 have hcC : (Value.ref C :: veTail).contains (.ref C) = true:=by simp
 unfold isInstance
 repeat (first | with_reducible refine wpAny_loadPart_at hget ?_ | (with_reducible refine wpAny_isSubtype_exc hC₁ ?_; rw [hcC]) | wp_step)
 show wpAny _ _ (typeLookup (.ref C) _) _ _ _
 refine (hi.keeps k).here ?_
 refine wpAny_holding (wpAny_bind ?_)
 unfold bindSpecial
 refine wpAny_bind (wpAny_typeOf (T:="function") ⟨_, hfI₁, hfc⟩ ?_)
 rw [if_pos (by decide)]
 refine wpAny_pure (wpAny_bind (wpAny_mono hq (fun r s' hr => ?_) fun _ _ x => x))
 obtain ⟨rfl, hQ⟩:=hr
 wp_walk
 exact hQ
theorem exc_call (Fn : ExcBaseFacts "ValueError" "ValueError.__new__" inN bmN) {rest : List Value} {fI : Addr} {oI : Obj} {Q : Value -> Shared -> Prop} (hC : h.get? C = some (excClassObj nm q C N bs veTail hdct sn sub ab col dd k0 k1 k2 k3 k5 "ValueError.__new__"))
  (hi : Looks (model prog w) h (typeLookup (.ref C) "__init__") (some (.ref fI))) (hfI : h.get? fI = some oI) (hfc : oI.cls = .type "function")
  (hq : wpAny (model prog w) (A.under (.builtin "type.__call__" ⟨.ref C :: rest, []⟩)) (call (.ref fI) (.ref (h.objs.size + 1) :: rest)) (fun r s' => r = .none /\ Q (.ref (h.objs.size + 1)) s') E ⟨excNewHeap h C rest, g, d, t, os⟩) (hrest : rest.length <= sizeLine) :
  wpAny (model prog w) A (call (.ref C) rest) Q E ⟨h, g, d, t, os⟩:=by
 have f1:=tc_lookup
 have f2:=tc_bind (.ref C)
 have hT : (⟨h, g, d, t, os⟩ : Shared).TypeIs (.ref C) "type":=⟨_, hC, rfl⟩
 refine wpAny_call (codeAny_of_tree ?_)
 show wpAny _ _ (callAny (.ref C) _) _ _ _
 repeat (any_goals (first | assumption | with_reducible refine wpAny_loadPart_at hC ?_ | wp_step))
 refine ⟨rfl, ?_⟩
 exact codeAny_call_builtin_at (Code.quiet_builtin _ (by decide +kernel)) entry_typeCall (wpAny_check_type_call_sub hC (exc_type_call Fn hC hi hfI hfc hq hrest))
theorem exc_check_init (Fn : ExcBaseFacts "ValueError" "ValueError.__new__" "ValueError.__init__" bmN) {M : Model} {e : Addr} {oe : Obj} {rest : List Value} {Q : Unit -> Shared -> Prop}
  (hC : h.get? C = some (excClassObj nm q C N bs veTail hdct sn sub ab col dd k0 k1 k2 k3 k5 "ValueError.__new__")) (he : h.get? e = some oe) (hcls : oe.cls = .ref C) (hq : Q () ⟨h, g, d, t, os⟩) :
  wpAny M A (checkBuiltinCall "ValueError.__init__" ⟨.ref e :: rest, []⟩) Q E ⟨h, g, d, t, os⟩:=by
 have hcB : (Value.ref C :: veTail).contains (.type "ValueError") = true:=by rw [List.contains_cons]; rfl
 have hshort:=Fn.noStar
 simp only [checkBuiltinCall, Fn.initKind, Fn.initSplit, Fn.initRow]
 repeat (first | (with_reducible refine wpAny_loadPart_at he ?_; rw [hcls]) | with_reducible refine wpAny_loadPart_at hC ?_ | (with_reducible refine wpAny_isSubtype_exc hC ?_; rw [hcB]) | wp_step)
 refine wpAny_onRaise ?_
 rw [show ∀ (a b : String) (n : Nat), Bind.check ⟨.positional, "*", "ValueError", .self, [⟨"args", .varPos, false⟩]⟩ a b n (List.map (fun x => x.fst) ({ pos:=Value.ref e :: rest } : Args).kw) = pure () from
  fun a b n => check_star_args _ _ _ _ _ _]
 exact wpAny_pure hq
noncomputable abbrev excObj (C t0 : Addr) : Obj:={ cls:=.ref C, data:=.fields #[.ref t0, .none, .none, .none, .bool false, .none] }
theorem exc_init {e t0 : Addr} {x : Value} {Q : Value -> Shared -> Prop} (Fn : ExcBaseFacts "ValueError" "ValueError.__new__" "ValueError.__init__" bmN)
  (hC : h.get? C = some (excClassObj nm q C N bs veTail hdct sn sub ab col dd k0 k1 k2 k3 k5 "ValueError.__new__")) (he : h.get? e = some (excObj C t0))
  (hq : ∀ h', (∀ b o, b ≠ e -> h.get? b = some o -> h'.get? b = some o) -> (∃ t1, h'.get? e = some (excObj C t1)) -> Q .none ⟨h', g, d, t, os⟩) :
  wpAny (model prog w) A (call (.builtin "ValueError.__init__") [.ref e, x]) Q E ⟨h, g, d, t, os⟩:=by
 have he₁:=Heap.get?_push_of_some { cls:=.type "tuple", data:=.seq #[x] } he
 refine wpAny_call (codeAny_call_builtin Fn.init.plain Fn.initEntry (exc_check_init Fn hC he rfl ?_))
 wp_walk
 refine hq _ (fun b o hb e' => ?_) ⟨h.objs.size, ?_⟩
 ·rw [Heap.get?_update_other _ _ (Ne.symm hb)]
  exact Heap.get?_push_of_some _ e'
 ·rw [Heap.get?_update_self _ he₁ rfl]
  rfl
inductive ExcX (K : Frag) (C : Addr) : Prop where
 | mk (nm : _) (q : _) (N : _) (bs : _) (sn : _) (sub : _) (ab : _) (col : _) (dd : _) (k0 : _) (k1 : _) (k2 : _) (k3 : _) (k5 : _) (h0 : K.lookup C = some (excClassObj nm q C N bs veTail true sn sub ab col dd k0 k1 k2 k3 k5 "ValueError.__new__")) : ExcX K C
structure ExcK (K : Frag) (C : Addr) : Prop where
 cls : ExcX K C
 set : findIn K (.ref C) "__setattr__" = some (some (.builtin "object.__setattr__"))
 reason : findIn K (.ref C) "reason" = some none
 init : findIn K (.ref C) "__init__" = some (some (.ref 36))
 keep : keepIn K (.ref C) = true
theorem exc_set {K : Frag} {e t0 : Addr} {v : Value} {Q : Unit -> Shared -> Prop} (X : K.In h) (Y : ExcK K C) (he : h.get? e = some (excObj C t0))
  (hq : ∀ h' t', (∀ b o, b ≠ e -> h.get? b = some o -> h'.get? b = some o) -> (∃ dx, h'.get? e = some { excObj C t0 with dict:=some dx }) -> Q () ⟨h', g, d, t', os⟩) :
  wpAny (model prog w) A (setAttr (.ref e) "reason" v) Q E ⟨h, g, d, t, os⟩:=by
 obtain ⟨nm, q, N, bs, sn, sub, ab, col, dd, k0, k1, k2, k3, k5, hcls⟩:=Y.cls
 have I : W.InstAt h e (excObj C t0) C none:=⟨he, rfl, rfl, trivial⟩
 have hc : clsIn K C = some { name:=nm, bases:=bs, mro:=.ref C :: veTail, ns:=N, qualname:=q, hasDict:=true, slotNames:=sn, subclasses:=sub, abstract:=ab, collection:=col, hasDel:=false }:=by
  unfold clsIn; rw [hcls]
 refine set_plain X I Y.set ?_
 have SF:=PySem.F.store_object
 have SV:=PySem.F.store_ValueError
 have hsub : mroIn K C (.type "object") = some true:=by
  unfold mroIn
  rw [hc, Option.bind_some, if_neg (by simp)]
  refine congrArg some ?_
  show (Value.ref C :: veTail).contains (.type "object") = true
  simp
 have sub : Looks (model prog w) h (isInstance (.ref e) (.type "object")) true:=I.type.andThen (looks_mroIn X hsub)
 refine codeAny_call_builtin SF.slot.plain SF.entry (@check_slot (model prog w) _ _ ⟨h, g, d, t + 1, os⟩ "object.__setattr__" "object" "__setattr__" (.ref e) [.str "reason" t, v] [] _ SF.kind SF.split sub (SF.args (.ref e) (.str "reason" t) v) ?_)
 have hm : Looks (model prog w) h (mroOf (.ref C)) (.ref C :: veTail):=(looks_clsIn X hc).andThen .now
 rw [osa_eq, refuse_eq]
 refine wpAny_bind (wpAny_bind (I.type.here (wpAny_bind (hm.here ?_))))
 rw [refuseLoop_ref, refuseLoop_ref, SV.passes]
 refine wpAny_pure (wpAny_bind (I.type.here (wpAny_bind ((looks_findIn X Y.reason).here (wpAny_bind (wpAny_pure (a:=none) ?_))))))
 have hxs : e ≠ h.objs.size:=Nat.ne_of_lt (Heap.lt_size he)
 have hx₁ : (h.push { cls:=.type "dict", data:=.dict #[] }).get? e = some (excObj C t0):=Heap.get?_push_of_some _ he
 refine wpAny_bind (wpAny_pure (wpAny_bind (wpAny_bind (wpAny_loadPart he (wpAny_bind ((looks_clsIn X hc).here ?_))))))
 refine wpAny_bind (wpAny_alloc (wpAny_bind (wpAny_update hx₁ ?_)))
 refine wpAny_pure (a:=some h.objs.size) ?_
 have hgd : ((h.push { cls:=.type "dict", data:=.dict #[] }).update e fun o => { o with dict:=some h.objs.size }).get? h.objs.size = some { cls:=.type "dict", data:=.dict #[] } :=
  (Heap.get?_update_ne _ _ _ _ hxs.symm).trans (Heap.get?_push_at rfl rfl)
 have hnd : ((h.push { cls:=.type "dict", data:=.dict #[] }).update e fun o => { o with dict:=some h.objs.size }).Ns h.objs.size (fun _ => none) :=
  ⟨_, #[], _, hgd, rfl, fun e he => absurd he (by simp), fun _ => rfl⟩
 show wpAny _ _ (storeInDict h.objs.size (.str "reason" t) "reason" v) _ _ _
 unfold storeInDict newKeyGuard
 refine wpAny_bind (wpAny_pure (wpAny_bind (wpAny_nsSet1 (Heap.Ns1.of_empty hnd) fun h' hn' hs => ?_)))
 refine yN fun hgl => ?_
 obtain ⟨oD, esD, epD, hoD, hdD, hcD⟩:=hn'.count (Within.cons "reason" v Within.nil)
 refine hgl ?_; clear hgl
 refine wpAny_bind (wpAny_lookBehind hoD (by rw [hdD]; exact pastItsLine_dict (yL hcD (by rw [yA, yB, sizeLine_eq]; omega))) ?_)
 refine wpAny_pure (hq _ _ (fun b o hb e' => ?_) ⟨h.objs.size, ?_⟩)
 ·exact (hs.2 b (Nat.ne_of_lt (Heap.lt_size e'))).trans ((Heap.get?_update_ne _ _ _ _ hb).trans (Heap.get?_push_of_some _ e'))
 ·exact (hs.2 e hxs).trans (Heap.get?_update_self _ hx₁ rfl)
end
end Mine
end
section
open PySem PySem.W PySem.Calls
open PyProof.Rows (Fr News)
set_option maxRecDepth 100000
namespace Mine
theorem under_tc (A : Around) (C : Addr) (vals : List Value) (kw : List (Str × Value)) : A.under (.builtin "type.__call__" ⟨.ref C :: vals, kw⟩) = { A with depth:=A.depth + 1, units:=A.units + 1 }:=rfl
inductive InitX (K : Frag) : Prop where
 | mk (name : Str) (params : Arguments) (scope : Scope) (dV kV doc pm cd ct : Value) (an od : Option Addr) (osl : Array (Option Value)) (p1 p2 p3 p4 p5 p6 p7 p8 p9 p10 : Pos) (pl : Env -> Sem Bool) (h0 : K.lookup 36 = some ⟨.type "function", od, .func (fnX name "PressError.__init__" params
   [.Expr (.Call (.Attribute (.Name "ValueError" p1) "__init__" p2) [.Name "self" p3, .Name "reason" p4] [] p5) p6, .Assign [.Attribute (.Name "self" p7) "reason" p8] (.Name "reason" p9) p10]
   scope [] dV kV doc pm an cd ct), osl⟩) (h1 : (∀ (s : Shared) (a b : Value), K.In s.heap -> BindsTo s (fnX name "PressError.__init__" params
   [.Expr (.Call (.Attribute (.Name "ValueError" p1) "__init__" p2) [.Name "self" p3, .Name "reason" p4] [] p5) p6, .Assign [.Attribute (.Name "self" p7) "reason" p8] (.Name "reason" p9) p10]
   scope [] dV kV doc pm an cd ct) ⟨[a, b], []⟩ [("self", a), ("reason", b)])) (h2 : codeIn K cd "PressError.__init__" = true) (h3 : scope.isCoroutine = false) (h4 : scope.isGenerator = false) (h5 : scope.kind = .function) (h6 : (∀ x ∈ scope.names, x.2 ≠ .cell)) (h7 : scope.names.lookup ("self" : Str) = some .local) (h8 : scope.names.lookup ("reason" : Str) = some .local) (h9 : scope.names.lookup ("ValueError" : Str) = some .globalImplicit) (h10 : (∀ env, eval (.Call (.Attribute (.Name "ValueError" p1) "__init__" p2) [.Name "self" p3, .Name "reason" p4] [] p5) env = (do
   let ov <- eval (.Name "ValueError" p1) env
   standAt p2.atName
   let (f, first) <- holding [ov] (getMethod ov "__init__" (pl env))
   callWith p5 f first (backTo p5 (starEach [.Name "self" p3, .Name "reason" p4] env)) []))) : InitX K
structure InitK (K : Frag) : Prop where
 ex : InitX K
 top : nsIn K mainGlobals "ValueError" = some none
 init : findCls K (.type "ValueError") (.type "type") "__init__" = some (.val (.builtin "ValueError.__init__"))
section
variable {X : Cx} {n : Nat} {F : FnC} {L : Addr} {cl : List (Str × Addr)} {O : Outer} {w : Wd} {σ : AS} {s : Shared} {A : Around} {env : Env} {Er : Value -> Shared -> Prop}
theorem ve_type : typeOf (.type "ValueError") = pure (.type "type"):=by kernel_rfl
theorem ve_stub : Manifest.isStub "ValueError" = false:=by decide +kernel
theorem ve_boot : bootBuiltins "ValueError" = some (.type "ValueError"):=by kernel_rfl
theorem init36 (hX : X.Ok) (J : InitK X.K) {C e t0 : Addr} (Y : ExcK X.K C) {v : Value} {Q : Value -> Shared -> Prop} (hroom : A.depth < recursionLimit) (hsz : X.B.objs.size <= s.heap.objs.size) (hB : ∀ b o, X.B.get? b = some o -> s.heap.get? b = some o) (hen : X.B.get? e = none) (he : s.heap.get? e = some (excObj C t0))
  (hq : ∀ h' t', (∀ b o, b ≠ e -> s.heap.get? b = some o -> h'.get? b = some o) -> (∃ t1 dx, h'.get? e = some { excObj C t1 with dict:=some dx }) -> Q .none { s with heap:=h', toks:=t' }) :
  wpAny (model X.prog X.w) A (call (.ref 36) [.ref e, v]) Q Er s:=by
 obtain ⟨name, params, scope, dV, kV, doc, pm, cd, ct, an, od, osl, p1, p2, p3, p4, p5, p6, p7, p8, p9, p10, pl, hlk, hbind, hcode, hco, hgen, hk, hcell, k1, k2, k3, hm⟩:=J.ex
 have KS : X.K.In s.heap:=fun a o h => hB _ _ (hX.K _ _ h)
 refine wpAny_call (codeAny_call_def (fd:=fnX name "PressError.__init__" params _ scope [] dV kV doc pm an cd ct) hroom (KS _ _ hlk) rfl (hX.T.nolimit.keeps hB) (codeRec_of KS hcode) rfl (hbind s _ _ KS) hcell ?_ (fun h₀ hns hk₀ => ?_) hco hgen hk)
 ·intro x hx
  rcases List.mem_cons.mp hx with rfl | hx
  ·exact k1
  rcases List.mem_cons.mp hx with rfl | hx
  ·exact k2
  ·cases hx
 have F0 : Fr X.B s.heap.objs.size h₀ (fun x => [(("self" : Str), Value.ref e), (("reason" : Str), v)].reverse.lookup x):=⟨hns, fun b o q => hk₀ _ _ (hB _ _ q), hsz⟩
 have Fn:=PySem.F.excBase_ValueError
 refine yN fun hgl => ?_
 obtain ⟨nm, q, N, bs, sn, sub, ab, col, dd, j0, j1, j2, j3, j5, hcls⟩:=Y.cls
 refine hgl ?_; clear hgl
 have hC:=KS _ _ hcls
 have heL : e ≠ s.heap.objs.size:=Nat.ne_of_lt (Heap.lt_size he)
 show wpAny _ _ (execs _ (envX "PressError.__init__" scope s.heap.objs.size 36 cd [])) _ _ _
 refine wpAny_execs_cons (wpAny_Expr_any (PyProof.Rows.MethodCall_ (pl:=pl _) ?_ (hm _)) ?_ ?_)
 ·refine nameX_B (cs:=scope) (cl:=[]) F0 hX.K (topRead_of hX.T) J.top ve_boot (by decide) ?_ hk k3 (by decide)
  refine method_type (T:="ValueError") (v:=.builtin "ValueError.__init__") (s:={ s with heap:=h₀, toks:=_ }) F0 hX.K ve_type ve_stub J.init rfl ?_
  refine args_builtin (.inr ⟨_, _, rfl, rfl⟩) ?_
  refine wpAny_items_cons (nameX_L (cs:=scope) (cl:=[]) F0 (v:=.ref e) (by rfl) ?_ hk k1 (by decide))
  refine wpAny_items_cons (nameX_L (cs:=scope) (cl:=[]) F0 (v:=v) (by rfl) ?_ hk k2 (by decide))
  refine wpAny_items_nil ?_
  refine exc_init Fn (hk₀ _ _ hC) (hk₀ _ _ he) fun h₁ hk₁ he₁ => ?_
  obtain ⟨t1, he₁⟩:=he₁
  have F1 : Fr X.B s.heap.objs.size h₁ (fun x => [(("self" : Str), Value.ref e), (("reason" : Str), v)].reverse.lookup x):=by
   obtain ⟨oL, es, ep, hL, r⟩:=F0.ns
   exact ⟨⟨oL, es, ep, hk₁ _ _ (Ne.symm heL) hL, r⟩, fun b o q => hk₁ b o (fun z => by rw [z, hen] at q; cases q) (F0.keep b o q), F0.above⟩
  have K1 : X.K.In h₁:=hX.K.keeps F1.keep
  refine wpAny_execs_cons (plainObj_wpAny_Assign_Attribute ?_ rfl)
  refine nameX_L (cs:=scope) (cl:=[]) (s:={ s with heap:=h₁, toks:=_ }) F1 (v:=v) (by rfl) ?_ hk k2 (by decide)
  refine nameX_L (cs:=scope) (cl:=[]) (s:={ s with heap:=h₁, toks:=_ }) F1 (v:=.ref e) (by rfl) ?_ hk k1 (by decide)
  refine exc_set K1 Y he₁ fun h₂ t2 hk₂ he₂ => wpAny_execs_nil ?_
  obtain ⟨dx, he₂⟩:=he₂
  exact hq h₂ t2 (fun b o hb q => hk₂ b o hb (hk₁ b o hb (hk₀ b o q))) ⟨t1, dx, he₂⟩
 ·unfold interactive; rw [show (envX "PressError.__init__" scope s.heap.objs.size 36 cd []).scope.kind = .function from hk]; rfl
 ·unfold swapsWith; rfl
theorem raise_made {C e t1 dx : Addr} {x : Sem Value} {Q : Flow -> Shared -> Prop} {M : Model} (hh : A.handled = none)
  (h : wpAny M A x (fun v s₁ => ∃ e t1 dx, v = .ref e /\ ExcCls s₁.heap C /\ s₁.heap.get? e = some { excObj C t1 with dict:=some dx } /\ Er (.ref e) s₁) Er s) :
  wpAny M A (raiseStmt env (some x) none) Q Er s:=by
 unfold raiseStmt
 refine wpAny_bind (wpAny_mono h (fun v s₁ h₁ => ?_) fun _ _ x => x)
 refine yN fun hgl => ?_
 obtain ⟨e, t1, dx, rfl, ⟨nm, q, N, bs, hdct, sn, sub, ab, col, dd, k0, k1, k2, k3, k5, hC⟩, he, hE⟩:=h₁
 refine hgl ?_; clear hgl
 have hcB : (Value.ref C :: veTail).contains (.type "BaseException") = true:=by simp
 obtain ⟨hp, g, d, tk, os⟩:=s₁
 repeat (first | with_reducible refine wpAny_loadPart_at he ?_ | with_reducible refine wpAny_loadPart_at hC ?_ | (with_reducible refine wpAny_isSubtype_exc hC ?_; rw [hcB]) | wp_step)
 exact wpAny_raiseNew_none hh hE
theorem ss_raise (hX : X.Ok) (hF : F.Ok) (hn : 1 <= n) (J : InitK X.K) {C : Addr} (Y : ExcK X.K C) {nm : Str} {msg : Str} {k : Nat} {np p cpos pos : Pos} (hg : GnK X F nm (.ref C)) :
  SS X n F (.Raise (some (.Call (.Name nm np) [.Constant (.str msg) k p] [] cpos)) none pos) (sRaise C):=fun A L cl O w σ s Q Er hA hS hP => by
 have hh : A.handled = none:=hA.hd.resolve_right (by omega)
 show wpAny (model X.prog X.w) A (exec _ (F.env L cl)) Q Er s
 rw [arm_exec_Raise]
 refine wpAny_bind (wpAny_standAt ?_)
 show wpAny _ A (raiseStmt (F.env L cl) (some (do let v <- eval (.Call (.Name nm np) [.Constant (.str msg) k p] [] cpos) (F.env L cl); standAt pos; pure v)) none) Q Er s
 refine raise_made (C:=C) (e:=0) (t1:=0) (dx:=0) hh (wpAny_bind ?_)
 refine PyProof.Rows.Call_Name rfl (gname hX hF hg.top hg.kind hg.dbg hS (args_K (K:=X.K) (.inr ⟨_, _, rfl, rfl⟩) Y.keep (wpAny_items_cons (wpAny_Constant_str (wpAny_items_nil ⟨(hS.tk (s.toks + 1)).In hX, ?_⟩)))))
 refine yN fun hgl => ?_
 obtain ⟨nm', q, N, bs, sn, sub, ab, col, dd, j0, j1, j2, j3, j5, hcls⟩:=Y.cls
 refine hgl ?_; clear hgl
 obtain ⟨name, params, scope, dV, kV, doc, pm, cd, ct, an, od, osl, p1, p2, p3, p4, p5, p6, p7, p8, p9, p10, pl, hlk, _⟩:=J.ex
 have KS:=hS.In hX
 refine exc_call PySem.F.excBase_ValueError (KS _ _ hcls) (looks_findIn KS Y.init) (KS _ _ hlk) rfl ?_ (by show 1 <= sizeLine; decide)
 rw [under_tc]
 have kp : ∀ b o, s.heap.get? b = some o -> (excNewHeap s.heap C [.str msg s.toks]).get? b = some o:=fun b o e => Heap.get?_push_of_some _ (Heap.get?_push_of_some _ e)
 have he : (excNewHeap s.heap C [.str msg s.toks]).get? (s.heap.objs.size + 1) = some (excObj C s.heap.objs.size):=by
  have:=Heap.get?_push_size (h:=s.heap.push { cls:=.type "tuple", data:=.seq [Value.str msg s.toks].toArray }) (o:=excObj C s.heap.objs.size) rfl
  rwa [Heap.size_push] at this
 have off : ∀ b o, s.heap.get? b = some o -> b ≠ s.heap.objs.size + 1:=fun b o e => Nat.ne_of_lt (Nat.lt_succ_of_lt (Heap.lt_size e))
 have hen : X.B.get? (s.heap.objs.size + 1) = none:=by
  cases q : X.B.get? (s.heap.objs.size + 1) with
  | none => rfl
  | some o => exact absurd rfl (off _ _ (hS.fr.keep _ _ q))
 refine init36 hX J (s:=⟨excNewHeap s.heap C [.str msg s.toks], _, _, _, _⟩) Y ?_ ?_ (fun b o e => kp _ _ (hS.fr.keep b o e)) hen he fun h' t' hk' he' => ⟨rfl, wpAny_bind (wpAny_standAt (wpAny_pure ?_))⟩
 ·have:=hA.depth
  show A.depth + 1 < 1000
  omega
 ·have h1:=hS.fr.above
  refine yN fun hgl => ?_
  obtain ⟨oL, _, _, hL, _⟩:=hS.fr.ns
  refine hgl ?_; clear hgl
  have h2 : (L : Nat) < s.heap.objs.size:=Heap.lt_size hL
  show X.B.objs.size <= (excNewHeap s.heap C [.str msg s.toks]).objs.size
  rw [Heap.size_push, Heap.size_push]
  exact yL h1 (yL (Nat.le_of_lt h2) (yL (Nat.le_succ _) (Nat.le_succ _)))
 ·obtain ⟨t1, dx, he'⟩:=he'
  have kk : ∀ b o, s.heap.get? b = some o -> h'.get? b = some o:=fun b o e => hk' b o (off b o e) (kp b o e)
  refine ⟨_, t1, dx, rfl, ⟨nm', q, N, bs, true, sn, sub, ab, col, dd, j0, j1, j2, j3, j5, kk _ _ (KS _ _ hcls)⟩, he', ?_⟩
  have S':=hS.keepsH t' kk
  refine hP _ w _ ⟨S', _, _, he', rfl, rfl, by simp, hen, fun q => ?_, .inl rfl⟩ .refl
  obtain ⟨p, hp, e⟩:=List.mem_map.mp q
  exact off _ _ (hS.nw p hp).1 e
end
section
variable {X : Cx} {n : Nat} {F : FnC} {L : Addr} {cl : List (Str × Addr)} {O : Outer} {w : Wd} {σ : AS} {s : Shared} {A : Around} {env : Env} {Er : Value -> Shared -> Prop}
theorem exc_match {M : Model} {h : Heap} {g : Array GenState} {d : Drawn} {t : Nat} {os : OsState} {C D e : Addr} {oe : Obj} {Q : Bool -> Shared -> Prop} (hC : ExcCls h C) (hD : ExcCls h D) (he : h.get? e = some oe) (hcls : oe.cls = .ref C)
  (hq : Q (decide (C = D) || decide (D = 39)) ⟨h, g, d, t, os⟩) : wpAny M A (excMatches (.ref e) (.ref D)) Q Er ⟨h, g, d, t, os⟩:=by
 obtain ⟨nm, q, N, bs, hdct, sn, sub, ab, col, dd, k0, k1, k2, k3, k5, hC⟩:=hC
 obtain ⟨nm', q', N', bs', hdct', sn', sub', ab', col', dd', j0, j1, j2, j3, j5, hD⟩:=hD
 have hcB : (Value.ref D :: veTail).contains (.type "BaseException") = true:=by simp
 have hcD : (Value.ref C :: veTail).contains (.ref D) = (decide (C = D) || decide (D = 39)):=by
  simp only [List.contains_cons, List.contains_nil]
  have e1 : (Value.ref D == Value.ref C) = decide (C = D):=by
   by_cases z : C = D
   ·subst z; simp
   ·rw [decide_eq_false z]; simp; exact fun q => z q.symm
  have e2 : (Value.ref D == Value.ref 39) = decide (D = 39):=by
   by_cases z : D = 39
   ·subst z; simp
   ·rw [decide_eq_false z]; simp; exact z
  rw [e1, e2]
  have e3 : ∀ T : String, (Value.ref D == Value.type T) = false:=fun T => rfl
  simp [e3]
 have f:=tc_notTuple
 unfold excMatches
 cases hb : (decide (C = D) || decide (D = 39)) <;> rw [hb] at hq hcD <;>
 (repeat (first | (with_reducible refine wpAny_loadPart_at he ?_; rw [hcls]) | with_reducible refine wpAny_loadPart_at hD ?_ | (with_reducible refine wpAny_isSubtype_exc hD ?_; rw [hcB]) | (with_reducible refine wpAny_isSubtype_exc hC ?_; rw [hcD]) | wp_step)) <;>
 exact hq
inductive HsR (X : Cx) (F : FnC) : List ExceptHandler -> List (Nat × List S) -> Prop
 | nil : HsR X F [] []
 | cons {nm : Str} {D : Addr} {np p : Pos} {b : Stmt} {suite : List Stmt} {cb : List S} {hs : List ExceptHandler} {rs : List (Nat × List S)} : GnK X F nm (.ref D) -> ExcK X.K D -> D ≠ 39 -> SSs X 0 F (b :: suite) (sSeq cb) -> HsR X F hs rs ->
   HsR X F (.ExceptHandler (some (.Name nm np)) none (b :: suite) p :: hs) ((D, cb) :: rs)
theorem ExcK.at {K : Frag} {C : Addr} {h : Heap} (Y : ExcK K C) (X : K.In h) : ExcCls h C:=by
 obtain ⟨nm, q, N, bs, sn, sub, ab, col, dd, j0, j1, j2, j3, j5, hcls⟩:=Y.cls
 exact ⟨nm, q, N, bs, true, sn, sub, ab, col, dd, j0, j1, j2, j3, j5, X _ _ hcls⟩
theorem own_err' (hF : F.Ok) {A' : Around} (hfr : A'.frames = some (F.env L cl :: O.map (·.1))) {C e : Addr} (hx : Fly X F L cl O w σ C e s)
  (h : ∀ w' s', Fly X F L cl O w' σ C e s' -> Ext w w' σ.nxt σ.nxt -> Er (.ref e) s') : notedBy (model X.prog X.w) A' (F.env L cl) (cameBackBy (model X.prog X.w) A (F.env L cl) Er) (.ref e) s:=by
 show wpAny _ A' (noteFrame (.ref e) (F.env L cl)) (fun _ s'' => cameBackBy (model X.prog X.w) A (F.env L cl) Er (.ref e) s'') _ s
 refine note_ok hF hfr hx fun w' s' S' x E => ?_
 unfold cameBackBy
 have x':=x
 obtain ⟨oe, vs, T, oT, ts, h1, h2, h3, h4, r⟩:=x'
 refine wpAny_bind (wpAny_field h1 h3 h4 ?_)
 rw [if_neg (by simp)]
 exact flight_ok (f:=some L) S' x fun s2 S2 x2 => h w' s2 ⟨S2, x2.at _ (.inr rfl)⟩ E
theorem handle_ok (hX : X.Ok) (hF : F.Ok) (hA : Ar A n (F.env L cl) O) {C e : Addr} (hC : ExcK X.K C) {hs : List ExceptHandler} {rs : List (Nat × List S)} (h : HsR X F hs rs) : ∀ {s : Shared} {fl : Value} {Q : Flow -> Shared -> Prop}, St X F L cl O w σ s -> ExT X w.P e C fl s.heap ->
  Post X F L cl O (FlR X) w σ.nxt (sTry.go C rs σ) Q Er -> wpAny (model X.prog X.w) A (handleBy (.ref e) (F.env L cl) hs) Q Er s:=by
 induction h with
 | nil => intro s fl Q _ _ hP; exact hP.elim
 | @cons nm D np p b suite cb hs rs hg hD hne hb _ ih =>
  intro s fl Q S x hP
  refine wpAny_handleBy_cons (codeAny_handlers_test (gname hX hF hg.top hg.kind hg.dbg S ?_)) (by intro q; cases q)
  refine yN fun hgl => ?_
  obtain ⟨oe, vs, T, oT, ts, h1, h2, h3⟩:=id x
  refine hgl ?_; clear hgl
  obtain ⟨hp, g, d, tk, os⟩:=s
  refine exc_match (hC.at (S.In hX)) (hD.at (S.In hX)) h1 h2 ?_
  unfold sTry.go at hP
  by_cases z : C = D
  ·rw [if_pos z] at hP
   rw [decide_eq_true z, Bool.true_or]
   dsimp only
   refine codeAny_handlers_suite (flight_ok (f:=none) S x fun s2 S2 x2 => ?_)
   have hA0 : Ar (A.mark (some (.ref e))) 0 (F.env L cl) O:=⟨yL (Nat.le_add_right _ _) hA.depth, yL (Nat.le_add_right _ _) hA.units, hA.frames, hA.guards, .inr rfl⟩
   refine hb _ L cl O w σ s2 _ _ hA0 S2 ?_
   cases er : sSeq cb σ with
   | ok f σ' => rw [er] at hP; exact hP
   | exc C' σ' =>
    rw [er] at hP
    exact fun e' w' s' hx hE => own_err' hF hA0.frames hx fun w3 s3 hx3 hE3 => hP e' w3 s3 hx3 (hE.trans hE3)
   | stuck => rw [er] at hP; exact hP.elim
  ·rw [if_neg z] at hP
   rw [decide_eq_false z, decide_eq_false hne]
   exact ih S x hP
theorem ss_try (hX : X.Ok) (hF : F.Ok) (hK : ∀ C, C = 52 \/ C = 64 \/ C = 76 \/ C = 88 -> ExcK X.K C) {body : List Stmt} {cb : List S} {h₀ : ExceptHandler} {hs : List ExceptHandler} {rs : List (Nat × List S)} {pos : Pos} (hb : SSs X n F body (sSeq cb)) (h : HsR X F (h₀ :: hs) rs) :
  SS X n F (.Try body (h₀ :: hs) [] [] pos) (sTry cb rs):=fun A L cl O w σ s Q Er hA hS hP => by
 refine wpAny_Try_except (hb A L cl O w σ s _ _ hA hS ?_)
 unfold sTry at hP
 cases e : sSeq cb σ with
 | ok f σ' =>
  rw [e] at hP
  intro x w' s' S' E V
  cases V with
  | nx => exact wpAny_execs_nil (hP _ _ _ S' E .nx)
  | rt hv => exact hP _ _ _ S' E (.rt hv)
 | exc C σ' =>
  rw [e] at hP
  intro ex w' s' hx E
  dsimp only at hP
  split at hP
  ·rename_i hC
   refine note_ok hF hA.frames hx fun w2 s2 S2 x2 E2 => flight_ok (f:=none) S2 x2 fun s3 S3 x3 => ?_
   exact handle_ok hX hF hA (hK C hC) h S3 x3 (hP.ext (E.trans E2))
  ·exact hP.elim
 | stuck => rw [e] at hP; exact hP.elim
theorem se_new (hX : X.Ok) (hF : F.Ok) {nm : Str} {C fI : Addr} {p pos : Pos} {es : List Expr} {cs : List (M PV)} {G : List PV -> M PV} (hn : GnK X F nm (.ref C)) (hC : C = 199 \/ C = 283) (hm : makesIn X.K C = true) (hi : findIn X.K (.ref C) "__init__" = some (some (.ref fI))) (hf : isFn X.K (.ref fI) = true)
  (hk : keepIn X.K (.ref C) = true) (hp : PlA es) (h : SIt X (n + 2) F es cs) (hG : ∀ A L cl O w σ s vs xs Q Er, vs.length = cs.length + 1 -> Ar A (n + 1) (F.env L cl) O -> St X F L cl O w σ s -> VRsw X w σ.nxt vs xs -> Post X F L cl O (VRw X) w σ.nxt (G vs σ) Q Er -> codeAny (model X.prog X.w) A (.call (.ref fI) ⟨xs, []⟩) (RC Q Er) s) :
  SE X (n + 2) F (.Call (.Name nm p) es [] pos) (eNew C G cs):=fun A L cl O w σ s Q Er hA hS hP =>
 PyProof.Rows.Call_Name rfl (gname hX hF hn.top hn.kind hn.dbg hS (args_K (K:=X.K) (hp _ _) hk (h pos A L cl O w σ s _ _ hA hS (hP.bind fun vs σ1 xs w1 s1 e1 S1 E1 V1 P1 => ⟨S1.In hX, by
  refine call_cls (K:=X.K) S1.fr hX.K S1.nw hm hi hf fun x dx h' F' N' hlt hdx => ?_
  rw [under_tc]
  have hA' : Ar { A with depth:=A.depth + 1, units:=A.units + 1 } (n + 1) (F.env L cl) O:=by
   refine ⟨?_, ?_, hA.frames, hA.guards, .inl (hA.hd.resolve_right (by omega))⟩
   ·exact dep1 hA.depth
   ·exact uni1 hA.units
  have hxd : x ≠ dx:=Nat.ne_of_gt hdx
  have off : ∀ b, b = x \/ b = dx -> b ∉ keys w1.P:=fun b hb q => by
   obtain ⟨pp, hpp, rfl⟩:=List.mem_map.mp q
   have:=hlt pp hpp
   rcases hb with hb | hb <;> rw [hb] at this
   ·exact Nat.lt_asymm this hdx
   ·exact Nat.lt_irrefl _ this
  have S2 : St X F L cl O { w1 with mo:=[(x, instObj C dx), (dx, dictOf [] 0)] ++ w1.mo, al:=al1 w1.al σ1.nxt x, be:=al1 w1.be σ1.nxt dx } ⟨σ1.loc, upd σ1.mem σ1.nxt (.inst C []), σ1.nxt + 1⟩ { s1 with heap:=h' }:=by
   refine ⟨S1.pu.newObj (by simp [keys, hxd]) (fun b hb => off b (by simpa [keys] using hb)) (by simp [keys]) (by simp [keys]) ⟨.head _, hC, [], 0, .tail _ (.head _), .nil⟩, F', N', S1.gens, S1.os⟩
  have E2 : Ext w1 { w1 with mo:=[(x, instObj C dx), (dx, dictOf [] 0)] ++ w1.mo, al:=al1 w1.al σ1.nxt x, be:=al1 w1.be σ1.nxt dx } σ1.nxt (σ1.nxt + 1):=ext_new
  have P2 : Post X F L cl O (VRw X) { w1 with mo:=[(x, instObj C dx), (dx, dictOf [] 0)] ++ w1.mo, al:=al1 w1.al σ1.nxt x, be:=al1 w1.be σ1.nxt dx } (σ1.nxt + 1) (bnd (G (.ref σ1.nxt :: vs)) (fun r => match r with | .none => ret (.ref σ1.nxt) | _ => fun _ => .stuck "__init__") ⟨σ1.loc, upd σ1.mem σ1.nxt (.inst C []), σ1.nxt + 1⟩) Q Er:=P1.ext E2
  refine codeAny_mono (hG _ L cl O _ _ _ (.ref σ1.nxt :: vs) (.ref x :: xs) (fun v s' => v = .none /\ Q (.ref x) s') Er (congrArg (· + 1) (evs_length e1)) hA' S2 (.cons vr_new (V1.mono E2.toGrow)) (P2.bind fun v σ3 y w3 s3 _ S3 E3 V3 P3 => ?_)) fun r s' hr => ?_
  ·induction V3 using VR_cases with
   | none =>
    refine ⟨rfl, P3 _ _ _ S3 .refl ?_⟩
    exact VR.mono E3.toGrow vr_new
   | _ => exact P3.elim
  ·rcases r with e | (v | _ | _ | _) <;> exact hr⟩))))
end
end Mine
end
section
open PySem PySem.W PySem.Calls
open PyProof.Rows (Fr News IsTup)
set_option maxRecDepth 100000
namespace Mine
noncomputable def un (g : PV -> M PV) : List PV -> M PV
 | [v] => g v
 | _ => fun _ => .stuck "arity"
noncomputable def bi (g : PV -> PV -> M PV) : List PV -> M PV
 | [v, u] => g v u
 | _ => fun _ => .stuck "arity"
theorem eCall_un (g : PV -> M PV) (a : M PV) : eCall (un g) [a] = bnd a g:=by
 funext s
 unfold eCall evs bnd
 cases a s with
 | ok v s' => rfl
 | exc => rfl
 | stuck => rfl
theorem eCall_bi (g : PV -> PV -> M PV) (a b : M PV) : eCall (bi g) [a, b] = bnd a fun x => bnd b fun y => g x y:=by
 funext s
 unfold eCall evs bnd
 cases a s with
 | ok v s' =>
  dsimp only
  unfold evs bnd
  cases b s' with
  | ok u s2 => rfl
  | exc => rfl
  | stuck => rfl
 | exc => rfl
 | stuck => rfl
section
variable {X : Cx} {n : Nat} {F : FnC} {L : Addr} {cl : List (Str × Addr)} {O : Outer} {w : Wd} {σ : AS} {s : Shared} {A : Around} {env : Env} {Er : Value -> Shared -> Prop}
theorem fun_un {f : Value} {g : PV -> M PV} (h : ∀ A L cl O w σ s v x Q Er, Ar A n (F.env L cl) O -> St X F L cl O w σ s -> VRw X w σ.nxt v x -> Post X F L cl O (VRw X) w σ.nxt (g v σ) Q Er -> wpAny (model X.prog X.w) A (call f [x]) Q Er s) : FunS X n F f 1 (un g) :=
 fun A L cl O w σ s vs xs Q Er hl hA hS hv hP => by
  cases hv with
  | nil => cases hl
  | cons h1 h2 =>
   cases h2 with
   | nil => exact h A L cl O w σ s _ _ Q Er hA hS h1 hP
   | cons => cases hl
theorem fun_bi {f : Value} {g : PV -> PV -> M PV} (h : ∀ A L cl O w σ s v x u y Q Er, Ar A n (F.env L cl) O -> St X F L cl O w σ s -> VRw X w σ.nxt v x -> VRw X w σ.nxt u y -> Post X F L cl O (VRw X) w σ.nxt (g v u σ) Q Er -> wpAny (model X.prog X.w) A (call f [x, y]) Q Er s) : FunS X n F f 2 (bi g) :=
 fun A L cl O w σ s vs xs Q Er hl hA hS hv hP => by
  cases hv with
  | nil => cases hl
  | cons h1 h2 =>
   cases h2 with
   | nil => cases hl
   | cons h2 h3 =>
    cases h3 with
    | nil => exact h A L cl O w σ s _ _ _ _ Q Er hA hS h1 h2 hP
    | cons => cases hl
theorem pla1 {e : Expr} (he : ∀ env, starEach [e] env = [(false, eval e env)]) : PlA [e]:=fun pos env => by rw [he]; exact .inr ⟨_, _, rfl, rfl⟩
theorem se_b1 (hX : X.Ok) (hF : F.Ok) {nm : Str} {T : String} {p pos : Pos} {e : Expr} {c : M PV} {g : PV -> M PV} (hn : BnK X F nm (.builtin T)) (h : SE X n F e c) (he : ∀ env, starEach [e] env = [(false, eval e env)]) (hG : FunS X n F (.builtin T) 1 (un g)) :
  SE X n F (.Call (.Name nm p) [e] [] pos) (bnd c g):=eCall_un g c ▸ se_builtin hX hF hn (pla1 he) (zc h zn he) hG
theorem se_t1 (hX : X.Ok) (hF : F.Ok) {nm : Str} {T : String} {p pos : Pos} {e : Expr} {c : M PV} {g : PV -> M PV} (hn : BnK X F nm (.type T)) (h : SE X n F e c) (he : ∀ env, starEach [e] env = [(false, eval e env)]) (hG : FunS X n F (.type T) 1 (un g)) :
  SE X n F (.Call (.Name nm p) [e] [] pos) (bnd c g):=eCall_un g c ▸ se_type hX hF hn (pla1 he) (zc h zn he) hG
theorem se_b2 (hX : X.Ok) (hF : F.Ok) {nm : Str} {T : String} {p pos : Pos} {e e' : Expr} {c c' : M PV} {g : PV -> PV -> M PV} (hn : BnK X F nm (.builtin T)) (h : SE X n F e c) (h' : SE X n F e' c') (he : ∀ env, starEach [e, e'] env = [(false, eval e env), (false, eval e' env)])
  (he' : ∀ env, starEach [e'] env = [(false, eval e' env)]) (hG : FunS X n F (.builtin T) 2 (bi g)) :
  SE X n F (.Call (.Name nm p) [e, e'] [] pos) (bnd c fun x => bnd c' fun y => g x y):=eCall_bi g c c' ▸ se_builtin hX hF hn (fun pos env => by rw [he]; exact .inr ⟨_, _, rfl, rfl⟩) (zc h (zc h' zn he') fun env => by rw [he, he']) hG
theorem fun_min (hn : 1 <= n) : FunS X n F (.builtin "min") 2 (bi minM):=fun_bi fun A L cl O w σ s v x u y Q Er hA hS hv hu hP => by
 have hh : A.handled = none:=hA.hd.resolve_right (by lia)
 induction hv using VR_cases with
 | int a t =>
  induction hu using VR_cases with
  | int b t' => exact PyProof.Rows.min_two_N hh hS.fr hS.nw fun h' tk F' N' => hP _ _ _ (hS.fn tk F' N') .refl (.int _ _)
  | _ => exact hP.elim
 | _ => exact hP.elim
theorem fun_max (hn : 1 <= n) : FunS X n F (.builtin "max") 2 (bi maxM):=fun_bi fun A L cl O w σ s v x u y Q Er hA hS hv hu hP => by
 have hh : A.handled = none:=hA.hd.resolve_right (by lia)
 induction hv using VR_cases with
 | int a t =>
  induction hu using VR_cases with
  | int b t' => exact PyProof.Rows.max_two_N hh hS.fr hS.nw fun h' tk F' N' => hP _ _ _ (hS.fn tk F' N') .refl (.int _ _)
  | _ => exact hP.elim
 | _ => exact hP.elim
noncomputable def intBM : PV -> M PV
 | .bool b => ret (.int (if b then 1 else 0))
 | _ => fun _ => .stuck "int"
theorem fun_int : FunS X n F (.type "int") 1 (un intBM):=fun_un fun A L cl O w σ s v x Q Er hA hS hv hP => by
 induction hv using VR_cases with
 | bool b => exact call_int_bool (hP _ _ _ (hS.tk _) .refl (.int _ _))
 | _ => exact hP.elim
theorem eIntB_eq (t : M Bool) : bnd (eB t) intBM = eIntB t:=by
 funext s
 unfold eB eIntB bnd
 cases t s <;> rfl
theorem fun_sum (hn : 1 <= n) : FunS X n F (.builtin "sum") 1 (un sumM):=fun_un fun A L cl O w σ s v x Q Er hA hS hv hP => by
 have hh : A.handled = none:=hA.hd.resolve_right (by lia)
 have hline : zLs = 1048576:=by decide
 induction hv using VR_cases with
 | byt b t =>
  unfold sumM at hP
  dsimp only at hP
  split at hP
  ·rename_i hz
   refine KBmo.sum_K (ks:=b.map fun c => (c.toNat : Int)) hS.fr hS.nw hh rfl (by rw [yG]; lia) fun h' t' k F' N' _ _ => hP _ _ _ (hS.fn k F' N') .refl (.int _ _)
  ·exact hP.elim
 | ref i hi =>
  unfold sumM at hP
  dsimp only at hP
  split at hP
  ·rename_i vs hm
   split at hP
   ·rename_i ns e
    split at hP
    ·obtain ⟨xs, k, hx, hvs⟩:=hS.listAt hi hm
     exact sumK hh hS.fr hS.nw (hS.isList hx) (hvs.ints e) fun h' tk t' F' N' => hP _ _ _ (hS.fn tk F' N') .refl (.int _ _)
    ·exact hP.elim
   ·exact hP.elim
  ·exact hP.elim
 | _ => exact hP.elim
theorem toBytes_some : ∀ {vs : List PV} {bs : List UInt8}, toBytes vs = some bs -> ∃ ns, allInts vs = some ns /\ (∀ n ∈ ns, 0 <= n /\ n < 256) /\ bs = ns.map fun n => n.toNat.toUInt8
 | [], bs, e => by cases e; exact ⟨[], rfl, (fun _ h => nomatch h), rfl⟩
 | .int i :: r, bs, e => by
  unfold toBytes at e
  split at e
  ·rename_i hi
   obtain ⟨cs, e1, rfl⟩:=Option.map_eq_some_iff.mp e
   obtain ⟨ns, h1, h2, h3⟩:=toBytes_some e1
   refine ⟨i :: ns, by unfold allInts; rw [h1]; rfl, fun n hn => ?_, ?_⟩
   ·rcases List.mem_cons.mp hn with rfl | hn
    ·exact hi
    ·exact h2 n hn
   ·rw [h3]; rfl
  ·cases e
 | .none :: _, _, e => by cases e
 | .bool _ :: _, _, e => by cases e
 | .str _ :: _, _, e => by cases e
 | .byt _ :: _, _, e => by cases e
 | .tup _ :: _, _, e => by cases e
 | .ref _ :: _, _, e => by cases e
 | .ints _ :: _, _, e => by cases e
theorem fun_listOf : FunS X n F (.type "list") 1 (un listOfM):=fun_un fun A L cl O w σ s v x Q Er hA hS hv hP => by
 induction hv using VR_cases with
 | ref i hi =>
  unfold listOfM at hP
  dsimp only at hP
  split at hP
  ·rename_i vs hm
   split at hP
   ·rename_i hz
    obtain ⟨xs, k, hx, hvs⟩:=hS.listAt hi hm
    have hsz : xs.toArray.size <= sizeLine:=by rw [List.size_toArray, <- hvs.length]; exact yL hz lineSz_le
    refine call_list_seq (w.al i) (.inl rfl) (hS.nw _ (mem_mo hx)).1 rfl rfl (fun h' c' hk he => ?_) hsz
    have F' : Fr X.B L h' w.m:=hS.fr.keeps hk
    have N' : News X.B L h' ((s.heap.objs.size, listOf xs.toArray c') :: w.P):=fun p hp => by
     rcases List.mem_cons.mp hp with rfl | hp
     ·refine ⟨he, fun q => ?_, ?_⟩
      ·obtain ⟨oL, _, _, hL, _⟩:=hS.fr.ns
       have:=Heap.lt_size hL
       rw [<- q] at this
       exact Nat.lt_irrefl _ this
      ·cases q : X.B.get? s.heap.objs.size with
       | none => rfl
       | some o => exact absurd (Heap.lt_size (hS.fr.keep _ _ q)) (Nat.lt_irrefl _)
     ·exact ⟨hk _ _ (hS.nw p hp).1, (hS.nw p hp).2⟩
    exact hP _ _ _ (hS.newList (t:=s.toks) hvs hS.size_off F' N') ext_new vr_new
   ·exact hP.elim
  ·exact hP.elim
 | _ => exact hP.elim
theorem dataInts_cons {v : PV} {vs : List PV} {ds : List PyData} (e : dataInts (v :: vs) = some ds) : ∃ i ds', v = .int i /\ dataInts vs = some ds' /\ ds = .int i :: ds':=by
 cases v with
 | int i => obtain ⟨ms, hm, e⟩:=Option.map_eq_some_iff.mp e; exact ⟨i, ms, rfl, hm, e.symm⟩
 | _ => cases e
theorem reads_ints {h : Heap} {vs : List PV} {xs : List Value} {ds : List PyData} {B : Heap} {fz : Led} {al : Nat -> Addr} {n : Nat} (hv : VRs B fz al n vs xs) (e : dataInts vs = some ds) : ∃ as, ReadsAll h xs ds as :=
 VRs_ind (motive:=fun vs xs => ∀ ds, dataInts vs = some ds -> ∃ as, ReadsAll h xs ds as) (fun _ e => Option.some.inj e ▸ ⟨_, .nil⟩) (fun h1 _ ih ds e => by
  obtain ⟨i, ds', e1, e2, rfl⟩:=dataInts_cons e
  obtain ⟨t, rfl⟩:=h1.isInt e1
  obtain ⟨as, r⟩:=ih _ e2
  exact ⟨_, .cons (.int i t) r⟩) hv ds e
theorem St.reads1 (S : St X F L cl O w σ s) {v : PV} {x : Value} {d : PyData} (hv : VRw X w σ.nxt v x) (e : dataOf1 σ.mem v = some d) : ∃ as, Reads s.heap x d as:=by
 induction hv using VR_cases with
 | none => cases e; exact ⟨_, .none⟩
 | bool b => cases e; exact ⟨_, .bool b⟩
 | int i t => cases e; exact ⟨_, .int i t⟩
 | str y t => cases e; exact ⟨_, .str y t⟩
 | ref i hi =>
  unfold dataOf1 at e
  dsimp only at e
  split at e
  ·rename_i vs hm
   obtain ⟨ds, e1, rfl⟩:=Option.map_eq_some_iff.mp e
   obtain ⟨xs, k, hx, hvs⟩:=S.listAt hi hm
   obtain ⟨as, r⟩:=reads_ints (h:=s.heap) hvs e1
   exact ⟨_, .list (S.nw _ (mem_mo hx)).1 rfl rfl r⟩
  ·cases e
 | _ => cases e
inductive DL (mem : Nat -> AO) (v : PV) (r : List PV) (ds : List PyData) : Prop where
 | one (d : PyData) (z : List PyData) (h : dataOf1 mem v = some d) (hz : dataOfL mem r = some z) (e : ds = d :: z) : DL mem v r ds
 | two (a b : PV) (x y : PyData) (z : List PyData) (e : v = .tup [a, b]) (hx : dataOf1 mem a = some x) (hy : dataOf1 mem b = some y) (hz : dataOfL mem r = some z) (ed : ds = .tuple [x, y] :: z) : DL mem v r ds
theorem opt2 {mem : Nat -> AO} {v : PV} {o : Option PyData} {r : List PV} {p : Option (List PyData)} {ds : List PyData} (ho : o = dataOf1 mem v) (hp : p = dataOfL mem r) (e : (match (generalizing:=false) o, p with | some x, some z => some (x :: z) | _, _ => none) = some ds) : DL mem v r ds:=by
 cases o with
 | none => cases e
 | some x => cases p with
  | none => cases e
  | some z => exact .one x z ho.symm hp.symm (Option.some.inj e).symm
theorem opt3 {mem : Nat -> AO} {a b : PV} {o q : Option PyData} {r : List PV} {p : Option (List PyData)} {ds : List PyData} (ho : o = dataOf1 mem a) (hq : q = dataOf1 mem b) (hp : p = dataOfL mem r) (e : (match (generalizing:=false) o, q, p with | some x, some y, some z => some (.tuple [x, y] :: z) | _, _, _ => none) = some ds) : DL mem (.tup [a, b]) r ds:=by
 cases o with
 | none => cases e
 | some x => cases q with
  | none => cases e
  | some y => cases p with
   | none => cases e
   | some z => exact .two a b x y z rfl ho.symm hq.symm hp.symm (Option.some.inj e).symm
theorem dataOfL_cons {mem : Nat -> AO} {v : PV} {r : List PV} {ds : List PyData} (e : dataOfL mem (v :: r) = some ds) : DL mem v r ds:=by
 unfold dataOfL at e
 cases v with
 | tup ws =>
  cases ws with
  | nil =>
   dsimp only at e
   generalize hp : dataOfL mem r = p at e
   exact opt2 rfl hp.symm e
  | cons a ws => cases ws with
   | nil =>
    dsimp only at e
    generalize hp : dataOfL mem r = p at e
    exact opt2 rfl hp.symm e
   | cons b ws => cases ws with
    | nil =>
     dsimp only at e
     generalize hp : dataOfL mem r = p at e
     generalize hx : dataOf1 mem a = x at e
     generalize hy : dataOf1 mem b = y at e
     exact opt3 hx.symm hy.symm hp.symm e
    | cons c ws =>
     dsimp only at e
     generalize hp : dataOfL mem r = p at e
     exact opt2 rfl hp.symm e
 | _ =>
  dsimp only at e
  generalize hp : dataOfL mem r = p at e
  exact opt2 rfl hp.symm e
theorem St.readsL (S : St X F L cl O w σ s) {vs : List PV} {xs : List Value} {ds : List PyData} (hv : VRsw X w σ.nxt vs xs) (e : dataOfL σ.mem vs = some ds) : ∃ as, ReadsAll s.heap xs ds as :=
 VRs_ind (motive:=fun vs xs => ∀ ds, dataOfL σ.mem vs = some ds -> ∃ as, ReadsAll s.heap xs ds as) (fun _ e => Option.some.inj e ▸ ⟨_, .nil⟩) (fun {v x r xs} h1 _ ih ds e => by
  cases dataOfL_cons e with
  | one d z ed ez e =>
   obtain ⟨as, r1⟩:=S.reads1 h1 ed
   obtain ⟨bs, r2⟩:=ih _ ez
   exact e ▸ ⟨_, .cons r1 r2⟩
  | two a b x y z e1 ex ey ez e5 =>
   subst e1
   obtain ⟨ys, c, rfl, hm, hvs⟩:=VR.inv h1
   obtain ⟨y1, _, rfl, g1, g4⟩:=hvs.uncons
   obtain ⟨y2, _, rfl, g2, g3⟩:=g4.uncons
   obtain rfl:=g3.unnil
   obtain ⟨as1, r1⟩:=S.reads1 g1 ex
   obtain ⟨as2, r2⟩:=S.reads1 g2 ey
   obtain ⟨bs, r3⟩:=ih _ ez
   obtain ⟨o, ho, hc, k, hd⟩:=S.tupAt hm
   exact e5 ▸ ⟨_, .cons (.tuple ho hc hd (.cons r1 (.cons r2 .nil))) r3⟩) hv ds e
theorem fun_repr : FunS X n F (.builtin "repr") 1 (un reprM):=fun_un fun A L cl O w σ s v x Q Er hA hS hv hP => by
 induction hv using VR_cases with
 | tup vs xs a hm hvs =>
  unfold reprM at hP
  dsimp only at hP
  split at hP
  ·rename_i ds e
   split at hP
   ·rename_i hz
    obtain ⟨as, r⟩:=hS.readsL hvs e
    obtain ⟨o, ho, hc, k, hd⟩:=hS.tupAt hm
    have hu:=hA.units
    refine repr_of_reads' (.tuple ho hc hd r) hz.2.1 (fun q => by rw [hz.2.2.1] at q; cases q) hA.guards (by show A.units + ((PyData.tuple ds).depth + 1) < 9900; lia) (fun _ _ e => e) (fun h' u tk hk => hP _ _ _ (hS.keepsH tk hk) .refl (.str _ _)) (yL hz.1 lineSz_le)
   ·exact hP.elim
  ·exact hP.elim
 | _ => exact hP.elim
end
end Mine
end
section
open PySem PySem.W PyProof.Rows PySem.Calls
set_option maxRecDepth 10000
namespace Mine
noncomputable def nodec : Code -> Bool
 | .builtin id _ => !(Builtin.Bytes.decodersThatHold.contains id)
 | _ => true
noncomputable def NdL (l : List (Code × Pos)) : Prop:=∀ x ∈ l, nodec x.1 = true
noncomputable def wpJ {α : Type} (M : Model) (A : Around) (t : Sem α) (Q : α -> Shared -> Prop) (E : Value -> Shared -> Prop) (s : Shared) : Prop :=
 ∀ Γ p, Γ.In A -> nodec Γ.code = true -> NdL Γ.below -> Sem.wp M Γ t (fun a _ s' => Q a s') (fun e _ s' => E e s') p s
noncomputable def codeJ (M : Model) (A : Around) (c : Code) (R : Result -> Shared -> Prop) (s : Shared) : Prop :=
 ∀ Γ p, Γ.code = c -> Γ.Below A -> NdL Γ.below -> wpCode M Γ R p s
section
variable {α β : Type} {M : Model} {A : Around} {E : Value -> Shared -> Prop} {s : Shared}
theorem toJ {t : Sem α} {Q : α -> Shared -> Prop} (h : wpAny M A t Q E s) : wpJ M A t Q E s:=fun Γ p hΓ _ _ => h Γ p hΓ
theorem codeToJ {c : Code} {R : Result -> Shared -> Prop} (h : codeAny M A c R s) : codeJ M A c R s:=fun Γ p hc hΓ _ => h Γ p hc hΓ
theorem wpJ_mono {t : Sem α} {Q Q' : α -> Shared -> Prop} {E' : Value -> Shared -> Prop} (h : wpJ M A t Q E s) (hQ : ∀ a s, Q a s -> Q' a s) (hE : ∀ e s, E e s -> E' e s) : wpJ M A t Q' E' s :=
 fun Γ p hΓ h1 h2 => Sem.wp_mono M Γ t (fun a _ s => hQ a s) (fun e _ s => hE e s) p s (h Γ p hΓ h1 h2)
theorem wpJ_pure {a : α} {Q : α -> Shared -> Prop} (h : Q a s) : wpJ M A (pure a) Q E s:=toJ (wpAny_pure h)
theorem wpJ_bind {m : Sem α} {f : α -> Sem β} {Q : β -> Shared -> Prop} (h : wpJ M A m (fun a s' => wpJ M A (f a) Q E s') E s) : wpJ M A (m >>= f) Q E s:=fun Γ p hΓ h1 h2 => by
 rw [Sem.wp_bind']
 exact Sem.wp_mono M Γ m (fun a p' s' h' => h' Γ p' hΓ h1 h2) (fun _ _ _ h' => h') p s (h Γ p hΓ h1 h2)
theorem wpJ_seq {m : Sem α} {f : α -> Sem β} {Q : β -> Shared -> Prop} (h : wpAny M A m (fun a s' => wpJ M A (f a) Q E s') E s) : wpJ M A (m >>= f) Q E s:=wpJ_bind (toJ h)
theorem wpJ_onRaise {m : Sem α} {k : Value -> Sem Unit} {Q : α -> Shared -> Prop} (h : wpJ M A m Q (fun e s' => wpJ M A (k e) (fun _ s'' => E e s'') E s') s) : wpJ M A (m.onRaise k) Q E s:=fun Γ p hΓ h1 h2 => by
 rw [Sem.wp_onRaise]
 exact Sem.wp_mono M Γ m (fun _ _ _ h' => h') (fun e p' s' h' => h' Γ p' hΓ h1 h2) p s (h Γ p hΓ h1 h2)
theorem wpJ_attempt {m : Sem α} {Q : Except Value α -> Shared -> Prop} (h : wpJ M A m (fun a => Q (.ok a)) (fun e => Q (.error e)) s) : wpJ M A m.attempt Q E s:=fun Γ p hΓ h1 h2 => by rw [Sem.wp_attempt]; exact h Γ p hΓ h1 h2
theorem wpJ_holding {vs : List Value} {m : Sem α} {Q : α -> Shared -> Prop} (h : wpJ M A m Q E s) : wpJ M A (holding vs m) Q E s:=fun Γ p hΓ h1 h2 => by rw [Sem.wp_holding]; exact h Γ p hΓ h1 h2
theorem wpJ_keep {vs : List Value} {m : Sem α} {Q : α -> Shared -> Prop} (h : wpJ M A m Q E s) : wpJ M A (m.keep vs) Q E s:=fun Γ p hΓ h1 h2 => by rw [Sem.wp_keep]; exact h Γ p hΓ h1 h2
theorem wpJ_standAt {pos : Pos} {f : Unit -> Sem β} {Q : β -> Shared -> Prop} (h : wpJ M A (f ()) Q E s) : wpJ M A (standAt pos >>= f) Q E s:=wpJ_seq (wpAny_standAt h)
theorem wpJ_eq {t t' : Sem α} {Q : α -> Shared -> Prop} (e : t = t') (h : wpJ M A t' Q E s) : wpJ M A t Q E s:=e ▸ h
theorem codeJ_mono {c : Code} {R R' : Result -> Shared -> Prop} (h : codeJ M A c R s) (hR : ∀ r s, R r s -> R' r s) : codeJ M A c R' s:=fun Γ p hc hΓ hN => wpCode_mono hR (h Γ p hc hΓ hN)
theorem ndl_enter {Γ : Ctx} {p : Pos} (h1 : nodec Γ.code = true) (h2 : NdL Γ.below) : NdL ((Γ.code, p) :: Γ.below):=fun x hx => by
 rcases List.mem_cons.mp hx with rfl | hx
 ·exact h1
 ·exact h2 x hx
theorem wpJ_runValue {c : Code} {Q : Value -> Shared -> Prop} (hc : codeJ M A c (fun r s' => match r with | .ok (.ret v) => Q v s' | .ok _ => False | .error e => E e s') s) : wpJ M A (runValue c) Q E s:=fun Γ p hΓ h1 h2 => by
 rw [Sem.wp_runValue]; exact hc _ p rfl (hΓ.enter c none p (by intro x; cases x)) (ndl_enter h1 h2)
theorem wpJ_call {f : Value} {pos : List Value} {kw : List (Str × Value)} {Q : Value -> Shared -> Prop} (hc : codeJ M A (.call f ⟨pos, kw⟩) (fun r s' => match r with | .ok (.ret v) => Q v s' | .ok _ => False | .error e => E e s') s) : wpJ M A (call f pos kw) Q E s:=wpJ_runValue hc
theorem codeJ_of_tree {c : Code} {R : Result -> Shared -> Prop} (hn : nodec c = true)
  (h : wpJ M (A.under c) (M.den c) (fun fin s' => match fin with | .done f => R (.ok f) s' | .again c' => c'.quiet = true /\ codeJ M A c' R s') (fun e s' => R (.error e) s') s) : codeJ M A c R s:=fun Γ p hc hΓ hN => by
 rw [wpCode_iff_wp, hc]
 refine Sem.wp_mono M Γ _ (fun fin p' s' h' => ?_) (fun _ _ _ h' => h') p s (h Γ p (hc ▸ hΓ.in) (hc ▸ hn) hN)
 cases fin with
 | done f => exact h'
 | again c' => exact ⟨h'.1, h'.2 (Γ.goto c') p' rfl (hΓ.goto c') hN⟩
end
theorem wp_of_wpJ_done {M : Model} {A : Around} {Γ : Ctx} {t : Sem Fin} {R : Result -> Shared -> Prop} {s : Shared} (hin : Γ.In A) (h1 : nodec Γ.code = true) (h2 : NdL Γ.below)
  (h : wpJ M A t (fun fin s' => ∃ f, fin = .done f /\ R (.ok f) s') (fun e s' => R (.error e) s') s) (p : Pos) :
  Sem.wp M Γ t (Sem.finPost M Γ R) (fun e _ s' => R (.error e) s') p s:=by
 refine Sem.wp_mono M Γ t (fun fin p' s' h' => ?_) (fun _ _ _ h' => h') p s (h Γ p hin h1 h2)
 obtain ⟨f, rfl, hf⟩:=h'
 exact hf
theorem thread_ends_bothJ {prog : Program} {w : World} {t : Sem Fin} {s : Shared} {R : Result -> Shared -> Prop} (hreg : s.asleep)
  (h : wpJ (model prog w) callerA t (fun fin s' => ∃ f, fin = .done f /\ (R (.ok f) s' /\ leftWithCleanup s'.gens = false)) (fun e s' => R (.error e) s' /\ leftWithCleanup s'.gens = false) s) :
  ∃ n r s' s'', runN (denote table) prog w n s ⟨t, .builtin "claim.caller" {}, default, []⟩ = .halted (outcomeOf r) s' /\
   schedN (denote table) prog w n (.single s ⟨t, .builtin "claim.caller" {}, default, []⟩) = .halted (outcomeOf r) s' /\ s'.forget = s''.forget /\ R r s'':=by
 refine yN fun hgl => ?_
 obtain ⟨n, r, s₁, s₂, hs, hn, hfo, hR⟩:=wp_halts_full (M:=model prog w) (R:=R) hreg (wp_of_wpJ_done (R:=fun r s' => R r s' /\ leftWithCleanup s'.gens = false) caller_in (by decide) (fun _ h => nomatch h) h default)
 refine hgl ?_; clear hgl
 exact ⟨n, r, s₂, s₁, hn, hs, hfo, hR⟩
theorem callFrom_of_specJ {c : ClaimW} {tree : List Value -> Sem Fin} {w : World} {s : Shared} {free : Addr -> Prop} {gens : Prop} {kept : Heap -> Prop} (hz : s.asleep) (hgens : s.gens = #[])
  (hspec : ∀ args, c.pre args = true -> WData.layableAll args = true ->
   ∀ ord : List DictEntry -> List DictEntry, (∀ l, (ord l).Perm l) ->
   ∃ vs s₁, layAllW c.records (classAt s.heap) w.params ord args s = some (vs, s₁) /\
    wpJ (model c.prog w) callerA (tree vs) (fun fin s' => ∃ f, fin = .done f /\ (c.Ends s args vs s₁ (.ok f) s' /\ s'.os = s.os /\ AllBare s'.gens /\ kept s'.heap))
     (fun e s' => c.Ends s args vs s₁ (.error e) s' /\ s'.os = s.os /\ AllBare s'.gens /\ kept s'.heap) s₁) :
  c.CallFrom (fun vs => ⟨tree vs, .builtin "claim.caller" {}, default, []⟩) w free gens kept s:=by
 intro args hpre hlay ord hord
 refine yN fun hn => ?_
 obtain ⟨vs, s₁, hlaid, hcode⟩:=hspec args hpre hlay ord hord
 have hal:=layAllW_rest _ _ _ hlaid
 obtain ⟨k, r, s', s'', hrun, hsched, hfo, hcase, hos, hkp⟩:=thread_ends_bothJ (prog:=c.prog) (w:=w) (t:=tree vs) (s:=s₁)
  (R:=fun r s' => c.Ends s args vs s₁ r s' /\ s'.os = s.os /\ kept s'.heap)
  (Shared.asleep_of_life hal.2.2.2 hz)
  (wpJ_mono hcode (by
   intro fin s' hz2
   refine yN fun hgl => ?_
   obtain ⟨f, e, h1, h2, h3, h4⟩:=hz2
   refine hgl ?_; clear hgl
   exact ⟨f, e, ⟨h1, h2, h4⟩, leftWithCleanup_false_of_bare h3⟩) (by
   rintro e s' ⟨h1, h2, h3, h4⟩
   exact ⟨⟨h1, h2, h4⟩, leftWithCleanup_false_of_bare h3⟩))
 obtain ⟨eh, _, _, eo, _⟩:=Shared.forget_eq hfo
 have hcase:=hcase.congr eh
 have hkp : kept s'.heap:=by first | exact eh ▸ hkp | (rw [eh] at hkp; exact hkp) | (rw [<- eh] at hkp; exact hkp)
 rw [<- eo] at hos
 have hlife : s'.heap.life = s.heap.life:=(runN_life _ _ _ hrun).trans hal.2.2.2
 refine hn ⟨vs, s₁, hlaid, k, _, s', hsched, ?_, (fun _ i x hx => by rw [hgens] at hx; simp at hx), hkp, by rw [hlife], Shared.rest_eq hos⟩
 rcases hcase with ⟨v, rfl, d1, d2, d3, d4, d5⟩ | ⟨e, ob, cls, rfl, d1, d2, d3, d4, d5⟩
 ·exact .inl ⟨v, rfl, d1, d2, d3, fun b o y _ => d4 b o y, d5⟩
 ·exact .inr ⟨e, ob, cls, rfl, d1, d2, d3, d4, fun b o y _ => d5 b o y⟩
noncomputable abbrev WalkJ (q : Program) (loose : List Str) (XP : (Str -> Option Value) -> Heap -> Prop) (YP : World -> Heap -> Prop) (r : RowW) (d : DefRec) (kwd : List (Str × Expr)) : Prop :=
 ∀ (w : World) (s₀ s₁ : Shared) (mg mb : Str -> Option Value), Ground q loose r.records XP w s₀ mg mb s₁.heap -> YP w s₁.heap -> ∀ (a : Addr) (o : Obj) (pm cd doc dV kV : Value), s₁.heap.get? a = some o ->
  o.data = .func { docDef d.name d.params d.body d.scope pm cd doc with defaults:=dV, kwdefaults:=kV } -> s₁.heap.CodeRec cd d.name -> Dflts mg s₁.heap d.params kwd dV kV -> mg d.name = some (.ref a) -> s₁.gens = #[] ->
  ∀ (args : List WData) (vals : List Value) (as : List Addr), r.claim.pre args = true -> WData.layableAll args = true -> ReadsAllW r.records (classAt s₀.heap) s₁.heap vals args as -> WellAll w.params s₁.heap vals args -> (∀ a ∈ as, (a == sysModules) = false) ->
   wpJ (model r.prog w) callerA (PySem.call (.ref a) vals) (fun v s' => GoodWG r.claim (classAt s₀.heap) (ExcName.means s₀.heap) args s₁ (.ok (.ret v)) s')
    (fun e s' => GoodWG r.claim (classAt s₀.heap) (ExcName.means s₀.heap) args s₁ (.error e) s') s₁
theorem holdsJ {r : OpenRow} {q : Program} {loose : List Str} {Xt : Shared -> Bool} {XP : (Str -> Option Value) -> Heap -> Prop} {α : Type} {Yf : Shared -> α} {Ya : World -> α} {YP : World -> Heap -> Prop} {d : DefRec} {kwd : List (Str × Expr)} {N : Nat}
  (left : LeftO r.prog q loose Xt Yf Ya N) (hY : ∀ w s, Yf s = Ya w -> YP w s.heap) (hYk : ∀ w h h', YP w h -> (∀ b o, h.get? b = some o -> h'.get? b = some o) -> YP w h')
  (hX : ∀ s, Xt s = true -> XP (s.heap.nsMap mainGlobals) s.heap) (hXk : ∀ mg h h', XP mg h -> (∀ b o, h.get? b = some o -> h'.get? b = some o) -> XP mg h')
  (hdef : defOf q r.name = some (d, kwd)) (hp : r.prog.theDef r.name = some (d.params, d.body, d.scope)) (hk : kwWritten? d.params.kwonlyargs d.params.kw_defaults = some kwd) (hRf : ∀ s, Xt s = true -> RecFacts r.records s.heap) (hwr : (!r.writes || r.records.isEmpty) = true)
  (k1 : r.wellSaid = true) (ok : (chainsOk q && opensWell r.prog && (frees r.toRowW && r.within.isEmpty)) = true) (hb : r.prog.bare) (hw : r.toRowW.promised)
  (call : WalkJ q loose XP YP r.toRowW d kwd) : r.Holds:=by
 obtain ⟨ok, k5⟩:=Bool.and_eq_true_iff.mp ok
 obtain ⟨hch, o1⟩:=Bool.and_eq_true_iff.mp ok
 obtain ⟨k5, k6⟩:=Bool.and_eq_true_iff.mp k5
 obtain ⟨hsame, hu, ha, hap, hm⟩:=frees_parts k5
 refine ⟨k1, hw, ⟨hb, o1, by show r.toRowW.makers.map _ = []; rw [hm]; rfl⟩, hw.witness, fun w => ⟨(left.behind hX hch w).1, fun s' hs' => ?_⟩⟩
 refine yN fun hn => ?_
 obtain ⟨s₀, hf, hg0, s, hT, hz, hgens, hg, G00, y⟩:=(left.behind (XP:=fun mg h => XP mg h /\ RecFacts r.records h) (fun s hs => ⟨hX s hs, hRf s hs⟩) hch w).2 s' hs'
 have G0 : Ground q loose [] XP w s (s.heap.nsMap mainGlobals) (s.heap.nsMap builtinsNs) s.heap:=⟨G00.T, G00.B, G00.D, G00.TE, G00.TD, G00.W, G00.X.1, G00.cls, G00.has, G00.apart, G00.once, G00.K⟩
 have RF:=G00.X.2
 have hT':=hT
 have hpin : ∀ n ∈ [r.name], isTheDefsW r.prog s.heap n:=fun n hn => by
  obtain rfl : n = r.name:=by simpa using hn
  exact pinned_of_view hg G0 hdef hp hk
 refine hn ⟨s₀, hf, hg0, s, hT, fun n hn => hpin n (by split at hn <;> simp_all), RF.1, RF.2.1, ?_⟩
 have hgens : s.gens = #[]:=Array.eq_empty_of_size_eq_zero (beq_iff_eq.mp hgens)
 have G : Ground q loose r.records XP w s _ _ s.heap:=RF.ground G0
 refine callFrom_of_specJ (c:=r.toRowW.claim) hz hgens fun args hpre hlay ord hord => ?_
 refine yN fun hgl => ?_
 obtain ⟨⟨vs, s₁⟩, hlaid⟩:=Option.isSome_iff_exists.mp (layAllW_isSome (P:=w.params) (ord:=ord) G.has args r.toRowW.args s (pre_splitW hpre).1)
 refine hgl ?_; clear hgl
 have keeps:=layAllW_keeps _ _ _ hlaid
 have hal:=layAllW_rest _ _ _ hlaid
 refine yN fun hgl => ?_
 obtain ⟨as, hrd, hin, hold⟩:=reads_layAllW hord _ _ _ hlaid hlay s₁.heap (fun _ _ e => e)
 refine hgl ?_; clear hgl
 have L : Laid r.records w s s₁ args vs as:=⟨⟨ord, hord, hlaid⟩, hrd, hin, hold, keeps, hal.1.trans hgens, hal.2.2.1⟩
 have G₁:=G.keeps hXk keeps
 have hi:=ident_freeW hu ha hap
 have hwi : r.toRowW.claim.within = []:=List.isEmpty_iff.mp k6
 refine yN fun hgl => ?_
 obtain ⟨a, o, pm, cd, doc, dV, kV, h1, h2, h3, h4, h5⟩:=G₁.fn hdef
 refine hgl ?_; clear hgl
 have h:=call w s s₁ _ _ G₁ (hYk _ _ _ (hY w s y) keeps) a o pm cd doc dV kV h2 h3 h4 h5 (defOf_name hdef ▸ h1) L.gens args vs as hpre hlay L.reads L.well (L.low G.low)
 have fin : ∀ {rr : Result} {s' : Shared}, GoodWG r.toRowW.claim (classAt s.heap) (ExcName.means s.heap) args s₁ rr s' -> r.toRowW.claim.Ends s args vs s₁ rr s' /\ s'.os = s.os /\ AllBare s'.gens /\ (r.writes = true -> namesKept r.toRowW.claim.prog r.keeps s.heap s'.heap /\ ∀ x ∈ r.toRowW.claim.records, ∀ a, classAt s.heap x.1 = some a -> recordClass s'.heap a x.1 (x.2.map (·.1)) = true):=fun {rr s'} g => by
  have z:=g.laid (c:=r.toRowW.claim) hsame hwi hi L
  exact ⟨z.1, z.2.1, z.2.2, fun q => ⟨namesKept_of hT' hg _ keeps g.2.1.old, noTable hwr q⟩⟩
 refine ⟨vs, s₁, hlaid, wpJ_seq (wpAny_nsGet G₁.T.g ?_)⟩
 rw [h1]
 exact wpJ_bind (wpJ_mono h (fun v s' g => wpJ_pure ⟨_, rfl, fin g⟩) fun e s' g => fin g)
end Mine
end
section
open PySem PySem.W PySem.Calls
open PyProof.Rows (Fr News)
set_option maxRecDepth 100000
namespace Mine
section
variable {α β : Type} {M : Model} {A : Around} {E : Value -> Shared -> Prop} {s : Shared} {env : Env} {prog : Program} {w : World}
theorem wpJ_execs_cons {st : Stmt} {rest : List Stmt} {Q : Flow -> Shared -> Prop} (h : wpJ M A (exec st env) (fun f s' => match f with | .next => wpJ M A (execs rest env) Q E s' | f => Q f s') E s) : wpJ M A (execs (st :: rest) env) Q E s:=by
 rw [PySem.execs_cons]
 refine wpJ_bind (wpJ_mono h (fun f s' h' => ?_) fun _ _ x => x)
 cases f <;> first | exact h' | exact wpJ_pure h'
theorem wpJ_If {test : Expr} {body orelse : List Stmt} {pos : Pos} {Q : Flow -> Shared -> Prop} (h : wpJ M A (isTrue test env (eval test env)) (fun b s₂ => if b then wpJ M A (execs body env) Q E s₂ else wpJ M A (execs orelse env) Q E s₂) E s) :
  wpJ M A (exec (.If test body orelse pos) env) Q E s:=by
 rw [PySem.exec_If]
 refine wpJ_standAt (wpJ_bind (wpJ_mono h (fun b s' h' => ?_) fun _ _ x => x))
 cases b <;> exact h'
theorem wpJ_Expr {e : Expr} {pos : Pos} {Q : Flow -> Shared -> Prop} (h : wpJ (model prog w) A (eval e env) (fun _ => Q .next) E s) (hi : interactive env = false) (hs : swapsWith e none pos.line env = pure false) :
  wpJ (model prog w) A (exec (.Expr e pos) env) Q E s:=by
 rw [PySem.exec_Expr env e pos hi hs]
 exact wpJ_standAt (wpJ_bind (wpJ_mono h (fun v s' h' => toJ (wpAny_dropValue h')) fun _ _ x => x))
theorem wpJ_run {c : Code} {h : Option Value} {Q : Flow -> Shared -> Prop} (hc : codeJ M (A.mark h) c (fun r s' => match r with | .ok f => Q f s' | .error e => E e s') s) (hnb : h ≠ some byPass:=by intro x; cases x) : wpJ M A (run c h) Q E s :=
 fun Γ p hΓ h1 h2 => by rw [Sem.wp_run]; exact hc _ p rfl (hΓ.enter c h p hnb) (ndl_enter h1 h2)
theorem wpJ_runOwn {c : Code} {h : Option Value} {Q : Flow -> Shared -> Prop} (hc : codeJ M (A.mark h) c (fun r s' => match r with | .ok f => Q f s' | .error e => cameBackBy M A env E e s') s) (hnb : h ≠ some byPass:=by intro x; cases x) :
  wpJ M A (runOwn c env h) Q E s:=by
 unfold runOwn
 exact wpJ_onRaise (wpJ_run (codeJ_mono hc fun r s' h' => by cases r with | ok f => exact h' | error e => exact toJ h') hnb)
theorem wpJ_For {target iter : Expr} {body orelse : List Stmt} {pos : Pos} {Q : Flow -> Shared -> Prop}
  (h : wpAny M A (eval iter env) (fun x s₁ => wpAny M A (pyIter x) (fun it s₂ => codeJ M A (.forLoop target it body orelse env) (fun r s' => match r with | .ok f => Q f s' | .error e => cameBackBy M A env E e s') s₂) E s₁) E s)
  (hs : ∀ x, foldedSetIterable iter env x = pure x) : wpJ M A (exec (.For target iter body orelse pos) env) Q E s:=by
 rw [PySem.exec_For]
 exact wpJ_standAt (wpJ_seq (wpAny_mono h (fun x s₁ h₁ => wpJ_seq (wpAny_of_eq (hs x) (wpJ_standAt (wpJ_seq (wpAny_holding (wpAny_mono h₁ (fun it s₂ h₂ => wpJ_runOwn h₂) fun _ _ h' => h')))))) fun _ _ h' => h'))
theorem wpJ_noted {m : Sem α} {Q : α -> Shared -> Prop} (h : wpJ M A m Q (notedBy M A env E) s) : wpJ M A (m.onRaise fun x => do noteFrame x env; theTreesLotGoes x) Q E s :=
 wpJ_onRaise (wpJ_mono h (fun _ _ q => q) fun _ _ hx => toJ (wpAny_bind (wpAny_mono hx (fun _ _ e => wpAny_theTreesLotGoes e) fun _ _ e => e)))
theorem codeJ_loop {c : Code} {R : Result -> Shared -> Prop} (hn : nodec c = true) (hq : c.quiet = true) (I : Nat -> Shared -> Prop)
  (turn : ∀ n s, I n s -> wpJ M (A.under c) (M.den c) (fun fin s' => match fin with
    | .done f => R (.ok f) s'
    | .again c' => (c' = c /\ ∃ m, m < n /\ I m s') \/ (c'.quiet = true /\ codeJ M A c' R s')) (fun e s' => R (.error e) s') s)
  (n : Nat) (h : I n s) : codeJ M A c R s:=by
 induction n using Nat.strongRecOn generalizing s with
 | ind n ih =>
  refine codeJ_of_tree hn (wpJ_mono (turn n s h) (fun fin s' hf => ?_) fun _ _ h' => h')
  cases fin with
  | done f => exact hf
  | again c' =>
   rcases hf with ⟨rfl, m, hm, hI⟩ | hf
   ·exact ⟨hq, ih m hm hI⟩
   ·exact hf
theorem codeJ_forLoop {R : Result -> Shared -> Prop} {target : Expr} {it : Value} {body orelse : List Stmt} (I : Nat -> Shared -> Prop)
  (turn : ∀ n s, I n s -> wpAny (model prog w) A (pyNext it) (fun r s₁ => match r with
   | none => wpAny (model prog w) A (execs orelse env) (fun f s₃ => R (.ok f) s₃) (notedBy (model prog w) A env fun e s' => R (.error e) s') s₁
   | some v => wpAny (model prog w) A (letOwnedTupleGo target it v) (fun _ s₁' =>
     wpAny (model prog w) A (assign target env v) (fun _ s₂ => wpJ (model prog w) A (execs body env) (fun f s₃ => match f with
      | .next | .cont => ∃ m, m < n /\ I m s₃
      | .brk => R (.ok .next) s₃
      | .ret v => R (.ok (.ret v)) s₃) (notedBy (model prog w) A env fun e s' => R (.error e) s') s₂) (notedBy (model prog w) A env fun e s' => R (.error e) s') s₁') (notedBy (model prog w) A env fun e s' => R (.error e) s') s₁) (notedBy (model prog w) A env fun e s' => R (.error e) s') s)
  (n : Nat) (h : I n s) : codeJ (model prog w) A (.forLoop target it body orelse env) R s:=by
 refine codeJ_loop rfl rfl I (fun n s hI => ?_) n h
 show wpJ _ A ((forTurn target it body orelse env).onRaise (fun x => do noteFrame x env; theTreesLotGoes x)) _ _ s
 refine wpJ_noted ?_
 simp only [forTurn]
 refine wpJ_standAt (wpJ_seq (wpAny_onRaise (wpAny_mono (turn n s hI) (fun r s₁ h₁ => ?_) fun _ _ h' => wpAny_standAt h')))
 cases r with
 | none => exact wpJ_pure (.inr ⟨rfl, codeToJ (codeAny_block h₁)⟩)
 | some v =>
  refine wpJ_seq (wpAny_mono h₁ (fun _ s₁' h₁' => ?_) fun _ _ h' => h')
  refine wpJ_seq (wpAny_mono h₁' (fun _ s₂ h₂ => wpJ_bind (wpJ_mono h₂ (fun f s₃ h₃ => ?_) fun _ _ h' => h')) fun _ _ h' => h')
  cases f with
  | next => exact wpJ_pure (.inl ⟨rfl, h₃⟩)
  | cont => exact wpJ_pure (.inl ⟨rfl, h₃⟩)
  | brk => exact wpJ_pure h₃
  | ret v => exact wpJ_pure h₃
theorem wpJ_Try {body orelse : List Stmt} {h₀ : ExceptHandler} {hs : List ExceptHandler} {pos : Pos} {Q : Flow -> Shared -> Prop}
  (h : wpJ (model prog w) A (execs body env) (fun f s₁ => match f with | .next => wpAny (model prog w) A (execs orelse env) Q E s₁ | f => Q f s₁)
   (fun e s₁ => wpAny (model prog w) A (noteFrame e env) (fun _ s₂ => wpAny (model prog w) A (setFlight e none) (fun _ s₃ => wpAny (model prog w) A (handleBy e env (h₀ :: hs)) Q E s₃) E s₂) E s₁) s) :
  wpJ (model prog w) A (exec (.Try body (h₀ :: hs) orelse [] pos) env) Q E s:=by
 rw [arm_exec_Try]
 refine wpJ_standAt ?_
 unfold tryStmt
 simp only [List.isEmpty_nil, if_true, List.isEmpty_cons, Bool.false_and, Bool.false_eq_true, if_false]
 refine wpJ_bind (wpJ_attempt (wpJ_mono h (fun f s₁ h₁ => ?_) fun e s₁ h₁ => ?_))
 ·cases f <;> first | exact toJ h₁ | exact wpJ_pure h₁
 ·exact toJ (wpAny_bind (wpAny_mono h₁ (fun _ _ h₂ => wpAny_bind h₂) fun _ _ x => x))
theorem codeJ_func {body : List Stmt} {R : Result -> Shared -> Prop}
  (h : wpJ (model prog w) (A.deeper env) (execs body env) (fun f s' => R (.ok (.ret (match f with | .ret v => v | _ => .none))) s')
   (fun e s' => wpAny (model prog w) (A.deeper env) (leaving env e) (fun _ s'' => R (.error e) s'') (fun e' s'' => R (.error e') s'') s') s) : codeJ (model prog w) A (.func body env) R s:=by
 refine codeJ_of_tree rfl ?_
 show wpJ _ (A.deeper env) (do point; match <- (execs body env).onRaise (leaving env) with | .ret v => PySem.ret v | _ => PySem.ret Value.none) _ _ s
 refine wpJ_seq (wpAny_point (wpJ_bind (wpJ_onRaise (wpJ_mono h (fun f s' h' => ?_) fun _ _ h' => toJ h'))))
 cases f <;> exact wpJ_pure h'
theorem codeJ_call_function {a : Addr} {args : Args} {o : Obj} {fd : FuncData} {body : List Stmt} {R : Result -> Shared -> Prop} (hroom : A.depth < recursionLimit)
  (ho : s.heap.get? a = some o)
  (hd' : o.data = .func fd) (hco : fd.scope.isCoroutine = false) (hgen : fd.scope.isGenerator = false) (hbody : fd.body = .stmts body) (hcd : s.heap.CodeRec fd.code fd.qualname)
  (h : wpAny (model prog w) A.in1 (bindArgs fd args) (fun binds s₁ =>
   wpAny (model prog w) A.in1 (newFunctionEnv fd.scope fd.globals fd.closure binds (fd.qualname ++ ".<locals>.") (some a) fd.code none fd.builtins)
    (fun env s₂ => s₂.heap.NoLimit /\ codeJ (model prog w) A (.func body env) R s₂) (fun e s' => R (.error e) s') s₁) (fun e s' => R (.error e) s') s) :
  codeJ (model prog w) A (.call (.ref a) args) R s:=by
 refine codeJ_of_tree rfl ?_
 show wpJ _ A.in1 (callAny (.ref a) args) _ _ s
 simp only [callAny]
 refine wpJ_seq (wpAny_load ho ?_)
 refine yN fun hgl => ?_
 obtain ⟨c, oc, vs, tq, hc, hoc, hdc, hq⟩:=hcd
 refine hgl ?_; clear hgl
 simp only [hd', callFunction, hco, hgen, hbody, hc]
 rw [hc] at h
 refine wpJ_seq (m:=field (.ref c) 1) (wpAny_field hoc hdc hq (wpJ_seq (wpAny_pure ?_)))
 exact wpJ_seq (wpAny_mono h (fun binds s₁ h₁ => wpJ_seq (wpAny_mono h₁ (fun env s₂ h₂ => wpJ_seq (wpAny_enterFrame h₂.1 hroom
  (wpJ_pure (And.intro rfl h₂.2)))) fun _ _ h' => h')) fun _ _ h' => h')
theorem callWithJ {P : Heap -> Prop} {f : Value} {pos : Pos} {first : List Value} {args : List (Bool × Sem Value)} {keywords : List (Option Str × Sem Value)} {Q : Value -> Shared -> Prop} (hplain : (args.any (·.1) || keywords.any (·.1.isNone)) = false)
  (hk : ∀ h, P h -> ∃ k, (k = Keeper.frame \/ k = Keeper.machine \/ k = Keeper.boundFrame) /\ Looks M h (keeperOf f) k)
  (h : wpJ M A (evalArgs f true args keywords) (fun a s₁ => P s₁.heap /\ wpJ M A (call f (first ++ a.pos) a.kw) Q E s₁) E s) : wpJ M A (callWith pos f first args keywords) Q E s:=by
 unfold callWith
 refine wpJ_bind (wpJ_holding (wpJ_mono h (fun a s₁ h₁ => wpJ_standAt ?_) fun _ _ x => x))
 refine yN fun hgl => ?_
 obtain ⟨k, hk', L⟩:=hk _ h₁.1
 refine hgl ?_; clear hgl
 simp only [hplain]
 refine wpJ_seq (L.here ?_)
 have tail : ∀ {t : Sem Value}, wpJ M A t Q E s₁ -> wpJ M A (t >>= fun r => holding [r] point >>= fun _ => pure r) Q E s₁ :=
  fun ht => wpJ_bind (wpJ_mono ht (fun r s₂ hr => wpJ_seq (wpAny_holding (wpAny_point (wpJ_pure hr)))) fun _ _ x => x)
 have marked (mk : Value) : wpJ M A (callMarked mk f (first ++ a.pos) a.kw) Q E s₁:=by unfold callMarked; exact wpJ_keep h₁.2
 rcases hk' with rfl | rfl | rfl <;> dsimp only <;> first | exact tail h₁.2 | (split <;> first | exact tail h₁.2 | exact tail (marked _))
end
end Mine
end
section
open PySem PySem.W PyProof.Rows PySem.Calls
set_option maxRecDepth 100000
namespace Mine
noncomputable def SndJ {α β : Type} (X : Cx) (n : Nat) (F : FnC) (R : Wd -> Nat -> α -> β -> Prop) (t : Env -> Sem β) (C : M α) : Prop :=
 ∀ (A : Around) (L : Addr) (cl : List (Str × Addr)) (O : Outer) (w : Wd) (σ : AS) (s : Shared) (Q : β -> Shared -> Prop) (Er : Value -> Shared -> Prop), Ar A n (F.env L cl) O -> St X F L cl O w σ s ->
  Post X F L cl O R w σ.nxt (C σ) Q Er -> wpJ (model X.prog X.w) A (t (F.env L cl)) Q Er s
theorem Snd.J {α β : Type} {X : Cx} {n : Nat} {F : FnC} {R : Wd -> Nat -> α -> β -> Prop} {t : Env -> Sem β} {C : M α} (h : Snd X n F R t C) : SndJ X n F R t C:=fun A L cl O w σ s Q Er hA hS hP => toJ (h A L cl O w σ s Q Er hA hS hP)
noncomputable def SEJ (X : Cx) (n : Nat) (F : FnC) (e : Expr) (C : M PV) : Prop:=SndJ X n F (VRw X) (fun env => eval e env) C
noncomputable def STtJ (X : Cx) (n : Nat) (F : FnC) (e : Expr) (C : M Bool) : Prop:=SndJ X n F EqR (fun env => isTrue e env (eval e env)) C
noncomputable def SSJ (X : Cx) (n : Nat) (F : FnC) (st : Stmt) (C : S) : Prop:=SndJ X n F (FlR X) (fun env => exec st env) C
noncomputable def SSsJ (X : Cx) (n : Nat) (F : FnC) (ss : List Stmt) (C : S) : Prop:=SndJ X n F (FlR X) (fun env => execs ss env) C
noncomputable def FunJ (X : Cx) (n : Nat) (F : FnC) (f : Value) (k : Nat) (G : List PV -> M PV) : Prop:=∀ (A : Around) (L : Addr) (cl : List (Str × Addr)) (O : Outer) (w : Wd) (σ : AS) (s : Shared) (vs : List PV) (xs : List Value) (Q : Value -> Shared -> Prop) (Er : Value -> Shared -> Prop),
 vs.length = k -> Ar A n (F.env L cl) O -> St X F L cl O w σ s -> VRsw X w σ.nxt vs xs -> Post X F L cl O (VRw X) w σ.nxt (G vs σ) Q Er -> wpJ (model X.prog X.w) A (call f xs) Q Er s
noncomputable def CodJ (X : Cx) (n : Nat) (F : FnC) (f : Value) (k : Nat) (G : List PV -> M PV) : Prop:=∀ (A : Around) (L : Addr) (cl : List (Str × Addr)) (O : Outer) (w : Wd) (σ : AS) (s : Shared) (vs : List PV) (xs : List Value) (Q : Value -> Shared -> Prop) (Er : Value -> Shared -> Prop),
 vs.length = k -> Ar A n (F.env L cl) O -> St X F L cl O w σ s -> VRsw X w σ.nxt vs xs -> Post X F L cl O (VRw X) w σ.nxt (G vs σ) Q Er -> codeJ (model X.prog X.w) A (.call f ⟨xs, []⟩) (RC Q Er) s
section
variable {X : Cx} {n : Nat} {F : FnC} {L : Addr} {cl : List (Str × Addr)} {O : Outer} {w : Wd} {σ : AS} {s : Shared} {A : Around} {env : Env} {Er : Value -> Shared -> Prop}
theorem CodJ.fun {f : Value} {k : Nat} {G : List PV -> M PV} (h : CodJ X n F f k G) : FunJ X n F f k G:=fun A L cl O w σ s vs xs Q Er hl hA hS hv hP => wpJ_call (h A L cl O w σ s vs xs Q Er hl hA hS hv hP)
theorem ssJ_nil : SSsJ X n F [] (sSeq []):=ss_nil.J
theorem ssJ_cons {st : Stmt} {ss : List Stmt} {a : S} {r : List S} (h : SSJ X n F st a) (hr : SSsJ X n F ss (sSeq r)) : SSsJ X n F (st :: ss) (sSeq (a :: r)):=fun A L cl O w σ s Q Er hA hS hP =>
 wpJ_execs_cons (h A L cl O w σ s _ _ hA hS (hP.bind fun v σ1 x w1 s1 _ S1 E1 V1 P1 => by
  cases V1 with
  | nx => exact hr A L cl O w1 σ1 s1 _ _ hA S1 P1
  | rt hv => exact P1 _ _ _ S1 .refl (.rt hv)))
theorem ssJ_if {t : Expr} {a b : List Stmt} {ct : M Bool} {ca cb : List S} {pos : Pos} (ht : STtJ X n F t ct) (ha : SSsJ X n F a (sSeq ca)) (hb : SSsJ X n F b (sSeq cb)) : SSJ X n F (.If t a b pos) (sIf ct ca cb):=fun A L cl O w σ s Q Er hA hS hP =>
 wpJ_If (ht A L cl O w σ s _ _ hA hS (hP.bind fun v σ1 x w1 s1 _ S1 E1 V1 P1 => by
  cases V1
  cases v with
  | true => exact ha A L cl O w1 σ1 s1 _ _ hA S1 P1
  | false => exact hb A L cl O w1 σ1 s1 _ _ hA S1 P1))
theorem ssJ_exp {e : Expr} {c : M PV} {pos : Pos} (hF : F.Ok) (h : SEJ X n F e c) (hs : ∀ env, env.scope.kind = .function -> swapsWith e none pos.line env = pure false) : SSJ X n F (.Expr e pos) (sExp c):=fun A L cl O w σ s Q Er hA hS hP =>
 wpJ_Expr (h A L cl O w σ s _ _ hA hS (hP.bind fun v σ1 x w1 s1 _ S1 E1 V1 P1 => by
  cases v with
  | ref => exact P1.elim
  | tup => exact P1.elim
  | «ints» => exact P1.elim
  | _ => exact P1 _ _ _ S1 .refl .nx)) (by unfold interactive; rw [show (F.env L cl).scope.kind = .function from hF.fn]; rfl) (hs _ hF.fn)
theorem args_KJ {M : Model} {K : Frag} {f : Value} {pos : Pos} {first : List Value} {l : List (Bool × Sem Value)} {Q : Value -> Shared -> Prop} (hp : PlL l) (hk : keepIn K f = true) (h : wpAny M A (spliced l) (fun vs s₁ => K.In s₁.heap /\ wpJ M A (call f (first ++ vs)) Q Er s₁) Er s) :
  wpJ M A (callWith pos f first l []) Q Er s:=callWithJ (by rw [hp.any]; rfl) (keeps_K hk) (toJ (evalArgs_list hp h))
theorem seJ_def (hX : X.Ok) (hF : F.Ok) {nm : Str} {f : Addr} {p pos : Pos} {es : List Expr} {cs : List (M PV)} {G : List PV -> M PV} (hn : GnK X F nm (.ref f)) (hk : keepIn X.K (.ref f) = true) (hp : PlA es) (h : SIt X n F es cs) (hG : FunJ X n F (.ref f) cs.length G) :
  SEJ X n F (.Call (.Name nm p) es [] pos) (eCall G cs):=fun A L cl O w σ s Q Er hA hS hP =>
 wpJ_seq (m:=eval (.Name nm p) (F.env L cl)) (gname hX hF hn.top hn.kind hn.dbg hS (args_KJ (K:=X.K) (hp _ _) hk (h pos A L cl O w σ s _ _ hA hS (hP.bind fun vs σ1 xs w1 s1 e1 S1 E1 V1 P1 => ⟨S1.In hX, hG A L cl O w1 σ1 s1 vs xs Q Er (evs_length e1) hA S1 V1 P1⟩))))
theorem seJ_meth (hX : X.Ok) {o : Expr} {nm : Str} {C f : Addr} {ap pos : Pos} {es : List Expr} {co : M PV} {cs : List (M PV)} {G : List PV -> M PV} (hm : MethK X.K C nm f) (hp : PlA es) (ho : SE X n F o co) (h : SIt X n F es cs) (hG : FunJ X n F (.ref f) (cs.length + 1) G)
  {pl : Env -> Sem Bool} (he : ∀ env, eval (.Call (.Attribute o nm ap) es [] pos) env = (do
   let ov <- eval o env
   standAt ap.atName
   let (f, first) <- holding [ov] (getMethod ov nm (pl env))
   callWith pos f first (backTo pos (starEach es env)) [])) : SEJ X n F (.Call (.Attribute o nm ap) es [] pos) (eMeth C G co cs):=fun A L cl O w σ s Q Er hA hS hP => by
 show wpJ _ A (eval (.Call (.Attribute o nm ap) es [] pos) (F.env L cl)) Q Er s
 rw [he]
 refine wpJ_seq (ho A L cl O w σ s _ _ hA hS (hP.bind fun v σ1 x w1 s1 _ S1 E1 V1 P1 => wpJ_standAt ?_))
 induction V1 using VR_cases with
 | ref i hi =>
  dsimp only at P1
  split at P1
  ·rename_i D fs hmem
   split at P1
   ·rename_i hD
    subst hD
    refine yN fun hgl => ?_
    obtain ⟨h1, h2, es', c, h3, h4⟩:=S1.instAt hi hmem
    refine hgl ?_; clear hgl
    refine wpJ_seq (wpAny_holding (method_inst (K:=X.K) S1.fr hX.K (InstAt.of_news S1.nw (mem_mo h1) (mem_mo h3)) hm.plain hm.find hm.fn (h4.getL_none hm.off) ?_))
    refine args_KJ (K:=X.K) (hp _ _) hm.keep (h pos A L cl O w1 σ1 s1 _ _ hA S1 (P1.bind fun vs σ2 xs w2 s2 e2 S2 E2 V2 P2 => ⟨S2.In hX, ?_⟩))
    exact hG A L cl O w2 σ2 s2 (.ref i :: vs) _ Q Er (congrArg (· + 1) (evs_length e2)) hA S2 (.cons (VR.mono E2.toGrow (.ref i hi)) V2) P2
   ·exact P1.elim
  ·exact P1.elim
 | _ => exact P1.elim
theorem loopJ_range (hF : F.Ok) (hA : Ar A n (F.env L cl) O) (hn : 1 <= n) {target : Expr} {tgt : PV -> M Unit} {body : List Stmt} {cb : S} {it : Addr} {x c : Int} {ks : List Int} {Q : Flow -> Shared -> Prop} (ht : TgtS X n F target tgt) (hb : SSsJ X n F body cb)
  (hgo : ∀ it v, letOwnedTupleGo target it v = pure ()) (hS : St X F L cl O (withTp w ((it, rio x ks.length c) :: w.tp)) σ s) (hk : Arith ks x c) (hP : Post X F L cl O (FlR X) w σ.nxt (forL tgt cb (ks.map .int) σ) Q Er) :
  codeJ (model X.prog X.w) A (.forLoop target (.ref it) body [] (F.env L cl)) (RL X A (F.env L cl) Q Er) s:=by
 have hh : A.handled = none:=hA.hd.resolve_right (by lia)
 refine codeJ_forLoop (LRI X F L cl O w σ.nxt it c tgt cb Q Er) ?_ _ ⟨w, σ, x, ks, hS, .refl, hk, rfl, hP⟩
 rintro k s1 ⟨w1, σ1, x1, ks1, S1, E1, k1, rfl, P1⟩
 have hit : IsRangeIter s1.heap it x1 ks1.length c:=(S1.nw _ (tp_head rfl)).1
 cases k1 with
 | nil =>
  refine wpAny_pyNext_range_end hh hit (by simp) fun h' hE => wpAny_execs_nil ?_
  exact P1 _ _ _ (S1.tpDrop s1.toks hE) .refl .nx
 | @cons _ _ l k1 =>
  refine wpAny_pyNext_range_item hit (by simp) fun h' hit' hE => ?_
  have e1 : (((x1 :: l).length : Nat) : Int) - 1 = (l.length : Int):=by rw [yA]; lia
  rw [e1] at hit'
  have S2:=S1.tpSet (o':=rio (x1 + c) l.length c) (s1.toks + 1) hit' hE.extBut
  dsimp only
  refine wpAny_of_eq (hgo _ _) ?_
  refine ht A L cl O _ σ1 _ (.int x1) _ _ _ hA S2 (.int _ _) (P1.bindTp (fun _ σ2 _ w2 s2 _ S3 E3 _ P3 => ?_) fun C σ' e w' s' hx h => turn_err hF hA hx h)
  refine hb A L cl O _ σ2 s2 _ _ hA S3 (P3.bindTp (fun f σ4 f' w4 s4 _ S5 E5 V5 P5 => ?_) fun C σ' e w' s' hx h => turn_err hF hA hx h)
  cases V5 with
  | nx => exact ⟨l.length + 1, Nat.lt_succ_self _, w4, σ4, x1 + c, l, S5, (E1.trans E3).trans E5, k1, rfl, P5⟩
  | rt hv => exact P5 _ _ _ (S5.tpDrop s4.toks (.refl _ _)) .refl (.rt hv)
theorem ssJ_forR (hX : X.Ok) (hF : F.Ok) (hn : 1 <= n) {x nm : Str} {xp p pos rpos : Pos} {es : List Expr} {cs : List (M PV)} {body : List Stmt} {cb : List S} {i : Nat} (hb : BnK X F "range" (.type "range")) (hi : F.vars[i]? = some x) (hp : PlA es) (h : SIt X n F es cs)
  (hbody : SSsJ X n F body (sSeq cb)) : SSJ X n F (.For (.Name x xp) (.Call (.Name "range" p) es [] rpos) body [] pos) (sForR i cs cb):=fun A L cl O w σ s Q Er hA hS hP =>
 wpJ_For (PyProof.Rows.Call_Name rfl (bname hX hF hb.top hb.boot hb.ne hb.kind hb.dbg hS (args_type (hp _ _) (h rpos A L cl O w σ s _ _ hA hS (by
  have hP' : Post X F L cl O (FlR X) w σ.nxt (bnd (evs cs) (fun vs => bnd (fun s => match rangeK vs with | some r => Res.ok r.2.2 s | none => .stuck "range") fun ks => forL (setL i) (sSeq cb) (ks.map .int)) σ) Q Er:=by
   exact Post.eq (bnd_assoc _ _ _ _) hP
  refine hP'.bind fun vs σ1 xs w1 s1 _ S1 E1 V1 P1 => ?_
  unfold bnd at P1
  cases e : rangeK vs with
  | none => rw [e] at P1; exact P1.elim
  | some r =>
   rw [e] at P1
   refine yN fun hgl => ?_
   obtain ⟨a0, b0, c0, rfl, hc, _⟩:=rangeK_some e
   refine hgl ?_; clear hgl
   refine range_ok S1 V1 e fun a s2 b t u v S2 hr hsm hsz => ?_
   refine wpAny_pyIter_range hr hsm ?_
   rw [hsz]
   have F3:=S2.fr.push (rio a0 (rangeL a0 b0 c0).length c0)
   have N3:=News.push S2.fr S2.nw (rio a0 (rangeL a0 b0 c0).length c0)
   exact loopJ_range hF hA hn (tgt_name hF hi) hbody (fun _ _ => rfl) (S2.tpAdd (t:=s2.toks) S2.size_off F3 N3) (rangeL_arith hc).1 P1))))) (fun _ => rfl)
theorem loopJ_list (hF : F.Ok) (hA : Ar A n (F.env L cl) O) (hn : 1 <= n) {target : Expr} {tgt : PV -> M Unit} {body : List Stmt} {cb : S} {it : Addr} {o : Obj} {i j fuel : Nat} {Q : Flow -> Shared -> Prop} (ht : TgtS X n F target tgt) (hb : SSsJ X n F body cb)
  (hgo : (∀ it v, letOwnedTupleGo target it v = pure ()) \/ ((∃ es k p, target = .Tuple es k p) /\ ∃ is, tgt = unpackM is)) (hi : i < σ.nxt) (hc : o.cls = .type "list_iterator") (hd : o.data = .fields #[.ref (w.al i), .int j 0])
  (hS : St X F L cl O (withTp w ((it, o) :: w.tp)) σ s) (hP : Post X F L cl O (FlR X) w σ.nxt (forLive tgt cb i fuel j σ) Q Er) :
  codeJ (model X.prog X.w) A (.forLoop target (.ref it) body [] (F.env L cl)) (RL X A (F.env L cl) Q Er) s:=by
 have hh : A.handled = none:=hA.hd.resolve_right (by lia)
 refine codeJ_forLoop (LLI X F L cl O w σ.nxt it (w.al i) i tgt cb Q Er) ?_ fuel ⟨w, σ, o, j, hS, .refl, hc, hd, hP⟩
 rintro k s1 ⟨w1, σ1, o1, j1, S1, E1, c1, d1, P1⟩
 cases k with
 | zero => exact P1.elim
 | succ k =>
  have hit : s1.heap.IsListIter it (w.al i) j1:=⟨o1, (S1.nw _ (tp_head rfl)).1, c1, d1⟩
  have hi1 : i < σ1.nxt:=yK hi E1.le
  have eal : w1.al i = w.al i:=E1.al i hi
  unfold forLive at P1
  split at P1
  ·rename_i vs hm
   refine yN fun hgl => ?_
   obtain ⟨xs, c, hx, hvs⟩:=S1.listAt hi1 hm
   refine hgl ?_; clear hgl
   have hl : s1.heap.IsList (w.al i) xs.toArray:=eal ▸ S1.isList hx
   split at P1
   ·rename_i v ev
    refine yN fun hgl => ?_
    obtain ⟨x, ex, hvx⟩:=hvs.get ev
    refine hgl ?_; clear hgl
    refine wpAny_pyNext_list_item hit hl (by simpa using ex) fun h' hit' hE => ?_
    refine yN fun hgl => ?_
    obtain ⟨o2, ho2, c2, d2⟩:=hit'
    refine hgl ?_; clear hgl
    have S2:=S1.tpSet s1.toks ho2 hE.extBut
    dsimp only
    have go : ∀ {Q2 : Unit -> Shared -> Prop} {E2 : Value -> Shared -> Prop}, (Q2 () { s1 with heap:=h' }) -> wpAny (model X.prog X.w) A (letOwnedTupleGo target (.ref it) x) Q2 E2 { s1 with heap:=h' }:=by
     intro Q2 E2 hq
     rcases hgo with hgo | ⟨⟨es, kk, p, rfl⟩, is, rfl⟩
     ·exact wpAny_of_eq (hgo _ _) hq
     ·induction hvx using VR_cases with
      | tup us ys T hT hus => exact wpAny_letOwnedTupleGo_listiter ⟨o2, ho2, c2, d2⟩ hq
      | ref q hq' => exact wpAny_letOwnedTupleGo_listiter ⟨o2, ho2, c2, d2⟩ hq
      | «ints» ns xs a hb hi' => exact wpAny_letOwnedTupleGo_listiter ⟨o2, ho2, c2, d2⟩ hq
      | _ => exact wpAny_pure hq
    refine go ?_
    refine ht A L cl O _ σ1 _ v x _ _ hA S2 (VR.mono (fz':=(withTp w1 ((it, o2) :: w.tp)).fz) Grow.refl hvx) (P1.bindTp (fun _ σ2 _ w2 s2 _ S3 E3 _ P3 => ?_) fun C σ' e w' s' hx h => turn_err hF hA hx h)
    refine hb A L cl O _ σ2 s2 _ _ hA S3 (P3.bindTp (fun f σ4 f' w4 s4 _ S5 E5 V5 P5 => ?_) fun C σ' e w' s' hx h => turn_err hF hA hx h)
    cases V5 with
    | nx => exact ⟨k, Nat.lt_succ_self _, w4, σ4, o2, j1 + 1, S5, (E1.trans E3).trans E5, c2, by rw [d2], P5⟩
    | rt hv => exact P5 _ _ _ (S5.tpDrop s4.toks (.refl _ _)) .refl (.rt hv)
   ·rename_i ev
    have : (xs.toArray)[j1]? = none:=by
     have h1:=List.getElem?_eq_none_iff.mp ev
     rw [hvs.length] at h1
     simpa using h1
    refine wpAny_pyNext_list_end hh hit hl this fun h' hE => wpAny_execs_nil ?_
    exact P1 _ _ _ (S1.tpDrop s1.toks hE) .refl .nx
  ·exact P1.elim
theorem ssJ_forV (hF : F.Ok) (hn : 1 <= n) {target iter : Expr} {tgt : PV -> M Unit} {c : M PV} {body : List Stmt} {cb : List S} {pos : Pos} (ht : TgtS X n F target tgt) (hit : SE X n F iter c) (hbody : SSsJ X n F body (sSeq cb))
  (hgo : (∀ it v, letOwnedTupleGo target it v = pure ()) \/ ((∃ es k p, target = .Tuple es k p) /\ ∃ is, tgt = unpackM is)) (hs : ∀ env x, foldedSetIterable iter env x = pure x) : SSJ X n F (.For target iter body [] pos) (sForV tgt c cb):=fun A L cl O w σ s Q Er hA hS hP =>
 wpJ_For (hit A L cl O w σ s _ _ hA hS (hP.bind fun v σ1 x w1 s1 _ S1 E1 V1 P1 => by
  induction V1 using VR_cases with
  | ref i hi =>
   unfold forVM at P1
   dsimp only at P1
   split at P1
   ·rename_i vs hm
    split at P1
    ·refine yN fun hgl => ?_
     obtain ⟨xs, k, hx, hvs⟩:=S1.listAt hi hm
     refine hgl ?_; clear hgl
     refine wpAny_pyIter_list (S1.isList hx) ?_
     have F3:=S1.fr.push { cls:=.type "list_iterator", data:=.fields #[.ref (w1.al i), .int 0 0] }
     have N3:=News.push S1.fr S1.nw { cls:=.type "list_iterator", data:=.fields #[.ref (w1.al i), .int 0 0] }
     exact loopJ_list hF hA hn ht hbody hgo hi rfl rfl (S1.tpAdd (t:=s1.toks) S1.size_off F3 N3) P1
    ·exact P1.elim
   ·exact P1.elim
  | _ => exact P1.elim)) (hs _)
theorem ssJ_try (hX : X.Ok) (hF : F.Ok) (hK : ∀ C, C = 52 \/ C = 64 \/ C = 76 \/ C = 88 -> ExcK X.K C) {body : List Stmt} {cb : List S} {h₀ : ExceptHandler} {hs : List ExceptHandler} {rs : List (Nat × List S)} {pos : Pos} (hb : SSsJ X n F body (sSeq cb)) (h : HsR X F (h₀ :: hs) rs) :
  SSJ X n F (.Try body (h₀ :: hs) [] [] pos) (sTry cb rs):=fun A L cl O w σ s Q Er hA hS hP => by
 refine wpJ_Try (hb A L cl O w σ s _ _ hA hS ?_)
 unfold sTry at hP
 cases e : sSeq cb σ with
 | ok f σ' =>
  rw [e] at hP
  intro x w' s' S' E V
  cases V with
  | nx => exact wpAny_execs_nil (hP _ _ _ S' E .nx)
  | rt hv => exact hP _ _ _ S' E (.rt hv)
 | exc C σ' =>
  rw [e] at hP
  intro ex w' s' hx E
  dsimp only at hP
  split at hP
  ·rename_i hC
   refine note_ok hF hA.frames hx fun w2 s2 S2 x2 E2 => flight_ok (f:=none) S2 x2 fun s3 S3 x3 => ?_
   exact handle_ok hX hF hA (hK C hC) h S3 x3 (hP.ext (E.trans E2))
  ·exact hP.elim
 | stuck => rw [e] at hP; exact hP.elim
theorem funJ_def (hX : X.Ok) (hF : F.Ok) {F' : FnC} (hF' : F'.Ok) {stmts : List Stmt} {k N : Nat} {cb : List S} (D : DefK X.K F' stmts k) (hb : SSsJ X n F' stmts (sSeq cb)) : CodJ X (n + 1) F (.ref F'.fa) k (fnM N cb) :=
 fun A L cl O w σ s vs xs Q Er hl hA S hv hP => by
 obtain ⟨name, params, dV, kV, doc, pm, an, ct, oc, od, osl, hlk, hbind⟩:=D.ex
 have hk : F'.scope.kind = .function:=hF'.fn
 have hroom : A.depth < recursionLimit:=dep2 hA.depth
 have hlx : xs.length = k:=by rw [<- hv.length, hl]
 have hkind : ∀ x ∈ (F'.vars.take k).zip xs, F'.scope.names.lookup x.1 = some .local \/ (F'.scope.names.lookup x.1 = some .cell /\ ((cellsFrom (s.heap.objs.size + 1) F'.scope.names []).lookup x.1).isSome = true):=fun x hx => by
  have hm : x.1 ∈ F'.vars:=List.mem_of_mem_take (List.of_mem_zip (show (x.1, x.2) ∈ _ from hx)).1
  exact (hF'.kind _ hm).imp id fun h => ⟨h, D.ckd _ _ hm h⟩
 refine codeJ_call_function hroom (hX.K.keeps S.fr.keep _ _ hlk) rfl D.co D.gen rfl (codeRec_of (hX.K.keeps S.fr.keep) D.code) (hbind xs hlx s (S.In hX) _ _ _ _ ?_)
 refine wpAny_newFunctionEnv_cells hk hkind fun env' he s1 I => ?_
 subst he
 refine ⟨(hX.T.nolimit.keeps S.fr.keep).keeps I.toInCall.keep, codeJ_func ?_⟩
 obtain ⟨cells, oL, S1⟩:=S.into (N:=N) hX hF hF' D hv hl I (by obtain ⟨h', tk, rfl, _⟩:=I.done; rfl) (by obtain ⟨h', tk, rfl, _⟩:=I.done; rfl)
 have hA1:=hA.deeper (env':=F'.env s.heap.objs.size (cellsFrom (s.heap.objs.size + 1) F'.scope.names [])) (m:=w.m)
 refine hb _ _ _ _ _ _ s1 _ _ hA1 S1 ?_
 unfold fnM at hP
 cases e : sSeq cb ⟨vs.map some ++ List.replicate (N - vs.length) none, σ.mem, σ.nxt⟩ with
 | stuck => rw [e] at hP; exact hP.elim
 | ok f σ1 =>
  rw [e] at hP
  intro fv w1 s2 S2 E2 V2
  refine yN fun hgl => ?_
  obtain ⟨w2, S3, E3, efz, eal, _⟩:=S.back S2 E2
  refine hgl ?_; clear hgl
  cases V2 with
  | nx => exact hP _ _ _ S3 E3 .none
  | rt h => exact hP _ _ _ S3 E3 (by show VR X.B w2.fz w2.al _ _ _; rw [efz, eal]; exact h)
 | exc C σ1 =>
  rw [e] at hP
  intro ev w1 s2 hx E2
  unfold leaving
  refine wpAny_bind (note_ok hF' hA1.frames hx fun w2 s3 S3 x3 E3 => flight_ok (f:=none) S3 x3 fun s4 S4 x4 => ?_)
  obtain ⟨w5, S5, E5, _, _, sub⟩:=S.back S4 (E2.trans E3)
  exact hP _ _ _ ⟨S5, (x4.out sub).at _ (.inl rfl)⟩ E5
end
section
variable {α : Type} {M : Model} {prog : Program} {w : World} {A : Around} {E : Value -> Shared -> Prop} {s : Shared} {C : Addr} {R : Result -> Shared -> Prop} {h : Heap} {g : Array GenState} {d : Drawn} {t : Nat} {os : OsState}
theorem loadJ {a : Addr} {p : Option Value} {k : Obj -> Sem α} {o : Obj} {Q : α -> Shared -> Prop} (ho : s.heap.get? a = some o) (h : wpJ M A (k o) Q E s) : wpJ M A (.load a p k) Q E s:=fun Γ q hΓ h1 h2 => by
 rw [Sem.wp_load]; exact ⟨o, ho, h Γ q hΓ h1 h2⟩
theorem nodec_b {id : String} {args : Args} (h : Builtin.Bytes.decodersThatHold.contains id = false) : nodec (.builtin id args) = true:=by
 show (!(Builtin.Bytes.decodersThatHold.contains id)) = true
 rw [h]; rfl
theorem codeJ_call_builtin {id : String} {args : Args} {b : Builtin} (hn : nodec (.builtin id args) = true) (hq : (Code.builtin id args).quiet = true) (hb : entryFor table id = some b)
  (h : wpAny (model prog w) A.in1 (checkBuiltinCall id args) (fun _ s₁ => wpJ (model prog w) (A.under (.builtin id args)) (b args)
   (fun fin s' => match fin with | .done f => R (.ok f) s' | .again c' => c'.quiet = true /\ codeJ (model prog w) A c' R s') (fun e s' => R (.error e) s') s₁)
   (fun e s' => R (.error e) s') s) : codeJ (model prog w) A (.call (.builtin id) args) R s:=by
 refine codeJ_of_tree rfl ?_
 show wpJ _ A.in1 (do checkBuiltinCall id args; again (.builtin id args)) _ _ s
 refine wpJ_seq (wpAny_mono h (fun _ s₁ h₁ => wpJ_pure (And.intro hq (codeJ_of_tree hn ?_))) fun _ _ h' => h')
 show wpJ _ _ (match entryFor table id with | some b => b args | none => unsupported ((withoutEnding? id "#data").getD id)) _ _ s₁
 rw [hb]; exact h₁
theorem codeJ_builtin {id : String} {args : Args} {b : Builtin} (hn : nodec (.builtin id args) = true) (hb : entryFor table id = some b)
  (h : wpJ (model prog w) (A.under (.builtin id args)) (b args)
   (fun fin s' => match fin with | .done f => R (.ok f) s' | .again c' => c'.quiet = true /\ codeJ (model prog w) A c' R s') (fun e s' => R (.error e) s') s) : codeJ (model prog w) A (.builtin id args) R s:=by
 refine codeJ_of_tree hn ?_
 show wpJ _ _ (match entryFor table id with | some b => b args | none => unsupported ((withoutEnding? id "#data").getD id)) _ _ s
 rw [hb]; exact h
theorem make_coreJ {rest : List Value} {kw : List (Str × Value)} {init : Value} (Y : Makes (model prog w) h C) (hi : Looks (model prog w) h (typeLookup (.ref C) "__init__") (some init))
  (hb : ∀ self, Looks (model prog w) h (bindSpecial init self) (init, [self])) (hne : (some init != some (Value.builtin "object.__init__")) = true \/ (rest = [] /\ kw = []))
  (hq : codeJ (model prog w) (A.under (.builtin "type.__call__" ⟨.ref C :: rest, kw⟩)) (.call init ⟨.ref (h.objs.size + 1) :: rest, kw⟩) (InitBack (h.objs.size + 1) R) ⟨(h.push emptyDict).push (instObj C h.objs.size), g, d, t, os⟩) :
  codeJ (model prog w) A (.call (.ref C) ⟨rest, kw⟩) R ⟨h, g, d, t, os⟩:=by
 have Y':=Y
 obtain ⟨⟨oc, od, cd, sl, hC, e1, e2, e4⟩, made, base, self, top, call, typ⟩:=Y
 refine codeJ_of_tree rfl ?_
 show wpJ _ _ (callAny (.ref C) _) _ _ _
 refine loadJ hC ?_
 show wpJ _ _ (callAny.viaDunder (.ref C) _) _ _ _
 unfold callAny.viaDunder
 refine wpJ_seq (call.at ?_)
 dsimp only
 rw [tc_bind]
 refine wpJ_seq (wpAny_pure (wpJ_seq (wpAny_pure ?_)))
 refine wpJ_pure (a:=Fin.again (.call (.builtin "type.__call__") ⟨.ref C :: rest, kw⟩)) (And.intro rfl ?_)
 refine codeJ_call_builtin (nodec_b (by decide +kernel)) (Code.quiet_builtin _ (by decide +kernel)) entry_typeCall (check_slot tc_kind tc_split typ (tc_args _ _ _) ?_)
 unfold Builtin.«type.__call__»
 have hm : Looks (model prog w) h (mroOf (.ref C)) cd.mro:=((Looks.ld (part:=none) hC).andThen .now).andThen .now
 have k : ∀ b o, h.get? b = some o -> ((h.push emptyDict).push (instObj C h.objs.size)).get? b = some o:=fun b o e => Heap.get?_push_of_some _ (Heap.get?_push_of_some _ e)
 have hx : ((h.push emptyDict).push (instObj C h.objs.size)).get? (h.objs.size + 1) = some (instObj C h.objs.size):=by heap_get
 have t1 : Looks (model prog w) ((h.push emptyDict).push (instObj C h.objs.size)) (typeOf (.ref (h.objs.size + 1))) (.ref C):=(Looks.ld hx).andThen .now
 have s1:=self.keeps k
 have i1:=hi.keeps k
 have b1:=(hb (.ref (h.objs.size + 1))).keeps k
 dsimp only
 have hne1 : (Value.ref C == Value.type "type") = false:=rfl
 simp only [hne1, Bool.false_eq_true, if_false]
 refine wpJ_seq (hm.at ?_)
 simp only [e4, Bool.false_eq_true, if_false]
 refine wpJ_seq (made.at ?_)
 dsimp only
 refine wpJ_seq (wpAny_pure ?_)
 refine wpJ_seq (wpAny_holding (wpAny_call (new_K Y' hi hne ?_)))
 dsimp only
 refine wpJ_seq ((t1.andThen s1 : Looks (model prog w) _ (isInstance (.ref (h.objs.size + 1)) (.ref C)) true).at ?_)
 simp only [Bool.not_true, Bool.false_eq_true, if_false]
 refine wpJ_bind (wpJ_holding ?_)
 unfold callSpecial? specialOf
 refine wpJ_seq ((t1.andThen i1 : Looks (model prog w) _ (typeOf (.ref (h.objs.size + 1)) >>= fun t => typeLookup t (Str.ofString "__init__")) (some init)).at ?_)
 dsimp only
 refine wpJ_holding ?_
 refine wpJ_seq (b1.at ?_)
 dsimp only
 refine wpJ_bind (wpJ_call (codeJ_mono hq fun r s' z => ?_))
 rcases r with e | (v | _ | _ | _) <;> first | exact z | exact z.elim | skip
 obtain ⟨rfl, z⟩:=z
 exact wpJ_pure (wpJ_pure z)
end
theorem ba_mro : mroOf (.type "bytearray") = pure [.type "bytearray", .type "object"]:=by rw [mroOf_type]; kernel_rfl
theorem ba_lookup_new : typeLookup (.type "bytearray") "__new__" = pure (some (.builtin "bytearray.__new__")):=by rw [typeLookup_type, builtinLookup_eq_fast]; kernel_rfl
theorem ba_slot_init : Slot "bytearray" "__init__" "bytearray.__init__" :=
 .of (owner:="bytearray") (n:="__init__") (by rw [typeLookup_type, builtinLookup_eq_fast]; kernel_rfl) (by decide +kernel) (by decide +kernel) (by decide +kernel)
  (by first | exact .inl (by decide +kernel) | exact .inr (by decide +kernel)) (by rw [isSubtype_type]; kernel_rfl)
theorem ba_called : TypeCalled "bytearray" "bytearray.__new__" "bytearray.__init__" :=
 ⟨by decide +kernel, by decide +kernel, ⟨_, _, ba_mro⟩, madeBy_type ba_mro ba_lookup_new (by decide +kernel), by decide +kernel, by rw [isSubtype_type]; kernel_rfl, ba_slot_init⟩
theorem ba_typeCall : checkTypeCall "bytearray" ⟨[], []⟩ = pure ():=by kernel_rfl
theorem ba_newCall : checkBuiltinCall "bytearray.__new__" ⟨[.type "bytearray"], []⟩ = pure ():=by kernel_rfl
theorem ba_entry_new : entryFor table "bytearray.__new__" = some Builtin.«list.__new__»:=entryFor_alias (id':="list.__new__") (by kernel_rfl) (by decide +kernel) (by decide +kernel) (by kernel_rfl)
theorem ba_plain_new : plainId "bytearray.__new__" = true:=by decide +kernel
theorem ba_entry_init : entryFor table "bytearray.__init__" = some Builtin.«bytearray.__init__»:=by first | exact entryFor_of_fast (by kernel_rfl) | exact entryFor_of_tree (by kernel_rfl)
theorem ba_slot_append : Slot "bytearray" "append" "bytearray.append" :=
 .of (owner:="bytearray") (n:="append") (by rw [typeLookup_type, builtinLookup_eq_fast]; kernel_rfl) (by decide +kernel) (by decide +kernel) (by decide +kernel)
  (by first | exact .inl (by decide +kernel) | exact .inr (by decide +kernel)) (by rw [isSubtype_type]; kernel_rfl)
theorem ba_slot_extend : Slot "bytearray" "extend" "bytearray.extend" :=
 .of (owner:="bytearray") (n:="extend") (by rw [typeLookup_type, builtinLookup_eq_fast]; kernel_rfl) (by decide +kernel) (by decide +kernel) (by decide +kernel)
  (by first | exact .inl (by decide +kernel) | exact .inr (by decide +kernel)) (by rw [isSubtype_type]; kernel_rfl)
theorem ba_slot_len : Slot "bytearray" "__len__" "bytearray.__len__" :=
 .of (owner:="bytearray") (n:="__len__") (by rw [typeLookup_type, builtinLookup_eq_fast]; kernel_rfl) (by decide +kernel) (by decide +kernel) (by decide +kernel)
  (by first | exact .inl (by decide +kernel) | exact .inr (by decide +kernel)) (by rw [isSubtype_type]; kernel_rfl)
theorem ba_entry_append : entryFor table "bytearray.append" = some Builtin.«bytearray.append»:=by first | exact entryFor_of_fast (by kernel_rfl) | exact entryFor_of_tree (by kernel_rfl)
theorem ba_entry_extend : entryFor table "bytearray.extend" = some Builtin.«bytearray.extend»:=by first | exact entryFor_of_fast (by kernel_rfl) | exact entryFor_of_tree (by kernel_rfl)
theorem ba_entry_len : entryFor table "bytearray.__len__" = some Builtin.«bytearray.__len__»:=by first | exact entryFor_of_fast (by kernel_rfl) | exact entryFor_of_tree (by kernel_rfl)
theorem ba_type_append : typeOf (.builtin "bytearray.append") = pure (.type "method_descriptor"):=by show builtinType _ = _; rw [builtinType_eq_fast]; kernel_rfl
theorem ba_type_extend : typeOf (.builtin "bytearray.extend") = pure (.type "method_descriptor"):=by show builtinType _ = _; rw [builtinType_eq_fast]; kernel_rfl
theorem ba_args_append (a b : Value) : argsOk "bytearray.append" ⟨[a, b], []⟩:=by unfold argsOk; kernel_rfl
theorem ba_args_extend (a b : Value) : argsOk "bytearray.extend" ⟨[a, b], []⟩:=by unfold argsOk; kernel_rfl
theorem ba_args_len (a : Value) : argsOk "bytearray.__len__" ⟨[a], []⟩:=by unfold argsOk; kernel_rfl
theorem ba_release : typeLookup (.type "bytearray") "__release_buffer__" = pure (some (.builtin "bytearray.__release_buffer__")):=by rw [typeLookup_type, builtinLookup_eq_fast]; kernel_rfl
theorem ba_buffer : typeLookup (.type "bytearray") "__buffer__" = pure (some (.builtin "bytearray.__buffer__")):=by rw [typeLookup_type, builtinLookup_eq_fast]; kernel_rfl
theorem ba_no_bytes : typeLookup (.type "bytearray") "__bytes__" = pure none:=by rw [typeLookup_type, builtinLookup_eq_fast]; kernel_rfl
theorem ba_no_index : typeLookup (.type "bytearray") "__index__" = pure none:=by rw [typeLookup_type, builtinLookup_eq_fast]; kernel_rfl
theorem bs_buffer : typeLookup (.type "bytes") "__buffer__" = pure (some (.builtin "bytes.__buffer__")):=by rw [typeLookup_type, builtinLookup_eq_fast]; kernel_rfl
theorem ba_sub : isSubtype (.type "bytearray") (.type "bytearray") = pure true:=by rw [isSubtype_type]; kernel_rfl
theorem ba_bind : Builtin.Bytes.bindOptional "bytearray.__init__" "bytearray" ["source", "encoding", "errors"] [] [] = pure [none, none, none]:=by kernel_rfl
set_option maxRecDepth 1000000 in
set_option maxHeartbeats 4000000 in
theorem ba_owner : ("bytearray.__new__".splitOn ".__new__").headD "" = "bytearray":=by simp +decide [String.splitOn, String.splitOnAux]
theorem ba_plainAttrs : PlainAttrs "bytearray" :=
 ⟨⟨"bytearray.__getattribute__", by rw [typeLookup_type, builtinLookup_eq_fast]; kernel_rfl, by decide +kernel⟩, by rw [typeLookup_type, builtinLookup_eq_fast]; kernel_rfl⟩
theorem isGuard_b {id : String} {args : Args} (h : guardIds.contains id = true) (hg : (Code.builtin id args).isGuard = false) : False:=by
 have : (Code.builtin id args).isGuard = guardIds.contains id:=rfl
 rw [this, h] at hg
 cases hg
section
variable {M : Model} {prog : Program} {w : World} {A : Around} {E : Value -> Shared -> Prop} {s : Shared} {a : Addr} {b : List UInt8}
theorem dn5 {α : Type} {p1 p2 p3 p4 p5 : Prop} [Decidable p1] [Decidable p2] [Decidable p3] [Decidable p4] [Decidable p5] {t1 : p1 -> α} {t2 : ¬ p1 -> p2 -> α} {t3 : ¬ p1 -> ¬ p2 -> p3 -> α} {t4 : ¬ p1 -> ¬ p2 -> ¬ p3 -> p4 -> α} {t5 : ¬ p1 -> ¬ p2 -> ¬ p3 -> ¬ p4 -> p5 -> α} {e : α} (n1 : ¬ p1) (n2 : ¬ p2) (n3 : ¬ p3) (n4 : ¬ p4) (n5 : ¬ p5) :
  (dite p1 t1 fun h1 => dite p2 (t2 h1) fun h2 => dite p3 (t3 h1 h2) fun h3 => dite p4 (t4 h1 h2 h3) fun h4 => dite p5 (t5 h1 h2 h3 h4) fun _ => e) = e:=by rw [dif_neg n1, dif_neg n2, dif_neg n3, dif_neg n4, dif_neg n5]
theorem wpJ_exported {v : Value} {Q : Bool -> Shared -> Prop} (hg : A.guards = some []) (h : Q false s) : wpJ M A (Builtin.Bytes.exported v) Q E s:=fun Γ p hΓ h1 h2 => by
 show Sem.wp M Γ (stack >>= fun l => pure (l.any _)) _ _ p s
 unfold stack
 rw [Sem.wp_bind', Sem.wp_stack]
 show Q (List.any ((Γ.code, p) :: Γ.below) _) s
 suffices e : (List.any ((Γ.code, p) :: Γ.below) _) = false by rw [e]; exact h
 rw [List.any_eq_false]
 intro x hx
 have hd : nodec x.1 = true:=ndl_enter (p:=p) h1 h2 x hx
 have hgd : x.1.isGuard = false:=by
  cases hgx : x.1.isGuard with
  | false => rfl
  | true =>
   have e:=hΓ.2.2.2.1 [] hg
   have : Γ.code.guards ++ guardsOf Γ.below = guardsOf ((Γ.code, p) :: Γ.below):=(guardsOf_cons _ _ _).symm
   rw [this] at e
   have m : x.1 ∈ guardsOf ((Γ.code, p) :: Γ.below):=List.mem_filter.mpr ⟨List.mem_map.mpr ⟨x, hx, rfl⟩, hgx⟩
   rw [e] at m
   cases m
 obtain ⟨c, q⟩:=x
 cases c with
 | builtin id args =>
  obtain ⟨pos, kw⟩:=args
  have n1 : ¬ id = "bytearray.__contains__":=fun e => isGuard_b (args:=⟨pos, kw⟩) (by decide +kernel) (e ▸ hgd)
  have n2 : ¬ id = "bytearray.__mod__":=fun e => isGuard_b (args:=⟨pos, kw⟩) (by decide +kernel) (e ▸ hgd)
  have n3 : ¬ id = "bytearray.__rmod__":=fun e => isGuard_b (args:=⟨pos, kw⟩) (by decide +kernel) (e ▸ hgd)
  have n4 : ¬ id = "_struct.pack_into.held":=fun e => isGuard_b (args:=⟨pos, kw⟩) (by decide +kernel) (e ▸ hgd)
  have n5 : ¬ id = "bytearray.find.held":=fun e => isGuard_b (args:=⟨pos, kw⟩) (by decide +kernel) (e ▸ hgd)
  have h0 : (Builtin.Bytes.decodersThatHold.contains id) = false:=by
   have : (!(Builtin.Bytes.decodersThatHold.contains id)) = true:=hd
   rwa [Bool.not_eq_true'] at this
  cases pos with
  | nil =>
   delta Builtin.Bytes.exported.match_1 Builtin.Bytes.exported._sparseCasesOn_1
   dsimp only
   rw [dn5 n1 n2 n3 n4 n5]
   exact Bool.false_ne_true
  | cons u r =>
   delta Builtin.Bytes.exported.match_1 Builtin.Bytes.exported._sparseCasesOn_1
   dsimp only
   rw [dn5 n1 n2 n3 n4 n5]
   show ¬ ((Builtin.Bytes.sameRef u v && Builtin.Bytes.decodersThatHold.contains id) = true)
   rw [h0, Bool.and_false]
   exact Bool.false_ne_true
 | _ => exact Bool.false_ne_true
end
section
variable {M : Model} {prog : Program} {w : World} {A : Around} {E : Value -> Shared -> Prop} {s : Shared} {a : Addr} {b : List UInt8}
noncomputable abbrev BaAt (h : Heap) (a : Addr) (b : List UInt8) : Prop:=h.get? a = some (barrO b)
theorem BaAt.typeIs {b : List UInt8} (h : BaAt s.heap a b) : s.TypeIs (.ref a) "bytearray":=⟨_, h, rfl⟩
theorem wpJ_checkResize {v : Value} {Q : Unit -> Shared -> Prop} (hg : A.guards = some []) (hv : v = .ref a) (ha : BaAt s.heap a b) (h : Q () s) : wpJ M A (Builtin.Bytes.checkResize v) Q E s:=by
 subst hv
 unfold Builtin.Bytes.checkResize
 refine wpJ_bind (m:=Builtin.Bytes.exported (.ref a) <||> (do return (<- Builtin.Bytes.exportsOf (.ref a)) > 0)) ?_
 refine wpJ_bind (wpJ_exported hg ?_)
 refine wpJ_seq (m:=Builtin.Bytes.exportsOf (.ref a)) (wpAny_bind (wpAny_load ha (wpAny_pure ?_)))
 refine wpJ_pure ?_
 exact wpJ_pure h
theorem wpAny_write {f : Array UInt8 -> Array UInt8} {Q : Unit -> Shared -> Prop} (ha : BaAt s.heap a b) (hz : (f b.toArray).size <= sizeLine) (h : Q () { s with heap:=s.heap.update a (Obj.mapBytearray f) }) :
  wpAny M A (Builtin.Bytes.write (.ref a) f) Q E s:=by
 show wpAny _ _ (updateBytearray a f) _ _ _
 unfold updateBytearray
 refine wpAny_bind (wpAny_load ha ?_)
 show wpAny _ _ (update a (Obj.mapBytearray f) >>= fun _ => lookBehind a) _ _ _
 refine wpAny_bind (wpAny_update ha ?_)
 refine wpAny_lookBehind (o:={ cls:=.type "bytearray", data:=.bytearray (f b.toArray) 0 }) (Heap.get?_update_self (Obj.mapBytearray f) ha rfl) ?_ h
 show (if (f b.toArray).size > sizeLine then some "bytearray:memory" else none) = none
 rw [if_neg (by omega)]
theorem wpAny_byteValue {k : Int} {t : Tok} {Q : UInt8 -> Shared -> Prop} (h0 : 0 <= k) (h1 : k < 256) (h : Q k.toNat.toUInt8 s) : wpAny M A (Builtin.Bytes.byteValue (.int k t)) Q E s:=by
 unfold Builtin.Bytes.byteValue
 refine wpAny_bind (wpAny_of_eq (rfl : asIndex (.int k t) = pure k) ?_)
 refine bm_if_false (by simp only [Bool.or_eq_false_iff, decide_eq_false_iff_not]; omega) ?_
 exact wpAny_pure h
theorem callJ_builtin {id : String} {bi : Builtin} {T : String} {name : Str} {self : Value} {rest : List Value} {Q : Value -> Shared -> Prop} (slot : Slot T name id) (hT : s.TypeIs self T) (he : entryFor table id = some bi) (ha : argsOk id ⟨self :: rest, []⟩)
  (hn : Builtin.Bytes.decodersThatHold.contains id = false)
  (h : wpJ (model prog w) A.in1 (bi ⟨self :: rest, []⟩) (fun fin s' => match fin with | .done f => RC Q E (.ok f) s' | .again c' => c'.quiet = true /\ codeJ (model prog w) A c' (RC Q E) s') E s) :
  wpJ (model prog w) A (call (.builtin id) (self :: rest)) Q E s:=by
 refine wpJ_call (codeJ_mono (R:=RC Q E) (codeJ_call_builtin (nodec_b hn) (plainId_quiet slot.plain _) he (slot.check _ _ _ _ _ _ _ _ hT ha ?_)) fun r s' z => z)
 rw [Around.under_plainId slot.plain _]
 exact h
theorem wpJ_iteF {α : Type} {c : Prop} [Decidable c] {x y : Sem α} {Q : α -> Shared -> Prop} (hc : ¬ c) (h : wpJ M A y Q E s) : wpJ M A (if c then x else y) Q E s:=by rw [if_neg hc]; exact h
theorem wpJ_iteT {α : Type} {c : Prop} [Decidable c] {x y : Sem α} {Q : α -> Shared -> Prop} (hc : c) (h : wpJ M A x Q E s) : wpJ M A (if c then x else y) Q E s:=by rw [if_pos hc]; exact h
theorem code_ba_new {Q₁ : Value -> Shared -> Prop} (h : Q₁ (.ref s.heap.objs.size) { s with heap:=s.heap.push (barrO []) }) :
  codeAny (model prog w) A (.call (.builtin "bytearray.__new__") ⟨[.type "bytearray"], []⟩) (wants Q₁ E) s:=by
 refine codeAny_of_tree ?_
 show wpAny _ A.in1 (do checkBuiltinCall "bytearray.__new__" ⟨[.type "bytearray"], []⟩; again (.builtin "bytearray.__new__" ⟨[.type "bytearray"], []⟩)) _ _ s
 refine wpAny_bind (wpAny_of_eq ba_newCall (wpAny_pure ⟨plainId_quiet ba_plain_new _, codeAny_builtin_stack ba_entry_new rfl fun p st => ?_⟩))
 rw [Around.under_plainId ba_plain_new _]
 have hsub:=ba_sub
 have hown:=ba_owner
 obtain ⟨hp, g, d, tk, os⟩:=s
 simp only [hown]
 wp_walk
 exact h
theorem ba_ends : ("bytearray.__release_buffer__".endsWith ("." ++ "__release_buffer__")) = true:=by decide +kernel
theorem ba_drop : "bytearray.__release_buffer__".dropRight ("__release_buffer__".length + 1) = "bytearray":=by decide +kernel
theorem wpAny_ownRelease {v : Value} {Q : Bool -> Shared -> Prop} (hT : s.TypeIs v "bytearray") (h : Q false s) : wpAny M A (Builtin.Bytes.ownRelease v) Q E s:=by
 unfold Builtin.Bytes.ownRelease
 refine wpAny_bind ?_
 unfold Builtin.Bytes.slotIsOwn
 refine wpAny_bind (wpAny_specialOf hT ba_release ?_)
 dsimp only
 rw [ba_ends, ba_drop]
 simp only [Bool.not_true, Bool.false_eq_true, if_false]
 exact wpAny_isInstance hT ba_sub (wpAny_pure h)
theorem call_barr {Q : Value -> Shared -> Prop} (hg : A.guards = some [])
  (h : ∀ h', (∀ b o, s.heap.get? b = some o -> h'.get? b = some o) -> BaAt h' s.heap.objs.size [] -> Q (.ref s.heap.objs.size) { s with heap:=h' }) : wpJ (model prog w) A (call (.type "bytearray") []) Q E s:=by
 obtain ⟨c, tl, hmro⟩:=ba_called.mro
 have hmade:=ba_called.made
 have hsub:=ba_called.sub
 refine wpJ_call (codeJ_mono (R:=RC Q E) (codeJ_of_tree rfl ?_) fun r s' z => z)
 show wpJ _ _ (callAny (.type "bytearray") _) _ _ _
 refine wpJ_pure ⟨Code.quiet_builtin _ (by decide +kernel), codeJ_builtin (nodec_b (by decide +kernel)) F.entry_type_call ?_⟩
 rw [Around.under_plain (weight_type_call_type "bytearray" [] []) rfl]
 unfold Builtin.«type.__call__»
 dsimp only
 have h1:=ba_called.notType
 have h2:=ba_called.canCreate
 simp only [h1, Bool.false_eq_true, if_false]
 refine wpJ_iteF (fun q => Bool.false_ne_true (h2.symm.trans q)) ?_
 refine wpJ_seq (wpAny_of_eq ba_typeCall ?_)
 refine wpJ_seq (wpAny_of_eq hmro ?_)
 refine wpJ_iteF (by simp) ?_
 refine wpJ_seq (wpAny_of_eq hmade ?_)
 dsimp only
 refine wpJ_seq (wpAny_pure ?_)
 refine wpJ_seq (wpAny_holding (wpAny_call (codeAny_mono (code_ba_new (E:=E) (Q₁:=fun v s1 => v = .ref s.heap.objs.size /\ s1 = { s with heap:=s.heap.push (barrO []) }) ⟨rfl, rfl⟩) fun r s' z => ?_)))
 rcases r with e | (v | _ | _ | _) <;> first | exact z | exact z.elim | skip
 obtain ⟨rfl, rfl⟩:=z
 have hb : BaAt (s.heap.push (barrO [])) s.heap.objs.size []:=Heap.get?_push_size _ rfl
 have hT : ({ s with heap:=s.heap.push (barrO []) } : Shared).TypeIs (.ref s.heap.objs.size) "bytearray":=⟨_, hb, rfl⟩
 refine wpJ_seq (wpAny_isInstance hT hsub ?_)
 refine wpJ_iteF (by simp) ?_
 refine wpJ_bind (wpJ_holding ?_)
 unfold callSpecial?
 refine wpJ_seq (wpAny_specialOf hT ba_slot_init.lookup ?_)
 dsimp only
 refine wpJ_holding ?_
 refine wpJ_seq (wpAny_of_eq (ba_slot_init.bind _) ?_)
 dsimp only
 refine wpJ_bind (callJ_builtin ba_slot_init hT ba_entry_init (by unfold argsOk; kernel_rfl) (by decide +kernel) ?_)
 unfold Builtin.«bytearray.__init__»
 dsimp only
 refine wpJ_seq (wpAny_ownRelease hT ?_)
 refine wpJ_iteF (by simp) ?_
 refine wpJ_seq (wpAny_of_eq ba_bind ?_)
 dsimp only
 refine wpJ_seq (m:=Builtin.Bytes.checkCodecArg "bytearray.__init__" "bytearray" "encoding" none) (wpAny_of_eq (a:=()) rfl ?_)
 refine wpJ_seq (m:=Builtin.Bytes.checkCodecArg "bytearray.__init__" "bytearray" "errors" none) (wpAny_of_eq (a:=()) rfl ?_)
 refine wpJ_bind (m:=Builtin.Bytes.exported (.ref s.heap.objs.size) <||> (do return (<- Builtin.Bytes.exportsOf (.ref s.heap.objs.size)) > 0)) ?_
 refine wpJ_bind (wpJ_exported hg ?_)
 refine wpJ_seq (m:=Builtin.Bytes.exportsOf (.ref s.heap.objs.size)) (wpAny_bind (wpAny_load hb (wpAny_pure ?_)))
 refine wpJ_pure ?_
 refine wpJ_iteF (by simp) ?_
 refine wpJ_seq (wpAny_write hb (Nat.zero_le _) ?_)
 refine wpJ_seq (m:=(do if false then PySem.rule "bytearray.__init__.encoding-without-str"; raiseError "TypeError" "encoding without a string argument" : Sem Unit)) (wpAny_pure ?_)
 refine wpJ_pure ?_
 refine wpJ_pure (wpJ_pure ?_)
 show Q _ _
 refine h _ (fun b o e => ?_) (Heap.get?_update_self (Obj.mapBytearray fun _ => #[]) hb rfl)
 exact (Heap.get?_update_other _ _ (Nat.ne_of_lt (Heap.lt_size e)).symm).trans (Heap.get?_push_of_some _ e)
theorem call_append {k : Int} {t : Tok} {Q : Value -> Shared -> Prop} (hg : A.guards = some []) (ha : BaAt s.heap a b) (h0 : 0 <= k) (h1 : k < 256) (hz : b.length + 1 <= sizeLine)
  (h : Q .none { s with heap:=s.heap.update a (Obj.mapBytearray (·.push k.toNat.toUInt8)) }) : wpJ (model prog w) A (call (.builtin "bytearray.append") [.ref a, .int k t]) Q E s:=by
 refine callJ_builtin ba_slot_append ha.typeIs ba_entry_append (ba_args_append _ _) (by decide +kernel) ?_
 unfold Builtin.«bytearray.append»
 refine wpJ_seq (wpAny_of_eq (a:=(Value.ref a, Value.int k t)) rfl ?_)
 dsimp only
 refine wpJ_seq (wpAny_byteValue h0 h1 ?_)
 refine wpJ_bind (wpJ_checkResize hg rfl ha ?_)
 refine wpJ_seq (wpAny_write ha (by rw [Array.size_push, List.size_toArray]; omega) ?_)
 exact wpJ_pure h
theorem buffer_full {id : String} {c : Array UInt8} {t : Tok} {full : Bool} : Builtin.Bytes.buffer? id (.bytes c t) full = pure (some c):=by
 unfold Builtin.Bytes.buffer?
 rw [KBy.special_eq KBy.look_buffer, KBy.own_buffer, KBy.own_release]
 kernel_rfl
theorem takeBuf_eq {id : String} {c : Array UInt8} {t : Tok} : Builtin.Bytes.takeBufferQuiet? id (.bytes c t) 0 = pure (some (c, none)):=by
 unfold Builtin.Bytes.takeBufferQuiet? Builtin.Bytes.takeBuffer?
 rw [KBy.special_eq KBy.look_buffer, KBy.own_buffer, buffer_full]
 rfl
theorem call_extend {c : List UInt8} {t : Tok} {Q : Value -> Shared -> Prop} (hg : A.guards = some []) (ha : BaAt s.heap a b) (hz : b.length + c.length <= sizeLine)
  (h : Q .none { s with heap:=s.heap.update a (Obj.mapBytearray (· ++ c.toArray)) }) : wpJ (model prog w) A (call (.builtin "bytearray.extend") [.ref a, .bytes c.toArray t]) Q E s:=by
 refine callJ_builtin ba_slot_extend ha.typeIs ba_entry_extend (ba_args_extend _ _) (by decide +kernel) ?_
 unfold Builtin.«bytearray.extend»
 have hT : s.TypeIs (.bytes c.toArray t) "bytes":=rfl
 refine wpJ_seq (wpAny_of_eq (a:=(Value.ref a, Value.bytes c.toArray t)) rfl ?_)
 dsimp only
 refine wpJ_seq (wpAny_specialOf hT bs_buffer ?_)
 refine wpJ_iteT (by simp) ?_
 refine wpJ_seq (wpAny_rule ?_)
 refine wpJ_seq (m:=Builtin.Bytes.payload (.ref a)) (wpAny_bind (wpAny_bind (wpAny_load ha (wpAny_pure (wpAny_pure ?_)))))
 refine wpJ_seq (wpAny_of_eq takeBuf_eq ?_)
 dsimp only
 refine wpJ_iteT (by simp) ?_
 refine wpJ_eq (t':=if (!c.toArray.isEmpty) = true then (Builtin.Bytes.checkResize (.ref a) >>= fun _ => (Builtin.Bytes.write (.ref a) (· ++ c.toArray) >>= fun _ => PySem.ret .none)) else (Builtin.Bytes.write (.ref a) (· ++ c.toArray) >>= fun _ => PySem.ret .none)) rfl ?_
 have tail : wpJ (model prog w) A.in1 (Builtin.Bytes.write (.ref a) (· ++ c.toArray) >>= fun _ => PySem.ret .none) (fun fin s' => match fin with | .done f => RC Q E (.ok f) s' | .again c' => c'.quiet = true /\ codeJ (model prog w) A c' (RC Q E) s') E s :=
  wpJ_seq (wpAny_write ha (by rw [Array.size_append, List.size_toArray, List.size_toArray]; omega) (wpJ_pure h))
 cases c.toArray.isEmpty with
 | false => exact wpJ_iteT rfl (wpJ_bind (wpJ_checkResize hg rfl ha tail))
 | true => exact wpJ_iteF (by simp) tail
theorem own_buffer_ba : s.TypeIs (.ref a) "bytearray" -> ∀ {Q : Bool -> Shared -> Prop}, Q true s -> wpAny M A (Builtin.Bytes.slotIsOwn (.ref a) "__buffer__") Q E s:=fun hT {Q} h => by
 unfold Builtin.Bytes.slotIsOwn
 refine wpAny_bind (wpAny_specialOf hT ba_buffer ?_)
 dsimp only
 rw [show ("bytearray.__buffer__".endsWith ("." ++ "__buffer__")) = true by decide +kernel, show "bytearray.__buffer__".dropRight ("__buffer__".length + 1) = "bytearray" by decide +kernel]
 simp only [Bool.not_true, Bool.false_eq_true, if_false]
 exact wpAny_isInstance hT ba_sub h
theorem buffer_ba {id : String} {full : Bool} {Q : Option (Array UInt8) -> Shared -> Prop} (ha : BaAt s.heap a b) (h : Q (some b.toArray) s) : wpAny M A (Builtin.Bytes.buffer? id (.ref a) full) Q E s:=by
 unfold Builtin.Bytes.buffer?
 refine wpAny_bind (wpAny_specialOf ha.typeIs ba_buffer ?_)
 (try dsimp only)
 refine wpAny_bind (own_buffer_ba ha.typeIs ?_)
 simp only [Bool.not_true, Bool.false_eq_true, if_false]
 refine wpAny_bind (wpAny_specialOf ha.typeIs ba_buffer ?_)
 (try dsimp only)
 refine wpAny_bind (wpAny_ownRelease ha.typeIs ?_)
 simp only [Bool.false_eq_true, if_false]
 exact wpAny_bind (wpAny_bind (wpAny_bind (wpAny_load ha (wpAny_pure (wpAny_pure (wpAny_pure h))))))
end
theorem bs_bytes : typeLookup (.type "bytes") "__bytes__" = pure (some (.builtin "bytes.__bytes__")):=by rw [typeLookup_type, builtinLookup_eq_fast]; kernel_rfl
section
variable {M : Model} {prog : Program} {w : World} {A : Around} {E : Value -> Shared -> Prop} {s : Shared} {a : Addr} {b : List UInt8}
theorem bytes_new_ba {Q : Value -> Shared -> Prop} (ha : BaAt s.heap a b) (hz : b.length <= sizeLine) (h : ∀ t k, Q (.bytes b.toArray t) { s with toks:=k }) :
  codeAny (model prog w) A (.call (.builtin "bytes.__new__") ⟨[.type "bytes", .ref a], []⟩) (wants Q E) s:=by
 refine codeAny_of_tree ?_
 show wpAny _ A.in1 (do checkBuiltinCall "bytes.__new__" ⟨[.type "bytes", .ref a], []⟩; again (.builtin "bytes.__new__" ⟨[.type "bytes", .ref a], []⟩)) _ _ s
 refine wpAny_bind (wpAny_of_eq (F.bm_newCall _) (wpAny_pure ⟨plainId_quiet F.bm_plain _, codeAny_builtin F.bm_entry ?_⟩))
 rw [Around.under_plainId F.bm_plain _]
 have hT : s.TypeIs (.ref a) "bytearray":=ha.typeIs
 unfold Builtin.«bytes.__new__»
 refine wpAny_bind (wpAny_of_eq (a:=true) rfl ?_)
 refine bm_if_false rfl ?_
 refine wpAny_bind (wpAny_of_eq F.bm_sub ?_)
 refine bm_if_false rfl ?_
 refine wpAny_bind (wpAny_of_eq (F.bm_bind _) ?_)
 refine wpAny_bind (wpAny_of_eq (a:=()) rfl ?_)
 refine wpAny_bind (wpAny_of_eq (a:=()) rfl ?_)
 refine bm_if_false rfl ?_
 refine wpAny_bind (wpAny_specialOf hT ba_no_bytes ?_)
 refine wpAny_bind (wpAny_bind ?_)
 show wpAny _ _ (load a >>= _) _ _ _
 refine wpAny_bind (wpAny_load ha ?_)
 refine wpAny_pure (wpAny_pure ?_)
 refine bm_if_false rfl ?_
 refine wpAny_bind (wpAny_specialOf hT ba_no_index ?_)
 refine bm_if_true rfl ?_
 first
  | show wpAny _ _ (Builtin.Bytes.buffer? "bytes.__new__" (.ref a) true >>= _) _ _ _
  | (refine wpAny_bind ?_; show wpAny _ _ (Builtin.Bytes.buffer? "bytes.__new__" (.ref a) true >>= _) _ _ _)
 refine wpAny_bind (buffer_ba ha ?_)
 refine wpAny_bind (wpAny_rule ?_)
 refine wpAny_bind (wpAny_mkBytes ?_ (by rw [List.size_toArray]; exact hz))
 refine bm_if_true (by decide) ?_
 exact wpAny_pure (h _ _)
theorem bytes_new_bs {c : Array UInt8} {t : Tok} {Q : Value -> Shared -> Prop} (h : Q (.bytes c t) s) :
  codeAny (model prog w) A (.call (.builtin "bytes.__new__") ⟨[.type "bytes", .bytes c t], []⟩) (wants Q E) s:=by
 refine codeAny_of_tree ?_
 show wpAny _ A.in1 (do checkBuiltinCall "bytes.__new__" ⟨[.type "bytes", .bytes c t], []⟩; again (.builtin "bytes.__new__" ⟨[.type "bytes", .bytes c t], []⟩)) _ _ s
 refine wpAny_bind (wpAny_of_eq (F.bm_newCall _) (wpAny_pure ⟨plainId_quiet F.bm_plain _, codeAny_builtin F.bm_entry ?_⟩))
 rw [Around.under_plainId F.bm_plain _]
 have hT : s.TypeIs (.bytes c t) "bytes":=rfl
 unfold Builtin.«bytes.__new__»
 refine wpAny_bind (wpAny_of_eq (a:=true) rfl ?_)
 refine bm_if_false rfl ?_
 refine wpAny_bind (wpAny_of_eq F.bm_sub ?_)
 refine bm_if_false rfl ?_
 refine wpAny_bind (wpAny_of_eq (F.bm_bind _) ?_)
 refine wpAny_bind (wpAny_of_eq (a:=()) rfl ?_)
 refine wpAny_bind (wpAny_of_eq (a:=()) rfl ?_)
 refine bm_if_false rfl ?_
 refine wpAny_bind (wpAny_specialOf hT bs_bytes ?_)
 refine wpAny_bind (wpAny_rule ?_)
 refine wpAny_bind (wpAny_typeOf hT ?_)
 refine bm_if_true (by decide) ?_
 first
  | exact bm_if_true (by decide) (wpAny_pure h)
  | (show wpAny _ _ (if (Value.type "bytes" == Value.type "bytes") = true then PySem.ret (Value.bytes c t) else _) _ _ _; exact bm_if_true (by decide) (wpAny_pure h))
theorem call_bytes_ba {Q : Value -> Shared -> Prop} (ha : BaAt s.heap a b) (hz : b.length <= sizeLine) (hQ : ∀ t k, Q (.bytes b.toArray t) { s with toks:=k }) : wpAny (model prog w) A (call (.type "bytes") [.ref a]) Q E s:=by
 refine callType_codes (Q₁:=fun obj s₁ => s₁.TypeIs obj "bytes" /\ Q obj s₁) F.bm_called (F.bm_typeCall _) F.entry_object_init
  (bytes_new_ba ha hz fun t k => ⟨PySem.W.typeIs_bytes _ _ _, hQ t k⟩) fun obj s₁ h₁ => ?_
 exact ⟨h₁.1, F.args_object_init_2 obj _, object_init_meets F.bm_called.init.lookup F.bm_called.made (by decide) prog w A.in1 _ s₁ ⟨h₁.1, rfl, h₁.2⟩⟩
theorem call_bytes_bs {c : Array UInt8} {t : Tok} {Q : Value -> Shared -> Prop} (hQ : Q (.bytes c t) s) : wpAny (model prog w) A (call (.type "bytes") [.bytes c t]) Q E s:=by
 refine callType_codes (Q₁:=fun obj s₁ => s₁.TypeIs obj "bytes" /\ Q obj s₁) F.bm_called (F.bm_typeCall _) F.entry_object_init
  (bytes_new_bs ⟨PySem.W.typeIs_bytes _ _ _, hQ⟩) fun obj s₁ h₁ => ?_
 exact ⟨h₁.1, F.args_object_init_2 obj _, object_init_meets F.bm_called.init.lookup F.bm_called.made (by decide) prog w A.in1 _ s₁ ⟨h₁.1, rfl, h₁.2⟩⟩
end
section
variable {X : Cx} {n : Nat} {F : FnC} {L : Addr} {cl : List (Str × Addr)} {O : Outer} {w : Wd} {σ : AS} {s : Shared} {A : Around} {env : Env} {Er : Value -> Shared -> Prop}
theorem intsAre_of : ∀ {vs : List PV} {ns : List Int} {B : Heap} {fz : Led} {al : Nat -> Addr} {n : Nat} {xs : List Value}, allInts vs = some ns -> VRs B fz al n vs xs -> IntsAre xs ns
 | [], ns, _, _, _, _, _, e, .nil => by cases e; exact .nil
 | v :: r, ns, _, _, _, _, _, e, .cons h1 h2 => by
  cases h1 <;> first | (cases e; done) | skip
  unfold allInts at e
  obtain ⟨ms, e1, rfl⟩:=Option.map_eq_some_iff.mp e
  exact .cons _ _ (intsAre_of e1 h2)
theorem fun_bytes (hn : 1 <= n) : FunS X n F (.type "bytes") 1 (un bytesM):=fun_un fun A L cl O w σ s v x Q Er hA hS hv hP => by
 have hh : A.handled = none:=hA.hd.resolve_right (by omega)
 induction hv using VR_cases with
 | byt b t => exact call_bytes_bs (hP _ _ _ hS .refl (.byt _ _))
 | ref i hi =>
  unfold bytesM at hP
  dsimp only at hP
  split at hP
  ·rename_i bs hm
   split at hP
   ·rename_i hz
    exact call_bytes_ba (hS.nw _ (mem_mo (hS.barrAt hi hm))).1 (yL hz lineSz_le) fun t k => hP _ _ _ (hS.tk _) .refl (.byt _ _)
   ·exact hP.elim
  ·rename_i vs hm
   split at hP
   ·rename_i bs e
    split at hP
    ·rename_i hz
     obtain ⟨ns, e1, e2, rfl⟩:=toBytes_some e
     obtain ⟨xs, k, hx, hvs⟩:=hS.listAt hi hm
     have hI:=intsAre_of e1 hvs
     refine call_bytes_ints (hS.isList hx) hI e2 (by rw [hI.length]; rw [yG] at hz; exact yL hz lineSz_le) hh fun h' t k hk => hP _ _ _ (hS.keepsH k hk) .refl ?_
     have : byteArr ns = (ns.map fun n => n.toNat.toUInt8).toArray:=rfl
     rw [this]
     exact .byt _ _
    ·exact hP.elim
   ·exact hP.elim
  ·exact hP.elim
 | _ => exact hP.elim
end
section
variable {X : Cx} {n : Nat} {F : FnC} {L : Addr} {cl : List (Str × Addr)} {O : Outer} {w : Wd} {σ : AS} {s : Shared} {A : Around} {env : Env} {Er : Value -> Shared -> Prop}
theorem isListM_inv {α β : Type} {R : Wd -> Nat -> α -> β -> Prop} {n₀ : Nat} {v : PV} {f : Unit -> M α} {Q : β -> Shared -> Prop} (h : Post X F L cl O R w n₀ (bnd (isListM v) f σ) Q Er) : ∃ i vs, v = .ref i /\ σ.mem i = .list vs /\ Post X F L cl O R w n₀ (f () σ) Q Er:=by
 unfold bnd isListM at h
 cases v <;> try exact h.elim
 rename_i i
 cases e : σ.mem i <;> simp only [e] at h <;> try exact h.elim
 exact ⟨i, _, rfl, e, h⟩
theorem isBarrM_inv {α β : Type} {R : Wd -> Nat -> α -> β -> Prop} {n₀ : Nat} {v : PV} {f : Unit -> M α} {Q : β -> Shared -> Prop} (h : Post X F L cl O R w n₀ (bnd (isBarrM v) f σ) Q Er) : ∃ i vs, v = .ref i /\ σ.mem i = .barr vs /\ Post X F L cl O R w n₀ (f () σ) Q Er:=by
 unfold bnd isBarrM at h
 cases v <;> try exact h.elim
 rename_i i
 cases e : σ.mem i <;> simp only [e] at h <;> try exact h.elim
 exact ⟨i, _, rfl, e, h⟩
theorem St.objTurn (S : St X F L cl O w σ s) {i : Nat} {o o' : Obj} {ao : AO} {h' : Heap} (t : Nat) (hi : i < σ.nxt) (hx : (w.al i, o) ∈ w.mo) (hs : Heap.SameBut (w.al i) s.heap h') (hg : h'.get? (w.al i) = some o')
  (ho : OR X.B w.fz w.al σ.nxt (setK (w.al i) o' w.mo) ao (w.al i) (w.be i)) :
  St X F L cl O { w with mo:=setK (w.al i) o' w.mo } ⟨σ.loc, upd σ.mem i ao, σ.nxt⟩ { s with heap:=h', toks:=t }:=by
 have zz:=S.nw _ (mem_mo hx)
 have U:=S.pu.updP (o':=o') hx
 refine ⟨S.pu.setObj hi (.inl rfl) (S.pu.adr i hi).1 ho, S.fr.change hs zz.2.1 zz.2.2, fun p hp => ?_, S.gens, S.os⟩
 refine yN fun hgl => ?_
 obtain ⟨pre, post, e1, e2, a, b⟩:=U.split
 refine hgl ?_; clear hgl
 have N1:=S.nw
 rw [e1] at N1
 rw [e2] at hp
 rcases List.mem_append.mp hp with hp | hp
 ·have:=N1 p (List.mem_append_left _ hp)
  refine ⟨?_, this.2⟩
  rw [<- this.1]
  exact hs.2 p.1 (a p hp)
 ·rcases List.mem_cons.mp hp with rfl | hp
  ·exact ⟨hg, zz.2⟩
  ·have:=N1 p (List.mem_append_right _ (.tail _ hp))
   refine ⟨?_, this.2⟩
   rw [<- this.1]
   exact hs.2 p.1 (b p hp)
theorem appendL_ok (S : St X F L cl O w σ s) {v y : PV} {x z : Value} {Q : Value -> Shared -> Prop} (hv : VRw X w σ.nxt v x) (hy : VRw X w σ.nxt y z) (hP : Post X F L cl O (VRw X) w σ.nxt (appendLM v y σ) Q Er) :
  wpAny (model X.prog X.w) A (call (.builtin "list.append") [x, z]) Q Er s:=by
 unfold appendLM at hP
 induction hv using VR_cases with
 | ref i hi =>
  dsimp only at hP
  split at hP
  ·rename_i vs hm
   split at hP
   ·rename_i hz
    obtain ⟨xs, k, hx, hvs⟩:=S.listAt hi hm
    have hl:=hvs.length
    have hline:=lineSz_le
    have ho:=(S.nw _ (mem_mo hx)).1
    refine wpAny_call_entry slot_list_append (S.isList hx).typeIs entry_list_append ?_ (args_list_append _ _)
    show wpAny _ _ (updateSeq (w.al i) (·.push z) >>= fun _ => PySem.ret .none) _ _ s
    refine wpAny_bind ?_
    refine wpAny_updateSeq ho rfl (wpAny_pure ⟨.none, rfl, ?_⟩) (by rw [List.size_toArray]; omega)
    have e0 : xs.toArray.push z = (xs ++ [z]).toArray:=by simp
    have e : ∃ k', Obj.mapSeq (·.push z) (W.listOf xs.toArray k) = W.listOf (xs ++ [z]).toArray k':=⟨_, by
     show ({ cls:=.type "list", data:=.seq (xs.toArray.push z) _ } : Obj) = _
     rw [e0]⟩
    obtain ⟨k', e⟩:=e
    have hg : (s.heap.update (w.al i) (Obj.mapSeq (·.push z))).get? (w.al i) = some (W.listOf (xs ++ [z]).toArray k'):=by
     rw [<- e]; exact Heap.get?_update_self _ ho rfl
    exact hP _ _ _ (S.objTurn s.toks hi hx (Heap.SameBut.update ..) hg ⟨_, _, mem_setK_self hx, VRs.append hvs (.cons hy .nil)⟩) (.same rfl rfl rfl) .none
   ·exact hP.elim
  ·exact hP.elim
 | _ => exact hP.elim
theorem se_appendL {o e : Expr} {ap pos : Pos} {co ce : M PV} {pl : Env -> Sem Bool} (ho : SE X n F o co) (h : SE X n F e ce) (hse : ∀ env, starEach [e] env = [(false, eval e env)])
  (he : ∀ env, eval (.Call (.Attribute o "append" ap) [e] [] pos) env = (do
   let ov <- eval o env
   standAt ap.atName
   let (f, first) <- holding [ov] (getMethod ov "append" (pl env))
   callWith pos f first (backTo pos (starEach [e] env)) [])) : SE X n F (.Call (.Attribute o "append" ap) [e] [] pos) (eAppendL co ce):=fun A L cl O w σ s Q Er hA hS hP =>
 MethodCall_ (pl:=pl (F.env L cl)) (ho A L cl O w σ s _ _ hA hS (hP.bind fun v σ1 x w1 s1 _ S1 E1 V1 P1 => by
  refine yN fun hgl => ?_
  obtain ⟨i, vs, rfl, hm, P1⟩:=isListM_inv P1
  refine hgl ?_; clear hgl
  cases V1 with
  | ref _ hi =>
   refine yN fun hgl => ?_
   obtain ⟨xs, k, hx, hvs⟩:=S1.listAt hi hm
   refine hgl ?_; clear hgl
   refine listMethod_K S1.nw (mem_mo hx) PySem.F.slot_list_append PySem.F.type_list_append ?_
   refine args_builtin (pla1 hse _ _) (zc h zn hse pos A L cl O w1 σ1 s1 _ _ hA S1 ?_)
   have P2 : Post X F L cl O (VRw X) w1 σ1.nxt (bnd (evs [ce]) (fun us => appendLM (.ref i) (us.headD .none)) σ1) Q Er:=by
    unfold evs bnd ret
    unfold bnd at P1
    cases e1 : ce σ1 with
    | ok u σ2 => rw [e1] at P1; exact P1
    | exc C σ2 => rw [e1] at P1; exact P1
    | stuck => rw [e1] at P1; exact P1
   refine P2.bind fun us σ2 ys w2 s2 e2 S2 E2 V2 P3 => ?_
   have hl:=evs_length e2
   cases V2 with
   | nil => cases hl
   | cons h1 h2 =>
    cases h2 with
    | nil => exact appendL_ok S2 (VR.mono E2.toGrow (.ref i hi)) h1 P3
    | cons => cases hl)) (he _)
theorem appendB_ok (hg : A.guards = some []) (S : St X F L cl O w σ s) {v y : PV} {x z : Value} {Q : Value -> Shared -> Prop} (hv : VRw X w σ.nxt v x) (hy : VRw X w σ.nxt y z) (hP : Post X F L cl O (VRw X) w σ.nxt (appendBM v y σ) Q Er) :
  wpJ (model X.prog X.w) A (call (.builtin "bytearray.append") [x, z]) Q Er s:=by
 unfold appendBM at hP
 induction hv using VR_cases with
 | ref i hi =>
  dsimp only at hP
  split at hP
  ·rename_i bs hm
   induction hy using VR_cases with
   | int k t =>
    dsimp only at hP
    split at hP
    ·rename_i hz
     have hx:=S.barrAt hi hm
     have hline:=lineSz_le
     refine call_append hg (S.nw _ (mem_mo hx)).1 hz.2.1 hz.2.2 (by omega) ?_
     have e0 : bs.toArray.push k.toNat.toUInt8 = (bs ++ [k.toNat.toUInt8]).toArray:=by simp
     have e : Obj.mapBytearray (·.push k.toNat.toUInt8) (barrO bs) = barrO (bs ++ [k.toNat.toUInt8]):=by
      show ({ cls:=.type "bytearray", data:=.bytearray (bs.toArray.push k.toNat.toUInt8) 0 } : Obj) = _
      rw [e0]
     have hg' : (s.heap.update (w.al i) (Obj.mapBytearray (·.push k.toNat.toUInt8))).get? (w.al i) = some (barrO (bs ++ [k.toNat.toUInt8])):=by
      rw [<- e]; exact Heap.get?_update_self _ (S.nw _ (mem_mo hx)).1 rfl
     exact hP _ _ _ (S.objTurn s.toks hi hx (Heap.SameBut.update ..) hg' (mem_setK_self hx)) (.same rfl rfl rfl) .none
    ·exact hP.elim
   | _ => exact hP.elim
  ·exact hP.elim
 | _ => exact hP.elim
theorem extend_ok (hg : A.guards = some []) (S : St X F L cl O w σ s) {v y : PV} {x z : Value} {Q : Value -> Shared -> Prop} (hv : VRw X w σ.nxt v x) (hy : VRw X w σ.nxt y z) (hP : Post X F L cl O (VRw X) w σ.nxt (extendM v y σ) Q Er) :
  wpJ (model X.prog X.w) A (call (.builtin "bytearray.extend") [x, z]) Q Er s:=by
 unfold extendM at hP
 induction hv using VR_cases with
 | ref i hi =>
  induction hy using VR_cases with
  | byt cs t =>
   dsimp only at hP
   split at hP
   ·rename_i bs hm
    split at hP
    ·rename_i hz
     have hx:=S.barrAt hi hm
     have hline:=lineSz_le
     refine call_extend hg (S.nw _ (mem_mo hx)).1 (by omega) ?_
     have e0 : bs.toArray ++ cs.toArray = (bs ++ cs).toArray:=by simp
     have e : Obj.mapBytearray (· ++ cs.toArray) (barrO bs) = barrO (bs ++ cs):=by
      show ({ cls:=.type "bytearray", data:=.bytearray (bs.toArray ++ cs.toArray) 0 } : Obj) = _
      rw [e0]
     have hg' : (s.heap.update (w.al i) (Obj.mapBytearray (· ++ cs.toArray))).get? (w.al i) = some (barrO (bs ++ cs)):=by
      rw [<- e]; exact Heap.get?_update_self _ (S.nw _ (mem_mo hx)).1 rfl
     exact hP _ _ _ (S.objTurn s.toks hi hx (Heap.SameBut.update ..) hg' (mem_setK_self hx)) (.same rfl rfl rfl) .none
    ·exact hP.elim
   ·exact hP.elim
  | _ => exact hP.elim
 | _ => cases hy <;> exact hP.elim
end
section
variable {α β : Type} {M : Model} {A : Around} {E : Value -> Shared -> Prop} {s : Shared} {env : Env} {prog : Program} {w : World}
theorem wpJ_Not {x : Expr} {pos : Pos} {whole : Sem Value} {Q : Bool -> Shared -> Prop} (h : wpJ M A (isTrue x env (eval x env)) (fun b s₁ => Q (!b) s₁) E s) : wpJ M A (isTrue (.UnaryOp .Not x pos) env whole) Q E s:=by
 rw [arm_isTrue_UnaryOp]
 exact wpJ_bind (wpJ_mono h (fun b s₁ h₁ => wpJ_pure h₁) fun _ _ x => x)
theorem wpJ_value {e : Expr} {whole : Sem Value} {Q : Bool -> Shared -> Prop} (h : wpJ M A whole (fun v s₁ => wpAny M A (truthy v) Q E s₁) E s)
  (he : isTrue e env whole = (do let v <- whole; standAt e.pos; holding [v] (truthy v))) : wpJ M A (isTrue e env whole) Q E s:=by
 rw [he]
 exact wpJ_bind (wpJ_mono h (fun v s₁ h₁ => toJ (wpAny_bind (wpAny_standAt (wpAny_holding h₁)))) fun _ _ x => x)
theorem wpJ_Or {x : Expr} {rest : List Expr} {Q : Bool -> Shared -> Prop} (h : wpJ M A (isTrue x env (eval x env)) (fun b s₁ => if b then Q true s₁ else wpJ M A (allTrue .Or rest env) Q E s₁) E s) : wpJ M A (allTrue .Or (x :: rest) env) Q E s:=by
 show wpJ M A (do match BoolOp.Or, <- isTrue x env (eval x env) with | .And, false => pure false | .Or, true => pure true | _, _ => allTrue .Or rest env) Q E s
 refine wpJ_bind (wpJ_mono h (fun b s₁ h₁ => ?_) fun _ _ x => x)
 cases b
 ·exact h₁
 ·exact wpJ_pure h₁
theorem wpJ_Compare1 {l : Expr} {op : CmpOp} {r : Expr} {pos : Pos} {whole : Sem Value} {Q : Bool -> Shared -> Prop}
  (h : wpJ M A (eval l env) (fun a s₁ => wpAny M A (eval r env) (fun b s₂ => wpAny M A (compareOp op a b) (fun c s₃ => wpAny M A (truthy c) Q E s₃) E s₂) E s₁) E s)
  (hm : behindInMarks op r = false) : wpJ M A (isTrue (.Compare l [op] [r] pos) env whole) Q E s:=fun Γ p hΓ n1 n2 => by
 simp only [isTrue_Compare1, markedBehindIn_of_false hm, Sem.wp_bind', Sem.wp_holding, Sem.wp_cmd_standAt, Sem.wp_operate]
 exact Sem.wp_mono M Γ _ (fun a p₁ s₁ h₁ => Sem.wp_mono M Γ _ (fun b _ s₂ h₂ => Sem.wp_mono M Γ _ (fun c p₃ s₃ h₃ => h₃ Γ p₃ hΓ)
  (fun _ _ _ h' => h') _ _ (h₂ Γ _ hΓ)) (fun _ _ _ h' => h') _ _ (h₁ Γ p₁ hΓ)) (fun _ _ _ h' => h') _ _ (h Γ p hΓ n1 n2)
theorem wpJ_items {pos : Pos} {e : Expr} {rest : List Expr} {Q : List Value -> Shared -> Prop}
  (h : wpJ M A (eval e env) (fun v s₁ => wpJ M A (spliced (backTo pos (starEach rest env))) (fun vs s₂ => Q (v :: vs) s₂) E s₁) E s)
  (he : starEach (e :: rest) env = (false, eval e env) :: starEach rest env) : wpJ M A (spliced (backTo pos (starEach (e :: rest) env))) Q E s:=by
 rw [he]
 show wpJ M A (do
  let v <- eval e env
  let here <- (pure [v] : Sem (List Value))
  return here ++ (<- holding here (spliced (backTo pos (starEach rest env))))) Q E s
 exact wpJ_bind (wpJ_mono h (fun v s₁ h₁ => wpJ_seq (wpAny_pure (wpJ_bind (wpJ_holding (wpJ_mono h₁ (fun vs s₂ h₂ => wpJ_pure h₂) fun _ _ x => x))))) fun _ _ x => x)
theorem wpJ_Tuple {elts : List Expr} {k : Nat} {pos : Pos} {Q : Value -> Shared -> Prop} (h : wpJ M A (spliced (backTo pos (starEach elts env))) (fun vs s₁ => wpAny M A (newTuple vs) Q E s₁) E s) : wpJ M A (eval (.Tuple elts k pos) env) Q E s:=by
 show wpJ M A (do standAt pos; newTuple (<- spliced (backTo pos (starEach elts env)))) Q E s
 exact wpJ_standAt (wpJ_bind (wpJ_mono h (fun _ _ x => toJ x) fun _ _ x => x))
theorem wpJ_swapped {elts : List Expr} {k : Nat} {tpos : Pos} {value : Expr} {pos : Pos} {names : List Str} {Q : Flow -> Shared -> Prop}
  (h : wpJ M A (eval value env) (fun v s₁ => wpAny M A (unpackItems v names.length none) (fun items s₂ =>
   wpAny M A (assignInOrder (names.reverse.map fun n => bindName env n) items.reverse) (fun _ => Q .next) E s₂) E s₁) E s)
  (hs : swapsWithSole [.Tuple elts k tpos] value pos.line env = pure false)
  (hw : swappedStores [.Tuple elts k tpos] value env = pure (some names)) : wpJ M A (exec (.Assign [.Tuple elts k tpos] value pos) env) Q E s:=by
 rw [exec_Assign]
 refine wpJ_standAt ?_
 rw [hs]
 refine wpJ_seq (wpAny_pure ?_)
 rw [if_neg (by decide)]
 refine wpJ_bind (wpJ_mono h (fun v s₁ h₁ => toJ ?_) fun _ _ x => x)
 rw [hw]
 refine wpAny_bind (wpAny_pure ?_)
 show wpAny M A (do PySem.rule "assign.swapped-stores"; let items <- unpackItems v names.length none; assignInOrder (names.reverse.map fun n => bindName env n) items.reverse; pure .next) Q E s₁
 exact wpAny_bind (wpAny_rule (wpAny_bind (wpAny_mono h₁ (fun items s₂ h₂ => wpAny_bind (wpAny_mono h₂ (fun _ _ x => wpAny_pure x) fun _ _ x => x)) fun _ _ x => x)))
theorem evalArgsJ {f : Value} {l : List (Bool × Sem Value)} {Q : Args -> Shared -> Prop} (hp : PlL l) (h : wpJ M A (spliced l) (fun vs s₁ => Q ⟨vs, []⟩ s₁) E s) : wpJ M A (evalArgs f true l []) Q E s:=by
 rcases hp with rfl | ⟨x, r, rfl, _⟩ <;>
 ·unfold evalArgs
  show wpJ M A (spliced _ >>= _) Q E s
  refine wpJ_bind (wpJ_mono h (fun vs s' h' => toJ ?_) fun _ _ x => x)
  refine wpAny_holding ?_
  first
   | exact wpAny_bind (wpAny_pure (wpAny_bind (wpAny_pure (wpAny_pure h'))))
   | exact wpAny_bind (wpAny_pure (wpAny_holding (wpAny_bind (wpAny_pure (wpAny_bind (wpAny_pure (wpAny_pure h')))))))
theorem args_typeJ {pos : Pos} {T : String} {first : List Value} {l : List (Bool × Sem Value)} {Q : Value -> Shared -> Prop} (hp : PlL l) (h : wpJ M A (spliced l) (fun vs s₁ => wpJ M A (call (.type T) (first ++ vs)) Q E s₁) E s) :
  wpJ M A (callWith pos (.type T) first l []) Q E s:=by
 unfold callWith
 refine wpJ_bind (wpJ_holding (wpJ_mono (evalArgsJ hp (Q:=fun a s₁ => wpJ M A (call (.type T) (first ++ a.pos) a.kw) Q E s₁) h) (fun a s₁ h₁ => wpJ_standAt ?_) fun _ _ x => x))
 simp only [hp.any, List.any_nil, Bool.or_false]
 refine wpJ_seq (wpAny_pure ?_)
 exact wpJ_bind (wpJ_mono h₁ (fun r s₂ hr => wpJ_seq (wpAny_holding (wpAny_point (wpJ_pure hr)))) fun _ _ x => x)
end
section
variable {X : Cx} {n : Nat} {F : FnC} {L : Addr} {cl : List (Str × Addr)} {O : Outer} {w : Wd} {σ : AS} {s : Shared} {A : Around} {env : Env} {Er : Value -> Shared -> Prop}
theorem stJ_not {e : Expr} {pos : Pos} {t : M Bool} (ht : STtJ X n F e t) : STtJ X n F (.UnaryOp .Not e pos) (tNot t):=fun A L cl O w σ s Q Er hA hS hP =>
 wpJ_Not (ht A L cl O w σ s _ _ hA hS (hP.bind fun v σ1 x w1 s1 _ S1 E1 V1 P1 => by
  cases V1
  exact P1 _ _ _ S1 .refl rfl))
theorem stJ_val {e : Expr} {a : M PV} (ha : SEJ X n F e a) (he : ∀ env, isTrue e env (eval e env) = (do let v <- eval e env; standAt e.pos; holding [v] (truthy v))) : STtJ X n F e (tVal a):=fun A L cl O w σ s Q Er hA hS hP =>
 wpJ_value (ha A L cl O w σ s _ _ hA hS (hP.bind fun v σ1 x w1 s1 _ S1 E1 V1 P1 => truth_ok S1 V1 P1)) (he _)
noncomputable def SAllJ (X : Cx) (n : Nat) (F : FnC) (op : BoolOp) (es : List Expr) (C : M Bool) : Prop:=SndJ X n F EqR (fun env => allTrue op es env) C
theorem stJ_bool {op : BoolOp} {es : List Expr} {pos : Pos} {C : M Bool} (h : SAllJ X n F op es C) : STtJ X n F (.BoolOp op es pos) C:=fun A L cl O w σ s Q Er hA hS hP => by
 show wpJ _ A (isTrue (.BoolOp op es pos) _ _) Q Er s
 rw [arm_isTrue_BoolOp]; exact h A L cl O w σ s _ _ hA hS hP
theorem allJ_or {e : Expr} {es : List Expr} {t r : M Bool} (ht : STtJ X n F e t) (hr : SAllJ X n F .Or es r) : SAllJ X n F .Or (e :: es) (tOr t r):=fun A L cl O w σ s Q Er hA hS hP =>
 wpJ_Or (ht A L cl O w σ s _ _ hA hS (hP.bind fun v σ1 x w1 s1 _ S1 E1 V1 P1 => by
  cases V1
  cases v with
  | true => exact P1 _ _ _ S1 .refl rfl
  | false => exact hr A L cl O w1 σ1 s1 _ _ hA S1 P1))
theorem allJ_or1 {e : Expr} {t : M Bool} (ht : STtJ X n F e t) : SAllJ X n F .Or [e] t:=fun A L cl O w σ s Q Er hA hS hP =>
 wpJ_Or (ht A L cl O w σ s _ _ hA hS (hP.mono (fun b s' h => by
  cases b with
  | true => exact h
  | false => exact toJ (wpAny_allTrue_Or_nil h)) fun _ _ h => h))
theorem stJ_cmp {c : Cm} {l r : Expr} {pos : Pos} {a b : M PV} (ha : SEJ X n F l a) (hb : SE X n F r b) (hm : behindInMarks (opc c) r = false) : STtJ X n F (.Compare l [opc c] [r] pos) (tCmp c a b):=fun A L cl O w σ s Q Er hA hS hP =>
 wpJ_Compare1 (ha A L cl O w σ s _ _ hA hS (hP.bind fun v σ1 x w1 s1 _ S1 E1 V1 P1 =>
  hb A L cl O w1 σ1 s1 _ _ hA S1 (P1.bind fun u σ2 y w2 s2 _ S2 E2 V2 P2 =>
   cmp_ok hA S2 (V1.mono E2.toGrow) V2 (P2.mono (fun b s' h => wpAny_truthy_bool h) fun _ _ h => h)))) hm
noncomputable def SItJ (X : Cx) (n : Nat) (F : FnC) (es : List Expr) (cs : List (M PV)) : Prop:=∀ pos : Pos, SndJ X n F (VRsw X) (fun env => spliced (backTo pos (starEach es env))) (evs cs)
theorem SIt.J {es : List Expr} {cs : List (M PV)} (h : SIt X n F es cs) : SItJ X n F es cs:=fun pos => (h pos).J
theorem itJ_cons {e : Expr} {es : List Expr} {c : M PV} {cs : List (M PV)} (hc : SEJ X n F e c) (hcs : SItJ X n F es cs) (he : ∀ env, starEach (e :: es) env = (false, eval e env) :: starEach es env) : SItJ X n F (e :: es) (c :: cs) :=
 fun pos A L cl O w σ s Q Er hA hS hP => wpJ_items (hc A L cl O w σ s _ _ hA hS (hP.bind fun v σ1 x w1 s1 _ S1 E1 V1 P1 =>
  hcs pos A L cl O w1 σ1 s1 _ _ hA S1 (P1.bind fun vs σ2 xs w2 s2 _ S2 E2 V2 P2 => P2 _ _ _ S2 .refl (.cons (V1.mono E2.toGrow) V2)))) (he _)
theorem ssJ_swap (hF : F.Ok) (hn : 1 <= n) {es vs : List Expr} {k k' : Nat} {p p' pos : Pos} {is : List Nat} {nms : List Str} {cs : List (M PV)} (he : is.map (F.vars[·]?) = nms.map some) (h : SItJ X n F vs cs) (hl : cs.length = nms.length) (hl' : cs.length <= 1000)
  (hs : ∀ env, swapsWithSole [.Tuple es k p] (.Tuple vs k' p') pos.line env = pure false) (hw : ∀ L cl, swappedStores [.Tuple es k p] (.Tuple vs k' p') (F.env L cl) = pure (some nms)) :
  SSJ X n F (.Assign [.Tuple es k p] (.Tuple vs k' p') pos) (sSwap is cs):=fun A L cl O w σ s Q Er hA hS hP =>
 wpJ_swapped (names:=nms) (wpJ_Tuple (h p' A L cl O w σ s _ _ hA hS (hP.bind fun us σ1 xs w1 s1 e1 S1 E1 V1 P1 =>
  newTup_ok S1 V1 (by rw [evs_length e1]; exact hl') (show Post X F L cl O (VRw X) w1 σ1.nxt (.ok (.tup us) σ1) _ Er from fun x w2 s2 S2 E2 V2 => by
   cases V2 with
   | tup _ ys a hm hvs =>
    refine items_ok hA hn S2 hm (by rw [<- hvs.length, evs_length e1, hl]) fun s3 S3 => ?_
    refine setLs_ok hF (storesAs_bind nms.reverse) S3 ?_ (vrs_rev hvs) ((P1.ext E2).bind fun _ σ4 _ w4 s4 _ S4 E4 _ P4 => P4 _ _ _ S4 .refl .nx)
    rw [List.map_reverse, he, List.map_reverse])))) (hs _) (hw _ _)
theorem seJ_t1 (hX : X.Ok) (hF : F.Ok) {nm : Str} {T : String} {p pos : Pos} {e : Expr} {c : M PV} {g : PV -> M PV} (hn : BnK X F nm (.type T)) (h : SEJ X n F e c) (he : ∀ env, starEach [e] env = [(false, eval e env)]) (hG : FunS X n F (.type T) 1 (un g)) :
  SEJ X n F (.Call (.Name nm p) [e] [] pos) (bnd c g):=eCall_un g c ▸ fun A L cl O w σ s Q Er hA hS hP =>
 wpJ_seq (m:=eval (.Name nm p) (F.env L cl)) (bname hX hF hn.top hn.boot hn.ne hn.kind hn.dbg hS (args_typeJ (pla1 he _ _) (itJ_cons h zn.J he pos A L cl O w σ s _ _ hA hS (hP.bind fun vs σ1 xs w1 s1 e1 S1 E1 V1 P1 => toJ (hG A L cl O w1 σ1 s1 vs xs Q Er (evs_length e1) hA S1 V1 P1)))))
theorem args_builtinJ {M : Model} {pos : Pos} {T : String} {first : List Value} {l : List (Bool × Sem Value)} {Q : Value -> Shared -> Prop} (hp : PlL l) (h : wpAny M A (spliced l) (fun vs s₁ => wpJ M A (call (.builtin T) (first ++ vs)) Q Er s₁) Er s) :
  wpJ M A (callWith pos (.builtin T) first l []) Q Er s:=by
 unfold callWith
 refine wpJ_bind (wpJ_holding (wpJ_mono (evalArgsJ hp (Q:=fun a s₁ => wpJ M A (call (.builtin T) (first ++ a.pos) a.kw) Q Er s₁) (toJ h)) (fun a s₁ h₁ => wpJ_standAt ?_) fun _ _ x => x))
 simp only [hp.any, List.any_nil, Bool.or_false]
 refine wpJ_seq (wpAny_pure ?_)
 exact wpJ_bind (wpJ_mono h₁ (fun r s₂ hr => wpJ_seq (wpAny_holding (wpAny_point (wpJ_pure hr)))) fun _ _ x => x)
theorem seJ_barr (hX : X.Ok) (hF : F.Ok) {nm : Str} {p pos : Pos} (hn : BnK X F nm (.type "bytearray")) : SEJ X n F (.Call (.Name nm p) [] [] pos) eBarr:=fun A L cl O w σ s Q Er hA hS hP =>
 wpJ_seq (m:=eval (.Name nm p) (F.env L cl)) (bname hX hF hn.top hn.boot hn.ne hn.kind hn.dbg hS (args_typeJ (.inl rfl) (wpJ_pure (call_barr hA.guards fun h' hk hb => by
  have F' : Fr X.B L h' w.m:=hS.fr.keeps hk
  have N' : News X.B L h' ((s.heap.objs.size, barrO []) :: w.P):=fun p hp => by
   rcases List.mem_cons.mp hp with rfl | hp
   ·refine ⟨hb, fun q => ?_, ?_⟩
    ·obtain ⟨oL, _, _, hL, _⟩:=hS.fr.ns
     have:=Heap.lt_size hL
     rw [<- q] at this
     exact Nat.lt_irrefl _ this
    ·cases q : X.B.get? s.heap.objs.size with
     | none => rfl
     | some o => exact absurd (Heap.lt_size (hS.fr.keep _ _ q)) (Nat.lt_irrefl _)
   ·exact ⟨hk _ _ (hS.nw p hp).1, (hS.nw p hp).2⟩
  have S2 : St X F L cl O { w with mo:=[(s.heap.objs.size, barrO [])] ++ w.mo, al:=al1 w.al σ.nxt s.heap.objs.size, be:=al1 w.be σ.nxt s.heap.objs.size } ⟨σ.loc, upd σ.mem σ.nxt (.barr []), σ.nxt + 1⟩ { s with heap:=h' } :=
   ⟨hS.pu.newObj (by simp [keys]) (fun b hb => by rw [List.mem_singleton.mp hb]; exact hS.size_off) (.head _) (.head _) (.head _), F', N', hS.gens, hS.os⟩
  exact hP _ _ _ S2 ext_new vr_new))))
theorem seJ_appendB {o e : Expr} {ap pos : Pos} {co ce : M PV} {pl : Env -> Sem Bool} (ho : SE X n F o co) (h : SE X n F e ce) (hse : ∀ env, starEach [e] env = [(false, eval e env)])
  (he : ∀ env, eval (.Call (.Attribute o "append" ap) [e] [] pos) env = (do
   let ov <- eval o env
   standAt ap.atName
   let (f, first) <- holding [ov] (getMethod ov "append" (pl env))
   callWith pos f first (backTo pos (starEach [e] env)) [])) : SEJ X n F (.Call (.Attribute o "append" ap) [e] [] pos) (eAppendB co ce):=fun A L cl O w σ s Q Er hA hS hP => by
 show wpJ _ A (eval (.Call (.Attribute o "append" ap) [e] [] pos) (F.env L cl)) Q Er s
 rw [he]
 refine wpJ_seq (ho A L cl O w σ s _ _ hA hS (hP.bind fun v σ1 x w1 s1 _ S1 E1 V1 P1 => wpJ_standAt ?_))
 obtain ⟨i, bs, rfl, hm, P1⟩:=isBarrM_inv P1
 cases V1 with
 | ref _ hi =>
  have hx:=S1.barrAt hi hm
  have ha : BaAt s1.heap (w1.al i) bs:=(S1.nw _ (mem_mo hx)).1
  refine wpJ_seq (wpAny_holding (getMethod_builtin ha.typeIs ba_plainAttrs ba_slot_append ba_type_append (fun a e => by cases e; exact ⟨_, ha, rfl⟩) ?_))
  refine args_builtinJ (pla1 hse _ _) (zc h zn hse pos A L cl O w1 σ1 s1 _ _ hA S1 ?_)
  have P2 : Post X F L cl O (VRw X) w1 σ1.nxt (bnd (evs [ce]) (fun us => appendBM (.ref i) (us.headD .none)) σ1) Q Er:=by
   unfold evs bnd ret
   unfold bnd at P1
   cases e1 : ce σ1 with
   | ok u σ2 => rw [e1] at P1; exact P1
   | exc C σ2 => rw [e1] at P1; exact P1
   | stuck => rw [e1] at P1; exact P1
  refine P2.bind fun us σ2 ys w2 s2 e2 S2 E2 V2 P3 => ?_
  have hl:=evs_length e2
  cases V2 with
  | nil => cases hl
  | cons h1 h2 =>
   cases h2 with
   | nil => exact appendB_ok hA.guards S2 (VR.mono E2.toGrow (.ref i hi)) h1 P3
   | cons => cases hl
theorem seJ_extendB {o e : Expr} {ap pos : Pos} {co ce : M PV} {pl : Env -> Sem Bool} (ho : SE X n F o co) (h : SE X n F e ce) (hse : ∀ env, starEach [e] env = [(false, eval e env)])
  (he : ∀ env, eval (.Call (.Attribute o "extend" ap) [e] [] pos) env = (do
   let ov <- eval o env
   standAt ap.atName
   let (f, first) <- holding [ov] (getMethod ov "extend" (pl env))
   callWith pos f first (backTo pos (starEach [e] env)) [])) : SEJ X n F (.Call (.Attribute o "extend" ap) [e] [] pos) (eExtendB co ce):=fun A L cl O w σ s Q Er hA hS hP => by
 show wpJ _ A (eval (.Call (.Attribute o "extend" ap) [e] [] pos) (F.env L cl)) Q Er s
 rw [he]
 refine wpJ_seq (ho A L cl O w σ s _ _ hA hS (hP.bind fun v σ1 x w1 s1 _ S1 E1 V1 P1 => wpJ_standAt ?_))
 obtain ⟨i, bs, rfl, hm, P1⟩:=isBarrM_inv P1
 cases V1 with
 | ref _ hi =>
  have hx:=S1.barrAt hi hm
  have ha : BaAt s1.heap (w1.al i) bs:=(S1.nw _ (mem_mo hx)).1
  refine wpJ_seq (wpAny_holding (getMethod_builtin ha.typeIs ba_plainAttrs ba_slot_extend ba_type_extend (fun a e => by cases e; exact ⟨_, ha, rfl⟩) ?_))
  refine args_builtinJ (pla1 hse _ _) (zc h zn hse pos A L cl O w1 σ1 s1 _ _ hA S1 ?_)
  have P2 : Post X F L cl O (VRw X) w1 σ1.nxt (bnd (evs [ce]) (fun us => extendM (.ref i) (us.headD .none)) σ1) Q Er:=by
   unfold evs bnd ret
   unfold bnd at P1
   cases e1 : ce σ1 with
   | ok u σ2 => rw [e1] at P1; exact P1
   | exc C σ2 => rw [e1] at P1; exact P1
   | stuck => rw [e1] at P1; exact P1
  refine P2.bind fun us σ2 ys w2 s2 e2 S2 E2 V2 P3 => ?_
  have hl:=evs_length e2
  cases V2 with
  | nil => cases hl
  | cons h1 h2 =>
   cases h2 with
   | nil => exact extend_ok hA.guards S2 (VR.mono E2.toGrow (.ref i hi)) h1 P3
   | cons => cases hl
theorem call_clsJ {K : Frag} {C : Addr} {h₀ : Heap} {m : Str -> Option Value} {news : List (Addr × Obj)} {prog : Program} {w : World} {pos : List Value} {kw : List (Str × Value)} {fI : Addr} {Q : Value -> Shared -> Prop} (F : Fr h₀ L s.heap m) (X₀ : K.In h₀) (N : News h₀ L s.heap news) (hm : makesIn K C = true) (hi : findIn K (.ref C) "__init__" = some (some (.ref fI))) (hf : isFn K (.ref fI) = true)
  (h : ∀ x dx h', Fr h₀ L h' m -> News h₀ L h' ((x, instObj C dx) :: (dx, dictOf [] 0) :: news) -> (∀ p ∈ news, p.1 < dx) -> dx < x ->
   codeJ (model prog w) (A.under (.builtin "type.__call__" ⟨.ref C :: pos, kw⟩)) (.call (.ref fI) ⟨.ref x :: pos, kw⟩) (InitBack x (RC Q Er)) { s with heap:=h' }) :
  wpJ (model prog w) A (call (.ref C) pos kw) Q Er s:=wpJ_call (codeJ_mono (R:=RC Q Er) (by
 have X:=X₀.keeps F.keep
 obtain ⟨hh, g, d, t, os⟩:=s
 refine make_coreJ (makes_of X hm) (looks_findIn X hi) (fun self => bind_fn X self (beq_iff_eq.mp hf)) (.inl rfl) (h _ hh.objs.size _ ((F.push _).push _) ?_ (fun p hp => Heap.lt_size (N p hp).1) (Nat.lt_succ_self _))
 have:=(N.push F emptyDict).push (F.push _) (instObj C hh.objs.size)
 rwa [Heap.size_push] at this) fun r s' z => z)
theorem seJ_new (hX : X.Ok) (hF : F.Ok) {nm : Str} {C fI : Addr} {p pos : Pos} {es : List Expr} {cs : List (M PV)} {G : List PV -> M PV} (hn : GnK X F nm (.ref C)) (hC : C = 199 \/ C = 283) (hm : makesIn X.K C = true) (hi : findIn X.K (.ref C) "__init__" = some (some (.ref fI))) (hf : isFn X.K (.ref fI) = true)
  (hk : keepIn X.K (.ref C) = true) (hp : PlA es) (h : SIt X (n + 2) F es cs) (hG : CodJ X (n + 1) F (.ref fI) (cs.length + 1) G) :
  SEJ X (n + 2) F (.Call (.Name nm p) es [] pos) (eNew C G cs):=fun A L cl O w σ s Q Er hA hS hP =>
 wpJ_seq (m:=eval (.Name nm p) (F.env L cl)) (gname hX hF hn.top hn.kind hn.dbg hS (args_KJ (K:=X.K) (hp _ _) hk (h pos A L cl O w σ s _ _ hA hS (hP.bind fun vs σ1 xs w1 s1 e1 S1 E1 V1 P1 => ⟨S1.In hX, by
  refine call_clsJ (K:=X.K) S1.fr hX.K S1.nw hm hi hf fun x dx h' F' N' hlt hdx => ?_
  rw [under_tc]
  have hA' : Ar { A with depth:=A.depth + 1, units:=A.units + 1 } (n + 1) (F.env L cl) O:=by
   refine ⟨?_, ?_, hA.frames, hA.guards, .inl (hA.hd.resolve_right (by omega))⟩
   ·exact dep1 hA.depth
   ·exact uni1 hA.units
  have hxd : x ≠ dx:=Nat.ne_of_gt hdx
  have off : ∀ b, b = x \/ b = dx -> b ∉ keys w1.P:=fun b hb q => by
   obtain ⟨pp, hpp, rfl⟩:=List.mem_map.mp q
   have:=hlt pp hpp
   rcases hb with hb | hb <;> rw [hb] at this
   ·exact Nat.lt_asymm this hdx
   ·exact Nat.lt_irrefl _ this
  have S2 : St X F L cl O { w1 with mo:=[(x, instObj C dx), (dx, dictOf [] 0)] ++ w1.mo, al:=al1 w1.al σ1.nxt x, be:=al1 w1.be σ1.nxt dx } ⟨σ1.loc, upd σ1.mem σ1.nxt (.inst C []), σ1.nxt + 1⟩ { s1 with heap:=h' }:=by
   refine ⟨S1.pu.newObj (by simp [keys, hxd]) (fun b hb => off b (by simpa [keys] using hb)) (by simp [keys]) (by simp [keys]) ⟨.head _, hC, [], 0, .tail _ (.head _), .nil⟩, F', N', S1.gens, S1.os⟩
  have E2 : Ext w1 { w1 with mo:=[(x, instObj C dx), (dx, dictOf [] 0)] ++ w1.mo, al:=al1 w1.al σ1.nxt x, be:=al1 w1.be σ1.nxt dx } σ1.nxt (σ1.nxt + 1):=ext_new
  have P2 : Post X F L cl O (VRw X) { w1 with mo:=[(x, instObj C dx), (dx, dictOf [] 0)] ++ w1.mo, al:=al1 w1.al σ1.nxt x, be:=al1 w1.be σ1.nxt dx } (σ1.nxt + 1) (bnd (G (.ref σ1.nxt :: vs)) (fun r => match r with | .none => ret (.ref σ1.nxt) | _ => fun _ => .stuck "__init__") ⟨σ1.loc, upd σ1.mem σ1.nxt (.inst C []), σ1.nxt + 1⟩) Q Er:=P1.ext E2
  refine codeJ_mono (hG _ L cl O _ _ _ (.ref σ1.nxt :: vs) (.ref x :: xs) (fun v s' => v = .none /\ Q (.ref x) s') Er (congrArg (· + 1) (evs_length e1)) hA' S2 (.cons vr_new (V1.mono E2.toGrow)) (P2.bind fun v σ3 y w3 s3 _ S3 E3 V3 P3 => ?_)) fun r s' hr => ?_
  ·induction V3 using VR_cases with
   | none =>
    refine ⟨rfl, P3 _ _ _ S3 .refl ?_⟩
    exact VR.mono E3.toGrow vr_new
   | _ => exact P3.elim
  ·rcases r with e | (v | _ | _ | _) <;> exact hr⟩))))
end
section
variable {prog : Program} {w : World} {A : Around} {E : Value -> Shared -> Prop} {s : Shared} {a : Addr} {b : List UInt8}
theorem len_barr {Q : Value -> Shared -> Prop} (ha : BaAt s.heap a b) (hz : b.length < 2 ^ 62) (h : Q (.int (b.length : Nat) (s.toks + 1)) { s with toks:=s.toks + 1 + 1 }) : wpAny (model prog w) A (call (.builtin "len") [.ref a]) Q E s:=by
 refine Calls.call_function_entry kind_len plain_len entry_len (args_len1 _) ?_
 unfold Builtin.«len»
 refine wpAny_bind (m:=oneArg "len" _) (wpAny_pure ?_)
 refine wpAny_bind (m:=callSpecial? (.ref a) (Str.ofString "__len__")) (wpAny_callSpecial?_slot (name:=Str.ofString "__len__") ha.typeIs ba_slot_len
  (wpAny_call_entry ba_slot_len ha.typeIs ba_entry_len ?_ (ba_args_len _)))
 show wpAny _ _ (do retInt (<- Builtin.Bytes.payload (.ref a)).size) _ _ s
 unfold Builtin.Bytes.payload Builtin.Bytes.payload?
 refine wpAny_bind (wpAny_bind (wpAny_bind (wpAny_load ha (wpAny_pure (wpAny_pure ?_)))))
 refine wpAny_bind (wpAny_mkInt (wpAny_pure ⟨_, rfl, ?_⟩))
 refine wpAny_bind (wpAny_holding (wpAny_pure ?_))
 refine wpAny_bind (wpAny_letGo ?_)
 have e : ((b.toArray.size : Nat) : Int) = (b.length : Int):=by simp
 show wpAny _ _ (if ((b.toArray.size : Nat) : Int) < 0 then _ else _) _ _ _
 rw [if_neg (by lia)]
 show wpAny _ _ (if ((b.toArray.size : Nat) : Int) >= 2 ^ 63 then _ else _) _ _ _
 rw [if_neg (by lia)]
 refine wpAny_bind (wpAny_mkInt (wpAny_pure ⟨_, rfl, ?_⟩))
 rw [e]; exact h
end
section
variable {X : Cx} {n : Nat} {F : FnC} {L : Addr} {cl : List (Str × Addr)} {O : Outer} {w : Wd} {σ : AS} {s : Shared} {A : Around} {env : Env} {Er : Value -> Shared -> Prop}
theorem fun_len : FunS X n F (.builtin "len") 1 (un fLen):=fun_un fun A L cl O w σ s v x Q Er hA hS hv hP => by
 have hline : zLs = 1048576:=by decide
 cases hv with
 | «ints» ns xs a hb hi =>
  unfold fLen at hP
  dsimp only at hP
  split at hP
  ·exact len_ints_fit (let ⟨o, ho, r⟩:=hb; ⟨o, hS.fr.keep _ _ ho, r⟩) hi (by lia) (hP _ _ _ (hS.tk _) .refl (.int _ _))
  ·exact hP.elim
 | byt b t =>
  unfold fLen at hP
  dsimp only at hP
  split at hP
  ·exact len_bytes (by rw [List.size_toArray]; lia) (hP _ _ _ (hS.tk _) .refl (.int _ _))
  ·exact hP.elim
 | ref i hi =>
  unfold fLen at hP
  dsimp only at hP
  split at hP
  ·rename_i vs hm
   split at hP
   ·obtain ⟨xs, k, hx, hvs⟩:=hS.listAt hi hm
    refine KM.len_K (n:=vs.length) hS.nw (mem_mo hx) (by rw [List.size_toArray, hvs.length]) (by lia) (hP _ _ _ (hS.tk _) .refl (.int _ _))
   ·exact hP.elim
  ·rename_i bs hm
   split at hP
   ·have hx:=hS.barrAt hi hm
    exact len_barr (hS.nw _ (mem_mo hx)).1 (by lia) (hP _ _ _ (hS.tk _) .refl (.int _ _))
   ·exact hP.elim
  ·exact hP.elim
 | _ => exact hP.elim
end
noncomputable abbrev Cx.re (X : Cx) (G : Array GenState) (os : OsState) : Cx:={ X with G:=G, os:=os }
noncomputable def EltS (X : Cx) (F : FnC) (scope : Scope) (x : Str) (e : Expr) (d : PV -> P) : Prop :=
 ∀ (G : Array GenState) (os : OsState) (A : Around) (L : Addr) (cl cl' : List (Str × Addr)) (O : Outer) (w : Wd) (σ : AS) (s : Shared) (C : Addr) (m : Str -> Option Value) (k : Int) (t : Tok) (u : PV) (E' : Value -> Shared -> Prop),
  (∀ nm, scope.names.lookup nm = some .free -> cl'.lookup nm = cl.lookup nm) -> St (X.re G os) F L cl O w σ s -> s.heap.Ns C m -> m x = some (.int k t) -> d (.int k) σ = some u ->
  wpAny (model X.prog X.w) A (eval e (compEnvC scope cl' C (F.env L cl))) (fun z s' => VRw X w σ.nxt u z /\ Keeps s s') E' s
section
variable {X : Cx} {n : Nat} {F : FnC} {L : Addr} {cl : List (Str × Addr)} {O : Outer} {w : Wd} {σ : AS} {s : Shared} {A : Around} {env : Env} {Er : Value -> Shared -> Prop} {scope : Scope} {x : Str}
theorem keeps_refl : Keeps s s:=⟨s.heap, s.toks, rfl, fun _ _ e => e⟩
theorem keeps_tok (t : Nat) : Keeps s { s with toks:=t }:=⟨s.heap, t, rfl, fun _ _ e => e⟩
theorem keeps_trans {s s1 s2 : Shared} (a : Keeps s s1) (b : Keeps s1 s2) : Keeps s s2:=by
 refine yN fun hgl => ?_
 obtain ⟨h, t, rfl, k⟩:=a
 refine hgl ?_; clear hgl
 obtain ⟨h', t', rfl, k'⟩:=b
 exact ⟨h', t', rfl, fun b o e => k' b o (k b o e)⟩
theorem St.keepsS {s1 : Shared} (S : St X F L cl O w σ s) (k : Keeps s s1) : St X F L cl O w σ s1:=by
 obtain ⟨h, t, rfl, k⟩:=k
 exact S.keepsH t k
theorem keeps_ns {s s1 : Shared} {C : Addr} {m : Str -> Option Value} (k : Keeps s s1) (h : s.heap.Ns C m) : s1.heap.Ns C m:=by
 obtain ⟨h', t, rfl, k⟩:=k
 exact h.keeps k
theorem el_int {i : Int} {k : Nat} {pos : Pos} : EltS X F scope x (.Constant (.int i) k pos) (fun _ => pK (.int i)):=fun G os A L cl cl' O w σ s C m j t u E' hcl S hC hm e => by
 cases e
 exact wpAny_Constant_int ⟨.int _ _, keeps_tok _⟩
theorem el_var {pos : Pos} (hk : scope.kind = .function) (hx : scope.names.lookup x = some .local) (hd : (x == ("__debug__" : Str)) = false) : EltS X F scope x (.Name x pos) pK:=fun G os A L cl cl' O w σ s C m j t u E' hcl S hC hm e => by
 cases e
 exact wpAny_Name (wpAny_loadName_local (env:=compEnvC scope cl' C (F.env L cl)) hk (lookup_relabel_local hx) hC hm ⟨.int _ _, keeps_refl⟩) hd
theorem el_cell {nm : Str} {pos : Pos} {i : Nat} (hk : scope.kind = .function) (hi : F.vars[i]? = some nm) (hf : scope.names.lookup nm = some .free) (hc : F.scope.names.lookup nm = some .cell)
  (hr : ∀ L cl, (relabel scope (F.env L cl)).names.lookup nm = some .cell) (hd : (nm == ("__debug__" : Str)) = false) : EltS X F scope x (.Name nm pos) (fun _ => pL i):=fun G os A L cl cl' O w σ s C m j t u E' hcl S hC hm e => by
 unfold pL at e
 dsimp only at e
 split at e
 ·rename_i v e1
  cases e
  refine yN fun hgl => ?_
  obtain ⟨nm', h1, y, h2, h3⟩:=S.pu.locs i u e1
  refine hgl ?_; clear hgl
  obtain rfl : nm' = nm:=Option.some.inj (h1.symm.trans hi)
  rcases h3 with ⟨q, _⟩ | ⟨_, c, o, q1, q2, q3⟩
  ·rw [hc] at q; cases q
  ·refine wpAny_Name (wpAny_loadName_cell (env:=compEnvC scope cl' C (F.env L cl)) hk (hr L cl) ((hcl _ hf).trans q1) ⟨o, S.nw.get (List.mem_append_right _ (List.mem_append_left _ q2)), q3⟩ ⟨h2, keeps_refl⟩) hd
 ·cases e
theorem el_bin {op : Op} {l r : Expr} {pos : Pos} {a b : PV -> P} (ha : EltS X F scope x l a) (hb : EltS X F scope x r b) : EltS X F scope x (.BinOp l (opr op) r pos) (fun v => pBin op (a v) (b v)):=fun G os A L cl cl' O w σ s C m j t u E' hcl S hC hm e => by
 unfold pBin at e
 dsimp only at e
 split at e
 ·rename_i p q e1 e2
  obtain ⟨z, e3, rfl⟩:=Option.map_eq_some_iff.mp e
  refine wpAny_BinOp (wpAny_mono (ha G os A L cl cl' O w σ s C m j t _ E' hcl S hC hm e1) (fun y s1 h1 => ?_) fun _ _ z => z)
  obtain ⟨hy, k1⟩:=h1
  refine wpAny_mono (hb G os A L cl cl' O w σ s1 C m j t _ E' hcl (S.keepsS k1) (keeps_ns k1 hC) hm e2) (fun y2 s2 h2 => ?_) fun _ _ z => z
  obtain ⟨hy2, k2⟩:=h2
  cases hy
  cases hy2
  exact intOp_ok e3 ⟨.int _ _, keeps_trans (keeps_trans k1 k2) (keeps_tok _)⟩
 ·cases e
inductive PSb (mem : Nat -> AO) (v p q : PV) : Prop where
 | byt (bs : List UInt8) (k : Int) (z : UInt8) (ep : p = .byt bs) (eq : q = .int k) (hz : bs.length <= zLs) (e : idx bs k = some z) (ev : v = .int z.toNat) : PSb mem v p q
 | list (i : Nat) (k : Int) (vs : List PV) (ep : p = .ref i) (eq : q = .int k) (hm : mem i = .list vs) (e : idx vs k = some v) : PSb mem v p q
theorem pSub_inv {a b : P} {σ : AS} {v : PV} (e : pSub a b σ = some v) : ∃ p q, a σ = some p /\ b σ = some q /\ PSb σ.mem v p q:=by
 unfold pSub at e
 split at e
 ·rename_i bs k h1 h2
  split at e
  ·rename_i hz
   obtain ⟨z, e3, e4⟩:=Option.map_eq_some_iff.mp e
   exact ⟨_, _, h1, h2, .byt bs k z rfl rfl hz e3 e4.symm⟩
  ·cases e
 ·rename_i i k h1 h2
  split at e
  ·rename_i vs hm
   exact ⟨_, _, h1, h2, .list i k vs rfl rfl hm e⟩
  ·cases e
 ·cases e
theorem el_sub {l r : Expr} {pos : Pos} {a b : PV -> P} (ha : EltS X F scope x l a) (hb : EltS X F scope x r b) (hs : ∀ o i, subscripted r false o i = operate [o, i] (getItem o i)) : EltS X F scope x (.Subscript l r pos) (fun v => pSub (a v) (b v)):=fun G os A L cl cl' O w σ s C m j t u E' hcl S hC hm e => by
 refine yN fun hgl => ?_
 obtain ⟨p, q, e1, e2, hps⟩:=pSub_inv e
 refine hgl ?_; clear hgl
 refine Subscript_ (wpAny_mono (ha G os A L cl cl' O w σ s C m j t _ E' hcl S hC hm e1) (fun y s1 h1 => ?_) fun _ _ z => z)
 refine wpAny_mono (hb G os A L cl cl' O w σ s1 C m j t _ E' hcl (S.keepsS h1.2) (keeps_ns h1.2 hC) hm e2) (fun y2 s2 h2 => ?_) fun _ _ z => z
 have S2:=(S.keepsS h1.2).keepsS h2.2
 have k12:=keeps_trans h1.2 h2.2
 have hy:=VR.inv h1.1
 have hy2:=VR.inv h2.1
 clear e h1 h2
 cases hps with
 | byt bs k z ep eq hz e3 ev =>
  subst ep eq ev
  obtain ⟨t1, rfl⟩:=hy
  obtain ⟨t2, rfl⟩:=hy2
  obtain ⟨h0, h1, h2⟩:=idx_some e3
  have hlt : k.toNat < bs.length:=(List.getElem?_eq_some_iff.mp h2).1
  refine tail_any (typeIs_bytes _ _ _) FB.slot_bytes_getitem.lookup (getItem_bytes (yL hz (by decide)) h0 (by omega) ?_) (hs _ _)
  have ev : (bs.getD k.toNat 0) = z:=by rw [yJ, h2]; rfl
  rw [ev]
  exact ⟨.int _ _, keeps_trans k12 (keeps_tok _)⟩
 | list i k vs ep eq hm e3 =>
  subst ep eq
  obtain ⟨rfl, hi⟩:=hy
  obtain ⟨t2, rfl⟩:=hy2
  have hline : ((zLs : Nat) : Int) = 1048576:=by decide
  obtain ⟨h0, h1, h2⟩:=idx_some e3
  refine yN fun hgl => ?_
  obtain ⟨xs, c, hx, hvs⟩:=S2.listAt hi hm
  refine hgl ?_; clear hgl
  obtain ⟨x, hx', hvx⟩:=hvs.get h2
  have hl:=S2.isList hx
  exact tail_any hl.typeIs slot_list_getitem.lookup (wpAny_getItem_list hl h0 (by omega) (by simpa using hx') ⟨hvx, k12⟩) (hs _ _)
theorem el_abs (hX : X.Ok) {nm : Str} {p pos : Pos} {e : Expr} {a : PV -> P} (hn : ∀ (G : Array GenState) (os : OsState) (A : Around) (L : Addr) (cl cl' : List (Str × Addr)) (O : Outer) (w : Wd) (σ : AS) (s : Shared) (C : Addr) (Q : Value -> Shared -> Prop) (E' : Value -> Shared -> Prop), St (X.re G os) F L cl O w σ s -> Q (.builtin "abs") s -> wpAny (model X.prog X.w) A (eval (.Name nm p) (compEnvC scope cl' C (F.env L cl))) Q E' s)
  (ha : EltS X F scope x e a) (hse : ∀ env, starEach [e] env = [(false, eval e env)]) : EltS X F scope x (.Call (.Name nm p) [e] [] pos) (fun v => pAbs (a v)):=fun G os A L cl cl' O w σ s C m j t u E' hcl S hC hm e' => by
 unfold pAbs at e'
 dsimp only at e'
 split at e'
 ·rename_i z e1
  cases e'
  refine Call_Name rfl (hn G os A L cl cl' O w σ s C _ _ S (args_builtin (pla1 hse _ _) ?_))
  refine wpAny_items_cons (wpAny_mono (ha G os A L cl cl' O w σ s C m j t _ E' hcl S hC hm e1) (fun y s1 h1 => wpAny_items_nil ?_) fun _ _ z => z) (hse _)
  obtain ⟨hy, k1⟩:=h1
  cases hy
  refine call_abs_int fun u tk => ⟨?_, keeps_trans k1 (keeps_tok _)⟩
  have : (if z < 0 then -z else z) = (z.natAbs : Int):=by split <;> omega
  rw [this]
  exact .int _ _
 ·cases e'
end
structure CsK (F : FnC) (scope : Scope) (x : Str) : Prop where
 kind : scope.kind = .function
 cell : ∀ y ∈ scope.names, y.2 ≠ .cell
 names : ∀ y ∈ scope.names, y.2 = .local -> scope.names.lookup y.1 = some .local
 x : scope.names.lookup x = some .local
 clos : ∀ L cl, (∀ nm ∈ F.vars, F.scope.names.lookup nm = some .cell -> (cl.lookup nm).isSome = true) -> ∃ cl', closureFor scope (F.env L cl) = pure cl' /\ ∀ nm, scope.names.lookup nm = some .free -> cl'.lookup nm = cl.lookup nm
noncomputable def Frel (σ : AS) (d : PV -> P) : Value -> Value -> Prop:=fun y z => ∀ k t, y = .int k t -> ∃ i t', d (.int k) σ = some (.int i) /\ z = .int i t'
theorem allInts_get : ∀ {us : List PV} {i : Nat} {u : PV}, (allInts us).isSome = true -> us[i]? = some u -> ∃ k, u = .int k
 | .int k :: r, 0, u, _, e => by cases e; exact ⟨k, rfl⟩
 | .int k :: r, i + 1, u, h, e => by
  unfold allInts at h
  rw [Option.isSome_map] at h
  exact allInts_get (i:=i) h e
 | [], _, _, _, e => by simp at e
 | .none :: _, _, _, h, _ => by cases h
 | .bool _ :: _, _, _, h, _ => by cases h
 | .str _ :: _, _, _, h, _ => by cases h
 | .byt _ :: _, _, _, h, _ => by cases h
 | .tup _ :: _, _, _, h, _ => by cases h
 | .ref _ :: _, _, _, h, _ => by cases h
 | .ints _ :: _, _, _, h, _ => by cases h
theorem compZ_some {d : PV -> P} {σ : AS} {ks : List Int} {us : List PV} (e : compZ d σ ks = some us) : comp d σ (ks.map .int) = some us /\ (allInts us).isSome = true:=by
 unfold compZ at e
 split at e
 ·split at e
  ·cases e; exact ⟨by assumption, by assumption⟩
  ·cases e
 ·cases e
theorem comp_get {d : PV -> P} {σ : AS} : ∀ {ks : List Int} {us : List PV}, comp d σ (ks.map .int) = some us -> us.length = ks.length /\ ∀ (i : Nat) (k : Int), ks[i]? = some k -> ∃ u, us[i]? = some u /\ d (.int k) σ = some u
 | [], us, e => by cases e; exact ⟨rfl, fun i k h => by simp at h⟩
 | k :: ks, us, e => by
  rw [yC] at e
  unfold comp at e
  split at e
  ·rename_i u us' e1 e2
   cases e
   obtain ⟨h1, h2⟩:=comp_get e2
   refine ⟨by simp [h1], fun i k' h => ?_⟩
   cases i with
   | zero => cases h; exact ⟨u, rfl, e1⟩
   | succ i => exact h2 i k' h
  ·cases e
theorem paired_vrs {X : Cx} {w : Wd} {σ : AS} {d : PV -> P} : ∀ {ks : List Int} {us : List PV} {vs ys : List Value}, comp d σ (ks.map .int) = some us -> vs.length = ks.length -> (∀ (j : Nat) (v : Value), vs[j]? = some v -> ∃ (k : Int) (t : Tok), ks[j]? = some k /\ v = Value.int k t) ->
  Paired (Frel σ d) vs ys -> VRs X.B w.fz w.al σ.nxt us ys
 | [], us, vs, ys, e, hl, hP, hF => by
  cases e
  cases hF with
  | nil => exact .nil
  | cons => cases hl
 | k :: ks, us, vs, ys, e, hl, hP, hF => by
  cases hF with
  | nil => cases hl
  | cons h1 h2 =>
   rename_i a b vs' ys'
   rw [yC] at e
   unfold comp at e
   split at e
   ·rename_i u us' e1 e2
    cases e
    obtain ⟨k', t, q1, q2⟩:=hP 0 a rfl
    cases q1
    obtain ⟨u', t', q3, q4⟩:=h1 k t q2
    rw [e1] at q3
    cases q3
    subst q4
    exact .cons (.int _ _) (paired_vrs e2 (by simpa using hl) (fun j v hv => hP (j + 1) v hv) h2)
   ·cases e
section
variable {X : Cx} {n : Nat} {F : FnC} {L : Addr} {cl : List (Str × Addr)} {O : Outer} {w : Wd} {σ : AS} {s : Shared} {A : Around} {env : Env} {Er : Value -> Shared -> Prop} {scope : Scope} {x : Str}
theorem StP.re {G : Array GenState} {os : OsState} (S : StP X F cl O w σ) : StP (X.re G os) F cl O w σ:=⟨S.nod, S.fo, S.mem, S.inj, S.adr, S.locs, S.cel, S.celi, S.ckd⟩
theorem comp_quiet {elt : Expr} {d : PV -> P} {cl' : List (Str × Addr)} {o : Obj} {P : Nat -> Value -> Prop} {ks : List Int} {us : List PV} (hel : EltS X F scope x elt d) (hcl : ∀ nm, scope.names.lookup nm = some .free -> cl'.lookup nm = cl.lookup nm) (S : St X F L cl O w σ s)
  (hP : ∀ (j : Nat) (v : Value), P j v -> ∃ (k : Int) (t : Tok), ks[j]? = some k /\ v = Value.int k t) (hc : comp d σ (ks.map .int) = some us) (hz : (allInts us).isSome = true) :
  QuietOnC X.prog X.w A (F.env L cl) scope cl' x [] elt [s.heap.objs.size] P (fun _ => true) (Frel σ d) { s with heap:=s.heap.push o }:=by
 refine ⟨fun C i v s₃ m₃ E' hC hv hn hm hk ht => ?_, fun C i v s₃ m₃ E' hC hv _ hn hm hk ht => ?_⟩
 ·exact wpAny_pure ⟨rfl, keeps_refl⟩
 ·obtain ⟨k, t, q1, rfl⟩:=hP i v hv
  obtain ⟨u, q0, q2⟩:=(comp_get hc).2 i k q1
  obtain ⟨iu, rfl⟩:=allInts_get hz q0
  have hk' : ∀ b o', s.heap.get? b = some o' -> s₃.heap.get? b = some o':=fun b o' e => hk b o' (fun q => by
   rw [List.mem_singleton.mp q] at e
   exact Nat.lt_irrefl _ (Heap.lt_size e)) (Heap.get?_push_of_some _ e)
  have S':=S.keepsH s₃.toks hk'
  have S3 : St (X.re s₃.gens s₃.os) F L cl O w σ s₃:=⟨S'.pu.re, S'.fr, S'.nw, rfl, rfl⟩
  refine wpAny_mono (hel _ _ A L cl cl' O w σ s₃ C m₃ k t _ E' hcl S3 hn hm q2) (fun y s₄ h => ⟨fun k' t' e => ?_, h.2⟩) fun _ _ z => z
  cases e
  have h1:=h.1
  cases h1
  exact ⟨_, _, q2, rfl⟩
theorem comp_res {d : PV -> P} {o : Obj} {ks : List Int} {us : List PV} {Q : Value -> Shared -> Prop} (S : St X F L cl O w σ s) (hc : comp d σ (ks.map .int) = some us) (hP : Post X F L cl O (VRw X) w σ.nxt (newO (.list us) σ) Q Er)
  {D : Addr} {h' : Heap} {tk : Tok} {ys : Array Value} {vs : List Value} (hD : (s.heap.push o).get? D = none) (hl : h'.PlainList D ys) (hlen : vs.length = ks.length) (hv : ∀ (j : Nat) (v : Value), vs[j]? = some v -> ∃ (k : Int) (t : Tok), ks[j]? = some k /\ v = Value.int k t)
  (hF : Paired (Frel σ d) (vs.filter fun _ => true) ys.toList) (hk : ∀ b o', b ∉ [s.heap.objs.size] -> (s.heap.push o).get? b = some o' -> h'.get? b = some o') : Q (.ref D) { s with heap:=h', toks:=tk }:=by
 obtain ⟨c, hl⟩:=hl
 have hk' : ∀ b o', s.heap.get? b = some o' -> h'.get? b = some o':=fun b o' e => hk b o' (fun q => by
  rw [List.mem_singleton.mp q] at e
  exact Nat.lt_irrefl _ (Heap.lt_size e)) (Heap.get?_push_of_some _ e)
 have hDn : s.heap.get? D = none:=by
  cases e : s.heap.get? D with
  | none => rfl
  | some o' => rw [Heap.get?_push_of_some _ e] at hD; cases hD
 have hoff : D ∉ keys w.P:=fun h => by
  obtain ⟨p, hp, e⟩:=List.mem_map.mp h
  have:=(S.nw p hp).1
  rw [e, hDn] at this
  cases this
 have hf : (vs.filter fun _ => true) = vs:=List.filter_eq_self.mpr fun _ _ => rfl
 rw [hf] at hF
 have hvs:=paired_vrs (X:=X) (w:=w) hc hlen hv hF
 have F' : Fr X.B L h' w.m:=S.fr.keeps hk'
 have N' : News X.B L h' ((D, W.listOf ys.toList.toArray c) :: w.P):=fun p hp => by
  rcases List.mem_cons.mp hp with rfl | hp
  ·refine ⟨by simpa using hl, fun q => ?_, ?_⟩
   ·obtain ⟨oL, _, _, hL, _⟩:=S.fr.ns
    rw [<- q] at hL
    rw [hDn] at hL
    cases hL
   ·cases q : X.B.get? D with
    | none => rfl
    | some o => have:=S.fr.keep _ _ q; rw [hDn] at this; cases this
  ·exact ⟨hk' _ _ (S.nw p hp).1, (S.nw p hp).2⟩
 exact hP _ _ _ (S.newList (t:=tk) hvs hoff F' N') ext_new vr_new
end
section
variable {X : Cx} {n : Nat} {F : FnC} {L : Addr} {cl : List (Str × Addr)} {O : Outer} {w : Wd} {σ : AS} {s : Shared} {A : Around} {env : Env} {Er : Value -> Shared -> Prop} {scope : Scope} {x : Str}
inductive CII (elt : PV -> P) (v : PV) (σ : AS) : Prop where
 | mk (i : Nat) (vs : List PV) (ns : List Int) (us : List PV) (ev : v = .ref i) (hm : σ.mem i = .list vs) (hns : allInts vs = some ns) (hl : ns.length <= zLs) (hu : compZ elt σ ns = some us) (e : compIM elt v σ = newO (.list us) σ) : CII elt v σ
theorem compI_inv {n₀ : Nat} {elt : PV -> P} {v : PV} {Q : Value -> Shared -> Prop} (h : Post X F L cl O (VRw X) w n₀ (compIM elt v σ) Q Er) : CII elt v σ:=by
 have hst : ∀ y, compIM elt v σ ≠ .stuck y:=fun y e => by rw [e] at h; exact h
 clear h
 cases v with
 | ref i =>
  cases hm : σ.mem i with
  | list vs =>
   cases hn : allInts vs with
   | some ns =>
    by_cases hl : ns.length <= zLs
    ·cases hu : compZ elt σ ns with
     | some us => exact ⟨i, vs, ns, us, rfl, hm, hn, hl, hu, by unfold compIM; dsimp only; rw [hm]; dsimp only; rw [hn]; dsimp only; rw [if_pos hl, hu]⟩
     | none => exact absurd (by unfold compIM; dsimp only; rw [hm]; dsimp only; rw [hn]; dsimp only; rw [if_pos hl, hu]) (hst _)
    ·exact absurd (by unfold compIM; dsimp only; rw [hm]; dsimp only; rw [hn]; dsimp only; rw [if_neg hl]) (hst _)
   | none => exact absurd (by unfold compIM; dsimp only; rw [hm]; dsimp only; rw [hn]) (hst _)
  | _ => exact absurd (by unfold compIM; dsimp only; rw [hm]) (hst _)
 | _ => exact absurd rfl (hst _)
noncomputable def aft (c : M PV) (σ : AS) : AS:=match c σ with
 | .ok _ σ' => σ'
 | .exc _ σ' => σ'
 | .stuck _ => σ
theorem list_ints {xs : List Value} {ns : List Int} (h : IntsAre xs ns) : ∀ (j : Nat) (v : Value), xs.toArray[j]? = some v -> ∃ (k : Int) (t : Tok), ns[j]? = some k /\ v = Value.int k t:=fun j v e => by
 obtain ⟨k, t, q1, q2⟩:=IntsAre.at h j v (by simpa using e)
 exact ⟨k, t, q2, q1⟩
theorem get_arith {x c : Int} {ks : List Int} (h : Arith ks x c) : ∀ j, j < ks.length -> ks[j]? = some (x + (j : Int) * c):=by
 induction h with
 | nil => intro j h; cases h
 | cons h ih =>
  intro j hj
  cases j with
  | zero => simp
  | succ j =>
   have:=ih j (by simpa using hj)
   rw [List.getElem?_cons_succ, this]
   congr 1
   push_cast
   rw [Int.add_mul, Int.one_mul]
   lia
theorem se_compZ (hX : X.Ok) (hF : F.Ok) (hn : 1 <= n) {elt : Expr} {px p rpos pos : Pos} {es : List Expr} {cs : List (M PV)} {d : PV -> P} (K : CsK F scope x) (hb : BnK X F "range" (.type "range")) (hp : PlA es) (h : SIt X n F es cs) (hel : EltS X F scope x elt d) :
  SE X n F (.ListComp elt [⟨.Name x px, .Call (.Name "range" p) es [] rpos, [], 0⟩] scope pos) (eCompZ cs d):=fun A L cl O w σ s Q Er hA hS hP => by
 have hh : A.handled = none:=hA.hd.resolve_right (by lia)
 obtain ⟨cl', hclos, hcl⟩:=K.clos L cl fun nm h1 h2 => hS.pu.ckd nm h1 h2
 have hP' : Post X F L cl O (VRw X) w σ.nxt (bnd (evs cs) (fun vs => bnd (fun s => match rangeK vs with | some r => Res.ok r.2.2 s | none => .stuck "range") (compRM d)) σ) Q Er:=by
  exact Post.eq (bnd_assoc _ _ _ _) hP
 refine wpAny_ListComp_free (fun _ => true) (Frel (match evs cs σ with | .ok _ σ' => σ' | .exc _ σ' => σ' | .stuck _ => σ) d) hclos K.cell K.kind K.names K.x
  (Call_Name rfl (bname hX hF hb.top hb.boot hb.ne hb.kind hb.dbg hS (args_type (hp _ _) (h rpos A L cl O w σ s _ _ hA hS (hP'.bind fun vs σ1 xs w1 s1 e1 S1 E1 V1 P1 => ?_))))) (fun _ => rfl)
 rw [e1]
 dsimp only
 unfold bnd at P1
 cases e : rangeK vs with
 | none => rw [e] at P1; exact P1.elim
 | some r =>
  rw [e] at P1
  refine yN fun hgl => ?_
  obtain ⟨a0, b0, c0, rfl, hc0, hl0, _⟩:=rangeK_some e
  refine hgl ?_; clear hgl
  dsimp only at P1
  unfold compRM at P1
  cases hu : compZ d σ1 (rangeL a0 b0 c0) with
  | none => rw [hu] at P1; exact P1.elim
  | some us =>
   rw [hu] at P1
   obtain ⟨hc, hz⟩:=compZ_some hu
   have ar:=(rangeL_arith (a:=a0) (b:=b0) hc0).1
   refine range_ok S1 V1 e fun a s2 b t u v S2 hr hsm hsz => ?_
   refine wpAny_pyIter_range hr hsm ?_
   rw [hsz]
   have hP1 : ∀ (j : Nat) (v : Value), (j < (rangeL a0 b0 c0).length /\ ∃ t, v = Value.int (a0 + (j : Int) * c0) t) -> ∃ (k : Int) (t : Tok), (rangeL a0 b0 c0)[j]? = some k /\ v = Value.int k t:=fun j v q => by
    obtain ⟨q2, t, q1⟩:=q
    exact ⟨_, t, get_arith ar j q2, q1⟩
   refine ⟨s2.heap.objs.size, [s2.heap.objs.size], [s2.heap.objs.size], (rangeL a0 b0 c0).length, _, _, rfl, (Walks.range hh _ a0 c0 _).bound, yL hl0 lineSz_le, ?_, ?_, ?_, ?_⟩
   ·have e0 : a0 + ((0 : Nat) : Int) * c0 = a0:=by simp
    have e1 : (((rangeL a0 b0 c0).length : Nat) : Int) - ((0 : Nat) : Int) = ((rangeL a0 b0 c0).length : Int):=by simp
    rw [e0, e1]
    exact Heap.get?_push_size _ rfl
   ·intro b' hb'
    show b' < (s2.heap.push _).objs.size
    rw [Heap.size_push, List.mem_singleton.mp hb']
    exact Nat.lt_succ_self _
   ·exact comp_quiet hel hcl S2 hP1 hc hz
   ·intro D h' tk ys vs' hD _ hpl hln hv hF hk
    exact comp_res (o:=rio a0 (rangeL a0 b0 c0).length c0) S2 hc P1 hD hpl hln (fun j v e => hP1 j v (hv j v e)) hF hk
theorem ss_asg_compI (hX : X.Ok) (hF : F.Ok) (hn : 1 <= n) {elt iter : Expr} {y : Str} {px py pos spos : Pos} {i : Nat} {c : M PV} {d : PV -> P} (K : CsK F scope x) (hi : F.vars[i]? = some y) (hl : F.scope.names.lookup y = some .local) (hit : SE X n F iter c) (hel : EltS X F scope x elt d) (hs : ∀ env x, foldedSetIterable iter env x = pure x)
  (hsw : ∀ L cl, swapsWith (.ListComp elt [⟨.Name x px, iter, [], 0⟩] scope pos) (some (.Name y py)) spos.line (F.env L cl) = pure true) :
  SS X n F (.Assign [.Name y py] (.ListComp elt [⟨.Name x px, iter, [], 0⟩] scope pos) spos) (sAsg i (eCompI c d)):=fun A L cl O w σ s Q Er hA hS hP => by
 have hh : A.handled = none:=hA.hd.resolve_right (by lia)
 obtain ⟨cl', hclos, hcl⟩:=K.clos L cl fun nm h1 h2 => hS.pu.ckd nm h1 h2
 have hP' : Post X F L cl O (FlR X) w σ.nxt (bnd c (fun v => bnd (compIM d v) fun u => bnd (setL i u) fun _ => nx) σ) Q Er:=by
  exact Post.eq (bnd_assoc _ _ _ _) hP
 refine wpAny_Assign_ListComp_free (fun _ => true) (Frel (aft c σ) d) (hsw L cl) hclos K.cell K.kind K.names K.x (show Env.kindOf (F.env L cl) y = _ from hl) (by show (F.scope.kind == .class || (F.scope.kind == .module && _)) = false; rw [hF.fn]; rfl) (hit A L cl O w σ s _ _ hA hS (hP'.bind fun v σ1 z w1 s1 e1 S1 E1 V1 P1 => ?_)) (hs _)
 have ea : aft c σ = σ1:=by unfold aft; rw [e1]
 rw [ea]
 refine yN fun hgl => ?_
 obtain ⟨j, vs, ns, us, rfl, hm, hns, hl', hu, e2⟩:=compI_inv (P1.bind (Q':=fun _ _ => True) (R':=VRw X) fun _ _ _ _ _ _ _ _ _ _ => trivial)
 refine hgl ?_; clear hgl
 obtain ⟨hc, hz⟩:=compZ_some hu
 have P2 : Post X F L cl O (FlR X) w1 σ1.nxt (bnd (setL i (.ref σ1.nxt)) (fun _ => nx) ⟨σ1.loc, upd σ1.mem σ1.nxt (.list us), σ1.nxt + 1⟩) Q Er:=by
  have:=P1
  unfold bnd at this
  rw [e2] at this
  exact this
 obtain ⟨rfl, hj⟩:=VR.inv V1
 obtain ⟨xs, k, hx, hvs⟩:=S1.listAt hj hm
 have hI:=intsAre_of hns hvs
 have hlt : w1.al j < s1.heap.objs.size:=Heap.lt_size (S1.nw _ (mem_mo hx)).1
 have hlen : xs.toArray.size = ns.length:=by rw [List.size_toArray, hI.length]
 have hLne : s1.heap.objs.size ≠ L:=fun q => by
  obtain ⟨oL, _, _, hL, _⟩:=S1.fr.ns
  rw [<- q] at hL
  exact Nat.lt_irrefl _ (Heap.lt_size hL)
 refine wpAny_pyIter_list (S1.isList hx) ⟨s1.heap.objs.size, [s1.heap.objs.size, w1.al j], [s1.heap.objs.size], xs.toArray.size, _, _, w1.m, rfl, Walks.list hh _ _ (Nat.ne_of_lt hlt) xs.toArray, by rw [hlen]; exact yL hl' lineSz_le, ⟨⟨_, Heap.get?_push_size _ rfl, rfl, rfl⟩, (S1.isList hx).push _⟩, ?_, ?_, ?_, ?_, ?_⟩
 ·intro b hb
  show b < (s1.heap.push _).objs.size
  rw [Heap.size_push]
  rcases List.mem_cons.mp hb with rfl | hb
  ·exact Nat.lt_succ_self _
  ·rcases List.mem_cons.mp hb with rfl | hb
   ·exact Nat.lt_succ_of_lt hlt
   ·cases hb
 ·intro hb
  exact hLne (List.mem_singleton.mp hb).symm
 ·exact S1.fr.ns.keeps fun b o e => Heap.get?_push_of_some _ e
 ·exact comp_quiet hel hcl S1 (list_ints hI) hc hz
 ·intro D h' tk ys vs' hD _ hpl hln hv hF' hns' hk
  obtain ⟨c', hpl⟩:=hpl
  have kI : ∀ b o', b ≠ L -> s1.heap.get? b = some o' -> h'.get? b = some o':=fun b o' hb e => hk b o' hb (fun q => by
   rw [List.mem_singleton.mp q] at e
   exact Nat.lt_irrefl _ (Heap.lt_size e)) (Heap.get?_push_of_some _ e)
  have hDn : s1.heap.get? D = none:=by
   cases e : s1.heap.get? D with
   | none => rfl
   | some o' => rw [Heap.get?_push_of_some _ e] at hD; cases hD
  have hoff : D ∉ keys w1.P:=fun h => by
   obtain ⟨p, hp, e⟩:=List.mem_map.mp h
   have:=(S1.nw p hp).1
   rw [e, hDn] at this
   cases this
  have hDL : D ≠ L:=fun q => by
   obtain ⟨oL, _, _, hL, _⟩:=S1.fr.ns
   rw [<- q, hDn] at hL
   cases hL
  have hBD : X.B.get? D = none:=by
   cases q : X.B.get? D with
   | none => rfl
   | some o => have:=S1.fr.keep _ _ q; rw [hDn] at this; cases this
  have hf : (vs'.filter fun _ => true) = vs':=List.filter_eq_self.mpr fun _ _ => rfl
  rw [hf] at hF'
  have hvs':=paired_vrs (X:=X) (w:=w1) hc (hln.trans hlen) (fun j v e => list_ints hI j v (hv j v e)) hF'
  unfold bnd setL at P2
  split at P2
  ·rename_i q heq
   split at heq
   ·cases heq
    have pu1:=S1.pu.newObj (es:=[(D, W.listOf ys.toList.toArray c')]) (a:=D) (d:=D) (o:=.list us) (by simp [keys]) (fun b hb => by rw [List.mem_singleton.mp hb]; exact hoff) (.head _) (.head _) ⟨_, c', .head _, hvs'.mono (al1_grow ..)⟩
    have pu2:=pu1.setLoc hF hi hl (v:=.ref σ1.nxt) (x:=.ref D) (vr_new (X:=X) (es:=[(D, W.listOf ys.toList.toArray c')]) (d:=D) (w:=w1))
    refine P2 _ { w1 with mo:=[(D, W.listOf ys.toList.toArray c')] ++ w1.mo, al:=al1 w1.al σ1.nxt D, be:=al1 w1.be σ1.nxt D, m:=fun z => if z = y then some (.ref D) else w1.m z } _ ⟨pu2, ⟨hns', fun b o e => kI b o (fun q => ?_) (S1.fr.keep b o e), S1.fr.above⟩, fun p hp => ?_, S1.gens, S1.os⟩ ⟨⟨fun _ h => h, fun _ h => al1_lt h, Nat.le_succ _⟩, rfl⟩ .nx
    ·exact absurd (Heap.lt_size e) (by rw [q]; exact Nat.not_lt.mpr S1.fr.above)
    ·rcases List.mem_cons.mp (show p ∈ (D, W.listOf ys.toList.toArray c') :: w1.P from hp) with rfl | hp
     ·exact ⟨by simpa using hpl, hDL, hBD⟩
     ·have:=S1.nw p hp
      exact ⟨kI _ _ this.2.1 this.1, this.2⟩
   ·cases heq
  ·rename_i heq
   split at heq <;> cases heq
  ·exact P2.elim
end
end Mine
end
section
open PySem PySem.W PyProof.Rows
set_option maxRecDepth 100000
set_option maxHeartbeats 8000000
namespace Mine
theorem left_boot {p q : Program} {loose : List Str} {Xt : Shared -> Bool} {α : Type} {Yf : Shared -> α} {Ya : World -> α} {N : Nat} (e : opening p = plainProg p.main.scope.names) (hN : Nat.ble 600 N = true) (f : ∀ s, fenceModules? p s = some s)
  (h : ∀ w os, (topFrom treeTable p w N ⟨boot_heap w.params, #[], boot_drawn, boot_toks, os⟩).map (fun s => (openSeen q loose (importedModules p.main.body) Xt true s, Yf s)) = some (openGood q loose, Ya w)) : LeftO p q loose Xt Yf Ya N:=fun w => by
 obtain ⟨⟨hp, gs, d, k, os⟩, a, b⟩:=Option.map_eq_some_iff.mp (boot_open e hN f w)
 obtain ⟨rfl, rfl, rfl, rfl⟩ : hp = boot_heap w.params /\ gs = #[] /\ d = boot_drawn /\ k = boot_toks:=by simpa using b
 show ((fencedOpening treeTable p w N).bind _).map _ = _
 rw [a]
 exact h w os
noncomputable def topQ (p : Program) (w : World) (N : Nat) (s₀ : Shared) : Option Shared :=
 match s₀.heap.isNs mainGlobals && s₀.gens.size == 0 with
 | true => (PySem.W.Fast.tw14082659384304107361 PySem.W.Fast.tw14364793385576792824 p w s₀.heap.objs.size (s₀.heap.nsMap mainGlobals "__annotations__") N s₀ (topStub p)).bind fun s₁ => match staticsOk (importedModules p.main.body) s₀.heap s₁.heap && namesBound p s₁.heap && gensDone s₁ && laidKept s₀.heap s₁.heap with
   | true => some s₁
   | false => none
 | false => none
theorem topQ_eq : topFrom treeTable = topQ:=by
 funext p w N s
 unfold topFrom topQ
 rw [PySem.W.Fast.te14082659384304107361, PySem.W.Fast.te14364793385576792824]
 rfl
noncomputable def qv : Program:=view PySem.Challenge.pw_no0097_01 [0, 2, 3, 4, 5, 6, 8, 9, 10, 11, 12, 13, 14, 15, 16, 17, 18, 19, 20, 21, 22, 24, 25, 26, 27, 28, 29, 30, 31, 32, 33, 34, 35]
noncomputable def los : List Str:=["PressError", "TOTAL", "START", "LEAST_SPAN", "MOST_SPAN", "CARRY", "MAY_CARRY"]
noncomputable def lvs : List (Str × WData):=[("TOTAL", .int 2048), ("START", .int 1024), ("LEAST_SPAN", .int 16777216), ("MOST_SPAN", .int 4294967295), ("CARRY", .int 4294967296), ("MAY_CARRY", .int 4278190080)]
theorem law1 (h : PySem.Challenge.rw_no0097_01.row.Holds) : PySem.Challenge.rw_no0097_01.Holds:=holds_law (by decide +kernel) fun _ => h
theorem head1 (H : Hook) {d : DefRec} {kwd : List (Str × Expr)}
  (hl : ∀ w os, (topFrom treeTable PySem.Challenge.rw_no0097_01.row.prog w 5706 ⟨boot_heap w.params, #[], boot_drawn, boot_toks, os⟩).map (fun s => (openSeen qv los (importedModules PySem.Challenge.rw_no0097_01.row.prog.main.body) (fun s => xlAt qv lvs s && recOk [] s) true s, H.obs s)) = some (openGood qv los, H.val w))
  (hdef : defOf qv PySem.Challenge.rw_no0097_01.row.name = some (d, kwd)) (hp : PySem.Challenge.rw_no0097_01.row.prog.theDef PySem.Challenge.rw_no0097_01.row.name = some (d.params, d.body, d.scope)) (hk : kwWritten? d.params.kwonlyargs d.params.kw_defaults = some kwd)
  (hw : PySem.Challenge.rw_no0097_01.row.toRowW.promised) (hc : WalkJ qv los (XL qv lvs) H.says PySem.Challenge.rw_no0097_01.row.toRowW d kwd) : PySem.Challenge.rw_no0097_01.row.Holds :=
 holdsJ (q:=qv) (loose:=los) (Xt:=fun s => xlAt qv lvs s && recOk [] s) (XP:=XL qv lvs) (Yf:=H.obs) (Ya:=H.val) (YP:=H.says) (N:=5706) (left_boot (by kernel_rfl) (by rfl) (fun s => by kernel_rfl) hl) H.of H.keeps (fun s e => xl_of s (Bool.and_eq_true_iff.mp e).1) XL.keeps hdef hp hk (fun s e => recFacts_of (Bool.and_eq_true_iff.mp e).2) (by rfl) (by decide +kernel) (by decide +kernel) ⟨rfl, rfl, rfl, rfl, rfl, by decide +kernel⟩ hw hc
local macro_rules | `(tactic| o_law) => `(tactic| refine law1 ?_)
local macro_rules | `(tactic| o_head $H) => `(tactic| (refine head1 $H ?hl (by rfl) (by rfl) (by rfl) ?hw ?hc; case hl => (rw [topQ_eq, PySem.W.Fast.te4187177175401517315]; intro w os; kernel_rfl)))
open_top hd for PySem.Challenge.rw_no0097_01
end Mine
end
section
open PySem PySem.W PyProof.Rows PySem.Calls
set_option maxRecDepth 100000
set_option maxHeartbeats 2000000
namespace Mine
theorem lk {a b n : Nat} (e : Nat.ble a b = true) (h : b <= n) : a <= n:=yL (Nat.le_of_ble_eq_true e) h
theorem lk1 {a b n : Nat} (e : Nat.ble (a + 1) b = true) (h : b <= n + 1) : a <= n:=Nat.le_of_succ_le_succ (yL (Nat.le_of_ble_eq_true e) h)
theorem lk2 {a b n : Nat} (e : Nat.ble (a + 1) b = true) (h : b <= n) : a <= n - 1:=Nat.le_sub_of_add_le (yL (Nat.le_of_ble_eq_true e) h)
theorem ex1 {b n : Nat} (e : Nat.ble 1 b = true) (h : b <= n) : ∃ m, n = m + 1:=⟨n - 1, (Nat.sub_add_cancel (yL (Nat.le_of_ble_eq_true e) h)).symm⟩
inductive FnDX (K : Frag) (fa : Addr) (qual : Str) (scope : Scope) (body : List Stmt) (params : Arguments) (cd : Value) : Prop where
 | mk (name : _) (dV : _) (kV : _) (doc : _) (pm : _) (an : _) (ct : _) (oc : _) (od : _) (osl : _) (h : K.lookup fa = some ⟨oc, od, .func (fnX name qual params body scope [] dV kV doc pm an cd ct), osl⟩) : FnDX K fa qual scope body params cd
structure FnD (K : Frag) (fa : Addr) where
 qual : Str
 scope : Scope
 body : List Stmt
 params : Arguments
 cd : Value
 h : FnDX K fa qual scope body params cd
noncomputable def FnD.fc {K : Frag} {fa : Addr} (D : FnD K fa) (vars : List Str) : FnC:=⟨D.qual, D.scope, fa, D.cd, vars⟩
noncomputable def isLC : Option NameKind -> Bool
 | some .local => true
 | some .cell => true
 | _ => false
noncomputable def fcOkB (F : FnC) : Bool:=(F.scope.kind == .function) && decide F.vars.Nodup && F.vars.all fun nm => isLC (F.scope.names.lookup nm) && !(nm == ("__debug__" : Str))
theorem FnC.Ok.of {F : FnC} (h : fcOkB F = true) : F.Ok:=by
 unfold fcOkB at h
 simp only [Bool.and_eq_true, decide_eq_true_eq, List.all_eq_true, Bool.not_eq_true'] at h
 obtain ⟨⟨h1, h2⟩, h3⟩:=h
 refine ⟨?_, h2, fun nm hm => ?_, fun nm hm => (h3 nm hm).2⟩
 ·cases e : F.scope.kind <;> rw [e] at h1 <;> first | rfl | exact absurd h1 (by decide)
 ·have:=(h3 nm hm).1
  cases e : F.scope.names.lookup nm with
  | none => rw [e] at this; cases this
  | some k => cases k <;> rw [e] at this <;> first | exact .inl rfl | exact .inr rfl | cases this
section
variable {X : Cx} {n : Nat} {F : FnC} {L : Addr} {cl : List (Str × Addr)} {O : Outer} {w : Wd} {σ : AS} {s : Shared} {A : Around} {env : Env} {Er : Value -> Shared -> Prop}
theorem gn {nm : Str} {v : Value} (a : nsIn X.K mainGlobals nm = some (some v)) (b : F.scope.names.lookup nm = some .globalImplicit) (c : (nm == ("__debug__" : Str)) = false) : GnK X F nm v:=⟨a, b, c⟩
theorem bn {nm : Str} {v : Value} (a : nsIn X.K mainGlobals nm = some none) (b : bootBuiltins nm = some v) (c : nm ≠ "__name__") (d : F.scope.names.lookup nm = some .globalImplicit) (e : (nm == ("__debug__" : Str)) = false) : BnK X F nm v:=⟨a, b, c, d, e⟩
theorem pla_nil : PlA []:=fun pos env => .inl rfl
theorem wpJ_AsgA {M : Model} {o : Expr} {attr : Str} {pos' : Pos} {value : Expr} {pos : Pos} {Q : Flow -> Shared -> Prop}
  (h : wpJ M A (eval value env) (fun v s₁ => wpAny M A (eval o env) (fun ov s₂ => wpAny M A (setAttr ov attr v) (fun _ => Q .next) Er s₂) Er s₁) Er s)
  (hs : swapsWith value (some (.Attribute o attr pos')) pos.line env = pure false) : wpJ M A (exec (.Assign [.Attribute o attr pos'] value pos) env) Q Er s:=fun Γ p hΓ n1 n2 => by
 simp only [plainObj_exec_Assign_Attribute o attr pos' value pos hs, assign_Attribute, Sem.wp_bind', Sem.wp_holding, Sem.wp_cmd_standAt, Sem.wp_release, Sem.wp_pure']
 exact Sem.wp_mono M Γ _ (fun v p₁ s₁ h₁ => Sem.wp_mono M Γ _ (fun ov _ s₂ h₂ => h₂ Γ _ hΓ) (fun _ _ _ h' => h') _ _ (h₁ Γ p₁ hΓ)) (fun _ _ _ h' => h') _ _ (h Γ _ hΓ n1 n2)
theorem ssJ_asgA (hX : X.Ok) {o e : Expr} {nm : Str} {k : Nat} {co ce : M PV} {p pos : Pos} (hk : fnm[k]? = some nm) (hg : SetOk X.K nm) (h : SEJ X n F e ce) (ho : SE X n F o co)
  (hs : ∀ env, swapsWith e (some (.Attribute o nm p)) pos.line env = pure false) : SSJ X n F (.Assign [.Attribute o nm p] e pos) (sAsgA co k ce):=fun A L cl O w σ s Q Er hA hS hP =>
 wpJ_AsgA (h A L cl O w σ s _ _ hA hS (hP.bind fun v σ1 x w1 s1 _ S1 E1 V1 P1 =>
  ho A L cl O w1 σ1 s1 _ _ hA S1 (P1.bind fun u σ2 y w2 s2 _ S2 E2 V2 P2 =>
   setAttr_ok hX S2 hk hg V2 (V1.mono E2.toGrow) (P2.bind fun _ σ3 _ w3 s3 _ S3 E3 _ P3 => P3 _ _ _ S3 .refl .nx)))) (hs _)
theorem se_intB (hX : X.Ok) (hF : F.Ok) {nm : Str} {p pos : Pos} {e : Expr} {t : M Bool} (hn : BnK X F nm (.type "int")) (h : SE X n F e (eB t)) (he : ∀ env, starEach [e] env = [(false, eval e env)]) : SE X n F (.Call (.Name nm p) [e] [] pos) (eIntB t) :=
 eIntB_eq t ▸ se_t1 hX hF hn h he fun_int
end
section
variable {X : Cx} {n : Nat} {F : FnC} {L : Addr} {cl : List (Str × Addr)} {O : Outer} {w : Wd} {σ : AS} {s : Shared} {A : Around} {env : Env} {Er : Value -> Shared -> Prop} {scope : Scope} {x : Str}
theorem eB_and (t u : M Bool) : eB (tAnd t u) = bnd (eB t) fun v => match v with | .bool true => eB u | v => ret v:=by
 funext σ
 unfold eB tAnd bnd
 cases t σ with
 | ok b σ' => cases b <;> rfl
 | exc => rfl
 | stuck => rfl
theorem se_and {e1 e2 : Expr} {pos : Pos} {t u : M Bool} (h1 : SE X n F e1 (eB t)) (h2 : SE X n F e2 (eB u)) : SE X n F (.BoolOp .And [e1, e2] pos) (eB (tAnd t u)):=fun A L cl O w σ s Q Er hA hS hP => by
 rw [eB_and] at hP
 refine BoolOp_and (h1 A L cl O w σ s _ _ hA hS (hP.bind fun v σ1 y w1 s1 e S1 E1 V1 P1 => ?_))
 have hb : ∃ b, v = .bool b:=by
  unfold eB bnd at e
  cases q : t σ with
  | ok b σ' => rw [q] at e; cases e; exact ⟨b, rfl⟩
  | exc => rw [q] at e; cases e
  | stuck => rw [q] at e; cases e
 obtain ⟨b, rfl⟩:=hb
 cases V1
 refine wpAny_truthy_bool ?_
 cases b with
 | true => exact BoolOp_one (h2 A L cl O w1 σ1 s1 _ _ hA S1 P1)
 | false => exact P1 _ _ _ S1 .refl (.bool _)
theorem pla_of {e : Expr} {es : List Expr} (h : ∀ env, starEach (e :: es) env = (false, eval e env) :: starEach es env) (h' : ∀ pos env, (backTo pos (starEach es env)).any (·.1) = false) : PlA (e :: es):=fun pos env => .inr ⟨eval e env, backTo pos (starEach es env), by rw [h]; rfl, h' pos env⟩
end
theorem getK (P : Params) : ∀ nm ∈ fnm, GetOk (hd.heap_1 P) nm:=by
 intro nm h C hC
 simp only [fnm, List.mem_cons, List.not_mem_nil, or_false] at h
 rcases h with rfl | rfl | rfl | rfl | rfl | rfl | rfl | rfl | rfl | rfl | rfl <;> rcases hC with rfl | rfl <;> exact ⟨by kernel_rfl, by kernel_rfl, none, by kernel_rfl, by kernel_rfl⟩
theorem setK' (P : Params) : ∀ nm ∈ fnm, SetOk (hd.heap_1 P) nm:=by
 intro nm h C hC
 simp only [fnm, List.mem_cons, List.not_mem_nil, or_false] at h
 rcases h with rfl | rfl | rfl | rfl | rfl | rfl | rfl | rfl | rfl | rfl | rfl <;> rcases hC with rfl | rfl <;> exact ⟨by kernel_rfl, by kernel_rfl, by kernel_rfl, by kernel_rfl⟩
theorem exK (P : Params) : ∀ C, C = 52 \/ C = 64 \/ C = 76 \/ C = 88 -> ExcK (hd.heap_1 P) C:=by
 intro C h
 rcases h with rfl | rfl | rfl | rfl <;> exact ⟨⟨_, _, _, _, _, _, _, _, _, _, _, _, _, _, rfl⟩, by kernel_rfl, by kernel_rfl, by kernel_rfl, by kernel_rfl⟩
theorem inK (P : Params) : InitK (hd.heap_1 P) :=
 ⟨⟨_, _, _, _, _, _, _, _, _, _, _, _, _, _, _, _, _, _, _, _, _, _, _, rfl, fun s a b hK => binds_K hK rfl rfl rfl rfl rfl, by kernel_rfl, rfl, rfl, rfl, by decide, rfl, rfl, rfl, fun _ => rfl⟩, by kernel_rfl, by kernel_rfl⟩
@[elab_as_elim] theorem ln0 {C : List Value -> Prop} (l : List Value) (h : l.length = 0) (H : C []) : C l:=by
 cases l with
 | nil => exact H
 | cons a l => cases h
@[elab_as_elim] theorem ln1 {C : List Value -> Prop} (l : List Value) (h : l.length = 1) (H : ∀ a, C [a]) : C l:=by
 cases l with
 | nil => cases h
 | cons a l => exact ln0 (C:=fun l => C (a :: l)) l (Nat.succ.inj h) (H a)
@[elab_as_elim] theorem ln2 {C : List Value -> Prop} (l : List Value) (h : l.length = 2) (H : ∀ a b, C [a, b]) : C l:=by
 cases l with
 | nil => cases h
 | cons a l => exact ln1 (C:=fun l => C (a :: l)) l (Nat.succ.inj h) (H a)
@[elab_as_elim] theorem ln3 {C : List Value -> Prop} (l : List Value) (h : l.length = 3) (H : ∀ a b c, C [a, b, c]) : C l:=by
 cases l with
 | nil => cases h
 | cons a l => exact ln2 (C:=fun l => C (a :: l)) l (Nat.succ.inj h) (H a)
@[elab_as_elim] theorem ln4 {C : List Value -> Prop} (l : List Value) (h : l.length = 4) (H : ∀ a b c d, C [a, b, c, d]) : C l:=by
 cases l with
 | nil => cases h
 | cons a l => exact ln3 (C:=fun l => C (a :: l)) l (Nat.succ.inj h) (H a)
@[elab_as_elim] theorem ln5 {C : List Value -> Prop} (l : List Value) (h : l.length = 5) (H : ∀ a b c d e, C [a, b, c, d, e]) : C l:=by
 cases l with
 | nil => cases h
 | cons a l => exact ln4 (C:=fun l => C (a :: l)) l (Nat.succ.inj h) (H a)
@[elab_as_elim] theorem ln6 {C : List Value -> Prop} (l : List Value) (h : l.length = 6) (H : ∀ a b c d e f, C [a, b, c, d, e, f]) : C l:=by
 cases l with
 | nil => cases h
 | cons a l => exact ln5 (C:=fun l => C (a :: l)) l (Nat.succ.inj h) (H a)
section
variable {P : Params} {X : Cx} {n : Nat} {F : FnC}
theorem hget (hK : X.K = hd.heap_1 P) (nm : Str) (h : nm ∈ fnm) : GetOk X.K nm:=hK ▸ getK P nm h
theorem hset (hK : X.K = hd.heap_1 P) (nm : Str) (h : nm ∈ fnm) : SetOk X.K nm:=hK ▸ setK' P nm h
theorem hI (hK : X.K = hd.heap_1 P) : InitK X.K:=hK ▸ inK P
theorem hE52 (hK : X.K = hd.heap_1 P) : ExcK X.K 52:=hK ▸ exK P 52 (by decide)
theorem hE64 (hK : X.K = hd.heap_1 P) : ExcK X.K 64:=hK ▸ exK P 64 (by decide)
theorem hE76 (hK : X.K = hd.heap_1 P) : ExcK X.K 76:=hK ▸ exK P 76 (by decide)
theorem hE88 (hK : X.K = hd.heap_1 P) : ExcK X.K 88:=hK ▸ exK P 88 (by decide)
theorem hEs (hK : X.K = hd.heap_1 P) : ∀ C, C = 52 \/ C = 64 \/ C = 76 \/ C = 88 -> ExcK X.K C:=hK ▸ exK P
theorem cellsFrom_has {nm : Str} : ∀ (l : List (Str × NameKind)) (m m' : Nat) (c c' : List (Str × Addr)), (c.lookup nm).isSome = (c'.lookup nm).isSome -> ((cellsFrom m l c).lookup nm).isSome = ((cellsFrom m' l c').lookup nm).isSome
 | [], _, _, _, _, h => h
 | (a, k) :: r, m, m', c, c', h => by
  unfold cellsFrom
  split
  ·refine cellsFrom_has r _ _ _ _ ?_
   simp only [List.lookup_cons]
   cases nm == a <;> simp [h]
  ·exact cellsFrom_has r _ _ _ _ h
noncomputable def isCell : Option NameKind -> Bool
 | some .cell => true
 | _ => false
theorem ckd_auto {F : FnC} (h : (F.vars.all fun nm => !isCell (F.scope.names.lookup nm) || ((cellsFrom 0 F.scope.names []).lookup nm).isSome) = true) : ∀ m, ∀ nm ∈ F.vars, F.scope.names.lookup nm = some .cell -> ((cellsFrom m F.scope.names []).lookup nm).isSome = true:=fun m nm hm hc => by
 have:=List.all_eq_true.mp h nm hm
 rw [hc] at this
 rw [cellsFrom_has _ m 0 [] [] rfl]
 simpa [isCell] using this
theorem nd_auto {l : List Str} (h : decide l.Nodup = true) : l.Nodup:=of_decide_eq_true h
theorem CodD {f : Value} {N ps : Nat} {B : List S} {dflt : List PV} (hd : dflt.length <= ps) (h : CodS X n F f ps (fnM N B)) : CodS X n F f ps (fnD N ps dflt B):=fun A L cl O w σ s vs xs Q Er hl hA hS hv hP => h A L cl O w σ s vs xs Q Er hl hA hS hv (by
 unfold fnD at hP
 have e : vs.length - (ps - dflt.length) = dflt.length:=by omega
 rw [e, List.drop_length, List.append_nil] at hP
 exact hP)
end
end Mine
end
section
open PySem PySem.W PyProof.Rows PySem.Calls
set_option maxRecDepth 100000
set_option maxHeartbeats 4000000
namespace Mine
section
variable {P : Params} {X : Cx} {n : Nat} {F : FnC}
noncomputable def d97 (P : Params) : FnD (hd.heap_1 P) 97:=⟨_, _, _, _, _, ⟨_, _, _, _, _, _, _, _, _, _, rfl⟩⟩
noncomputable abbrev f97 (P : Params) : FnC:=(d97 P).fc ["count"]
theorem ok97 {P : Params} : (f97 P).Ok:=.of rfl
theorem D97 (P : Params) : DefK (hd.heap_1 P) (f97 P) (d97 P).body 1 :=
 ⟨⟨_, _, _, _, _, _, _, _, _, _, _, rfl, fun xs hl => by exact ln1 xs hl fun _ _ _ => .of_eq rfl⟩, by kernel_rfl, rfl, rfl, Nat.le_of_ble_eq_true rfl, nd_auto rfl, ckd_auto rfl⟩
theorem s97 (hX : X.Ok) (hK : X.K = hd.heap_1 P) (hn : 1 <= n) : SSs X n (f97 P) (d97 P).body (sSeq B_fresh_models) :=
 (zss (ss_ret (zb (op:=.mul) (se_list (zc (se_gint hX ok97 (by rw [hK]; rfl) rfl rfl) zn fun _ => rfl) (by decide)) (zl ok97 rfl)))
  ss_nil)
theorem c97 (hX : X.Ok) (hK : X.K = hd.heap_1 P) (hn : 2 <= n) (hF : F.Ok) : CodS X n F (.ref 97) 1 F_fresh_models:=by
 obtain ⟨m, rfl⟩:=ex1 rfl hn
 exact (fun_def hX hF ok97 (by rw [hK]; exact D97 P) (s97 hX hK (lk1 rfl hn)))
theorem h97 (hX : X.Ok) (hK : X.K = hd.heap_1 P) (hn : 2 <= n) (hF : F.Ok) : FunS X n F (.ref 97) 1 F_fresh_models:=(c97 hX hK hn hF).fun
noncomputable def d104 (P : Params) : FnD (hd.heap_1 P) 104:=⟨_, _, _, _, _, ⟨_, _, _, _, _, _, _, _, _, _, rfl⟩⟩
noncomputable abbrev f104 (P : Params) : FnC:=(d104 P).fc ["model", "bit"]
theorem ok104 {P : Params} : (f104 P).Ok:=.of rfl
theorem D104 (P : Params) : DefK (hd.heap_1 P) (f104 P) (d104 P).body 2 :=
 ⟨⟨_, _, _, _, _, _, _, _, _, _, _, rfl, fun xs hl => by exact ln2 xs hl fun _ _ _ _ => .of_eq rfl⟩, by kernel_rfl, rfl, rfl, Nat.le_of_ble_eq_true rfl, nd_auto rfl, ckd_auto rfl⟩
theorem s104 (hX : X.Ok) (hK : X.K = hd.heap_1 P) (hn : 1 <= n) : SSs X n (f104 P) (d104 P).body (sSeq B_next_model) :=
 (zss (ss_if (st_cmp (c:=.eq) (zl ok104 rfl) zi rfl)
  (zss (ss_ret (zb (op:=.add) (zl ok104 rfl) (zb (op:=.shr) (zb (op:=.sub) (se_gint hX ok104 (by rw [hK]; rfl) rfl rfl) (zl ok104 rfl)) (se_gint hX ok104 (by rw [hK]; rfl) rfl rfl))))
  ss_nil)
  ss_nil)
  (zss (ss_ret (zb (op:=.sub) (zl ok104 rfl) (zb (op:=.shr) (zl ok104 rfl) (se_gint hX ok104 (by rw [hK]; rfl) rfl rfl))))
  ss_nil))
theorem c104 (hX : X.Ok) (hK : X.K = hd.heap_1 P) (hn : 2 <= n) (hF : F.Ok) : CodS X n F (.ref 104) 2 F_next_model:=by
 obtain ⟨m, rfl⟩:=ex1 rfl hn
 exact (fun_def hX hF ok104 (by rw [hK]; exact D104 P) (s104 hX hK (lk1 rfl hn)))
theorem h104 (hX : X.Ok) (hK : X.K = hd.heap_1 P) (hn : 2 <= n) (hF : F.Ok) : FunS X n F (.ref 104) 2 F_next_model:=(c104 hX hK hn hF).fun
noncomputable def d111 (P : Params) : FnD (hd.heap_1 P) 111:=⟨_, _, _, _, _, ⟨_, _, _, _, _, _, _, _, _, _, rfl⟩⟩
noncomputable abbrev f111 (P : Params) : FnC:=(d111 P).fc ["bit"]
theorem ok111 {P : Params} : (f111 P).Ok:=.of rfl
theorem D111 (P : Params) : DefK (hd.heap_1 P) (f111 P) (d111 P).body 1 :=
 ⟨⟨_, _, _, _, _, _, _, _, _, _, _, rfl, fun xs hl => by exact ln1 xs hl fun _ _ _ => .of_eq rfl⟩, by kernel_rfl, rfl, rfl, Nat.le_of_ble_eq_true rfl, nd_auto rfl, ckd_auto rfl⟩
theorem s111 (hX : X.Ok) (hK : X.K = hd.heap_1 P) (hn : 1 <= n) : SSs X n (f111 P) (d111 P).body (sSeq B_need_bit) :=
 (zss (ss_if (st_notIn (zl ok111 rfl))
  (zss (ss_raise hX ok111 (lk rfl hn) (hI hK) (hE88 hK) (gn (by rw [hK]; rfl) rfl rfl))
  ss_nil)
  ss_nil)
  ss_nil)
theorem c111 (hX : X.Ok) (hK : X.K = hd.heap_1 P) (hn : 2 <= n) (hF : F.Ok) : CodS X n F (.ref 111) 1 F_need_bit:=by
 obtain ⟨m, rfl⟩:=ex1 rfl hn
 exact (fun_def hX hF ok111 (by rw [hK]; exact D111 P) (s111 hX hK (lk1 rfl hn)))
theorem h111 (hX : X.Ok) (hK : X.K = hd.heap_1 P) (hn : 2 <= n) (hF : F.Ok) : FunS X n F (.ref 111) 1 F_need_bit:=(c111 hX hK hn hF).fun
noncomputable def d118 (P : Params) : FnD (hd.heap_1 P) 118:=⟨_, _, _, _, _, ⟨_, _, _, _, _, _, _, _, _, _, rfl⟩⟩
noncomputable abbrev f118 (P : Params) : FnC:=(d118 P).fc ["value", "count"]
theorem ok118 {P : Params} : (f118 P).Ok:=.of rfl
theorem D118 (P : Params) : DefK (hd.heap_1 P) (f118 P) (d118 P).body 2 :=
 ⟨⟨_, _, _, _, _, _, _, _, _, _, _, rfl, fun xs hl => by exact ln2 xs hl fun _ _ _ _ => .of_eq rfl⟩, by kernel_rfl, rfl, rfl, Nat.le_of_ble_eq_true rfl, nd_auto rfl, ckd_auto rfl⟩
theorem s118 (hX : X.Ok) (hK : X.K = hd.heap_1 P) (hn : 1 <= n) : SSs X n (f118 P) (d118 P).body (sSeq B_need_value) :=
 (zss (ss_if (st_bool (all_or (st_cmp (c:=.lt) (zl ok118 rfl) zi rfl) (all_or1 (st_not (st_chain2 (c:=.le) (d:=.lt) zi (zl ok118 rfl) (zb (op:=.shl) zi (zl ok118 rfl)) rfl)))))
  (zss (ss_raise hX ok118 (lk rfl hn) (hI hK) (hE88 hK) (gn (by rw [hK]; rfl) rfl rfl))
  ss_nil)
  ss_nil)
  ss_nil)
theorem c118 (hX : X.Ok) (hK : X.K = hd.heap_1 P) (hn : 2 <= n) (hF : F.Ok) : CodS X n F (.ref 118) 2 F_need_value:=by
 obtain ⟨m, rfl⟩:=ex1 rfl hn
 exact (fun_def hX hF ok118 (by rw [hK]; exact D118 P) (s118 hX hK (lk1 rfl hn)))
theorem h118 (hX : X.Ok) (hK : X.K = hd.heap_1 P) (hn : 2 <= n) (hF : F.Ok) : FunS X n F (.ref 118) 2 F_need_value:=(c118 hX hK hn hF).fun
noncomputable def d140 (P : Params) : FnD (hd.heap_1 P) 140:=⟨_, _, _, _, _, ⟨_, _, _, _, _, _, _, _, _, _, rfl⟩⟩
noncomputable abbrev f140 (P : Params) : FnC:=(d140 P).fc ["self"]
theorem ok140 {P : Params} : (f140 P).Ok:=.of rfl
theorem D140 (P : Params) : DefK (hd.heap_1 P) (f140 P) (d140 P).body 1 :=
 ⟨⟨_, _, _, _, _, _, _, _, _, _, _, rfl, fun xs hl => by exact ln1 xs hl fun _ _ _ => .of_eq rfl⟩, by kernel_rfl, rfl, rfl, Nat.le_of_ble_eq_true rfl, nd_auto rfl, ckd_auto rfl⟩
theorem s140 (hX : X.Ok) (hK : X.K = hd.heap_1 P) (hn : 1 <= n) : SSs X n (f140 P) (d140 P).body (sSeq B_RangeReader_octet) :=
 (zss (ss_if (st_cmp (c:=.ge) (se_attr hX (k:=9) rfl (hget hK "place" (by decide)) (zl ok140 rfl) fun _ => rfl) (se_attr hX (k:=7) rfl (hget hK "stop" (by decide)) (zl ok140 rfl) fun _ => rfl) rfl)
  (zss (ss_raise hX ok140 (lk rfl hn) (hI hK) (hE52 hK) (gn (by rw [hK]; rfl) rfl rfl))
  ss_nil)
  ss_nil)
  (zss (ss_augA (op:=.add) (k:=9) hX rfl rfl (hget hK "place" (by decide)) (hset hK "place" (by decide)) (zl ok140 rfl) zi)
  (zss (ss_ret (se_sub (se_attr hX (k:=6) rfl (hget hK "data" (by decide)) (zl ok140 rfl) fun _ => rfl) (zb (op:=.sub) (se_attr hX (k:=9) rfl (hget hK "place" (by decide)) (zl ok140 rfl) fun _ => rfl) zi) fun _ _ => rfl))
  ss_nil)))
theorem c140 (hX : X.Ok) (hK : X.K = hd.heap_1 P) (hn : 2 <= n) (hF : F.Ok) : CodS X n F (.ref 140) 1 F_RangeReader_octet:=by
 obtain ⟨m, rfl⟩:=ex1 rfl hn
 exact (fun_def hX hF ok140 (by rw [hK]; exact D140 P) (s140 hX hK (lk1 rfl hn)))
theorem h140 (hX : X.Ok) (hK : X.K = hd.heap_1 P) (hn : 2 <= n) (hF : F.Ok) : FunS X n F (.ref 140) 1 F_RangeReader_octet:=(c140 hX hK hn hF).fun
theorem hm140 (hK : X.K = hd.heap_1 P) : MethK X.K 199 "octet" 140:=hK ▸ ⟨by kernel_rfl, by kernel_rfl, by kernel_rfl, by kernel_rfl, by decide⟩
noncomputable def d133 (P : Params) : FnD (hd.heap_1 P) 133:=⟨_, _, _, _, _, ⟨_, _, _, _, _, _, _, _, _, _, rfl⟩⟩
noncomputable abbrev f133 (P : Params) : FnC:=(d133 P).fc ["self", "octets", "start", "end", "turn"]
theorem ok133 {P : Params} : (f133 P).Ok:=.of rfl
theorem D133 (P : Params) : DefK (hd.heap_1 P) (f133 P) (d133 P).body 4 :=
 ⟨⟨_, _, _, _, _, _, _, _, _, _, _, rfl, fun xs hl => by exact ln4 xs hl fun _ _ _ _ _ hK => binds_K hK rfl rfl rfl rfl rfl⟩, by kernel_rfl, rfl, rfl, Nat.le_of_ble_eq_true rfl, nd_auto rfl, ckd_auto rfl⟩
theorem s133 (hX : X.Ok) (hK : X.K = hd.heap_1 P) (hn : 2 <= n) : SSs X n (f133 P) (d133 P).body (sSeq B_RangeReader_init) :=
 (zss (ss_asgA hX (k:=6) rfl (hset hK "data" (by decide)) (se_t1 hX ok133 (bn (by rw [hK]; rfl) rfl (by decide) rfl rfl) (zl ok133 rfl) (fun _ => rfl) (fun_bytes (lk rfl hn))) (zl ok133 rfl) fun _ => rfl)
  (zss (ss_asgA hX (k:=7) rfl (hset hK "stop" (by decide)) (se_if (st_isNone (zl ok133 rfl)) (se_b1 hX ok133 (bn (by rw [hK]; rfl) rfl (by decide) rfl rfl) (se_attr hX (k:=6) rfl (hget hK "data" (by decide)) (zl ok133 rfl) fun _ => rfl) (fun _ => rfl) fun_len) (zl ok133 rfl)) (zl ok133 rfl) fun _ => rfl)
  (zss (ss_if (st_not (st_chain3 (c:=.le) (d:=.le) (e:=.le) zi (zl ok133 rfl) (se_attr hX (k:=7) rfl (hget hK "stop" (by decide)) (zl ok133 rfl) fun _ => rfl) (se_b1 hX ok133 (bn (by rw [hK]; rfl) rfl (by decide) rfl rfl) (se_attr hX (k:=6) rfl (hget hK "data" (by decide)) (zl ok133 rfl) fun _ => rfl) (fun _ => rfl) fun_len) rfl))
  (zss (ss_raise hX ok133 (lk rfl hn) (hI hK) (hE88 hK) (gn (by rw [hK]; rfl) rfl rfl))
  ss_nil)
  ss_nil)
  (zss (ss_asgA hX (k:=8) rfl (hset hK "start" (by decide)) (zl ok133 rfl) (zl ok133 rfl) fun _ => rfl)
  (zss (ss_asgA hX (k:=9) rfl (hset hK "place" (by decide)) (zl ok133 rfl) (zl ok133 rfl) fun _ => rfl)
  (zss (ss_asgA hX (k:=2) rfl (hset hK "span" (by decide)) (se_gint hX ok133 (by rw [hK]; rfl) rfl rfl) (zl ok133 rfl) fun _ => rfl)
  (zss (ss_asgA hX (k:=10) rfl (hset hK "code" (by decide)) zi (zl ok133 rfl) fun _ => rfl)
  (zss (ss_if (st_cmp (c:=.ne) (se_meth hX (hm140 hK) pla_nil (zl ok133 rfl) zn (h140 hX hK (lk rfl hn) ok133) fun _ => rfl) zi rfl)
  (zss (ss_raise hX ok133 (lk rfl hn) (hI hK) (hE76 hK) (gn (by rw [hK]; rfl) rfl rfl))
  ss_nil)
  ss_nil)
  (zss (ss_forR (nm:="") hX ok133 (lk rfl hn) (bn (by rw [hK]; rfl) rfl (by decide) rfl rfl) rfl (pla_of (fun _ => rfl) fun _ _ => rfl) (zc (zb (op:=.sub) (se_gint hX ok133 (by rw [hK]; rfl) rfl rfl) zi) zn fun _ => rfl)
  (zss (ss_asgA hX (k:=10) rfl (hset hK "code" (by decide)) (zb (op:=.bor) (zb (op:=.shl) (se_attr hX (k:=10) rfl (hget hK "code" (by decide)) (zl ok133 rfl) fun _ => rfl) zi) (se_meth hX (hm140 hK) pla_nil (zl ok133 rfl) zn (h140 hX hK (lk rfl hn) ok133) fun _ => rfl)) (zl ok133 rfl) fun _ => rfl)
  ss_nil))
  (zss (ss_if (st_cmp (c:=.eq) (se_attr hX (k:=10) rfl (hget hK "code" (by decide)) (zl ok133 rfl) fun _ => rfl) (se_attr hX (k:=2) rfl (hget hK "span" (by decide)) (zl ok133 rfl) fun _ => rfl) rfl)
  (zss (ss_raise hX ok133 (lk rfl hn) (hI hK) (hE64 hK) (gn (by rw [hK]; rfl) rfl rfl))
  ss_nil)
  ss_nil)
  ss_nil))))))))))
theorem c133 (hX : X.Ok) (hK : X.K = hd.heap_1 P) (hn : 3 <= n) (hF : F.Ok) : CodS X n F (.ref 133) 4 F_RangeReader_init:=by
 obtain ⟨m, rfl⟩:=ex1 rfl hn
 exact CodD (by decide) (fun_def hX hF ok133 (by rw [hK]; exact D133 P) (s133 hX hK (lk1 rfl hn)))
noncomputable def d147 (P : Params) : FnD (hd.heap_1 P) 147:=⟨_, _, _, _, _, ⟨_, _, _, _, _, _, _, _, _, _, rfl⟩⟩
noncomputable abbrev f147 (P : Params) : FnC:=(d147 P).fc ["self"]
theorem ok147 {P : Params} : (f147 P).Ok:=.of rfl
theorem D147 (P : Params) : DefK (hd.heap_1 P) (f147 P) (d147 P).body 1 :=
 ⟨⟨_, _, _, _, _, _, _, _, _, _, _, rfl, fun xs hl => by exact ln1 xs hl fun _ _ _ => .of_eq rfl⟩, by kernel_rfl, rfl, rfl, Nat.le_of_ble_eq_true rfl, nd_auto rfl, ckd_auto rfl⟩
theorem s147 (hX : X.Ok) (hK : X.K = hd.heap_1 P) (hn : 1 <= n) : SSs X n (f147 P) (d147 P).body (sSeq B_RangeReader_used) :=
 (zss (ss_ret (zb (op:=.sub) (se_attr hX (k:=9) rfl (hget hK "place" (by decide)) (zl ok147 rfl) fun _ => rfl) (se_attr hX (k:=8) rfl (hget hK "start" (by decide)) (zl ok147 rfl) fun _ => rfl)))
  ss_nil)
theorem c147 (hX : X.Ok) (hK : X.K = hd.heap_1 P) (hn : 2 <= n) (hF : F.Ok) : CodS X n F (.ref 147) 1 F_RangeReader_used:=by
 obtain ⟨m, rfl⟩:=ex1 rfl hn
 exact (fun_def hX hF ok147 (by rw [hK]; exact D147 P) (s147 hX hK (lk1 rfl hn)))
theorem h147 (hX : X.Ok) (hK : X.K = hd.heap_1 P) (hn : 2 <= n) (hF : F.Ok) : FunS X n F (.ref 147) 1 F_RangeReader_used:=(c147 hX hK hn hF).fun
theorem hm147 (hK : X.K = hd.heap_1 P) : MethK X.K 199 "used" 147:=hK ▸ ⟨by kernel_rfl, by kernel_rfl, by kernel_rfl, by kernel_rfl, by decide⟩
noncomputable def d161 (P : Params) : FnD (hd.heap_1 P) 161:=⟨_, _, _, _, _, ⟨_, _, _, _, _, _, _, _, _, _, rfl⟩⟩
noncomputable abbrev f161 (P : Params) : FnC:=(d161 P).fc ["self"]
theorem ok161 {P : Params} : (f161 P).Ok:=.of rfl
theorem D161 (P : Params) : DefK (hd.heap_1 P) (f161 P) (d161 P).body 1 :=
 ⟨⟨_, _, _, _, _, _, _, _, _, _, _, rfl, fun xs hl => by exact ln1 xs hl fun _ _ _ => .of_eq rfl⟩, by kernel_rfl, rfl, rfl, Nat.le_of_ble_eq_true rfl, nd_auto rfl, ckd_auto rfl⟩
theorem s161 (hX : X.Ok) (hK : X.K = hd.heap_1 P) (hn : 1 <= n) : SSs X n (f161 P) (d161 P).body (sSeq B_RangeReader_ended) :=
 (zss (ss_ret (se_cmp (c:=.eq) (se_attr hX (k:=10) rfl (hget hK "code" (by decide)) (zl ok161 rfl) fun _ => rfl) zi rfl))
  ss_nil)
theorem c161 (hX : X.Ok) (hK : X.K = hd.heap_1 P) (hn : 2 <= n) (hF : F.Ok) : CodS X n F (.ref 161) 1 F_RangeReader_ended:=by
 obtain ⟨m, rfl⟩:=ex1 rfl hn
 exact (fun_def hX hF ok161 (by rw [hK]; exact D161 P) (s161 hX hK (lk1 rfl hn)))
theorem h161 (hX : X.Ok) (hK : X.K = hd.heap_1 P) (hn : 2 <= n) (hF : F.Ok) : FunS X n F (.ref 161) 1 F_RangeReader_ended:=(c161 hX hK hn hF).fun
theorem hm161 (hK : X.K = hd.heap_1 P) : MethK X.K 199 "ended" 161:=hK ▸ ⟨by kernel_rfl, by kernel_rfl, by kernel_rfl, by kernel_rfl, by decide⟩
noncomputable def d168 (P : Params) : FnD (hd.heap_1 P) 168:=⟨_, _, _, _, _, ⟨_, _, _, _, _, _, _, _, _, _, rfl⟩⟩
noncomputable abbrev f168 (P : Params) : FnC:=(d168 P).fc ["self"]
theorem ok168 {P : Params} : (f168 P).Ok:=.of rfl
theorem D168 (P : Params) : DefK (hd.heap_1 P) (f168 P) (d168 P).body 1 :=
 ⟨⟨_, _, _, _, _, _, _, _, _, _, _, rfl, fun xs hl => by exact ln1 xs hl fun _ _ _ => .of_eq rfl⟩, by kernel_rfl, rfl, rfl, Nat.le_of_ble_eq_true rfl, nd_auto rfl, ckd_auto rfl⟩
theorem s168 (hX : X.Ok) (hK : X.K = hd.heap_1 P) (hn : 2 <= n) : SSs X n (f168 P) (d168 P).body (sSeq B_RangeReader_fill) :=
 (zss (ss_if (st_cmp (c:=.lt) (se_attr hX (k:=2) rfl (hget hK "span" (by decide)) (zl ok168 rfl) fun _ => rfl) (se_gint hX ok168 (by rw [hK]; rfl) rfl rfl) rfl)
  (zss (ss_augA (op:=.shl) (k:=2) hX rfl rfl (hget hK "span" (by decide)) (hset hK "span" (by decide)) (zl ok168 rfl) zi)
  (zss (ss_asgA hX (k:=10) rfl (hset hK "code" (by decide)) (zb (op:=.bor) (zb (op:=.shl) (se_attr hX (k:=10) rfl (hget hK "code" (by decide)) (zl ok168 rfl) fun _ => rfl) zi) (se_meth hX (hm140 hK) pla_nil (zl ok168 rfl) zn (h140 hX hK (lk rfl hn) ok168) fun _ => rfl)) (zl ok168 rfl) fun _ => rfl)
  ss_nil))
  ss_nil)
  ss_nil)
theorem c168 (hX : X.Ok) (hK : X.K = hd.heap_1 P) (hn : 3 <= n) (hF : F.Ok) : CodS X n F (.ref 168) 1 F_RangeReader_fill:=by
 obtain ⟨m, rfl⟩:=ex1 rfl hn
 exact (fun_def hX hF ok168 (by rw [hK]; exact D168 P) (s168 hX hK (lk1 rfl hn)))
theorem h168 (hX : X.Ok) (hK : X.K = hd.heap_1 P) (hn : 3 <= n) (hF : F.Ok) : FunS X n F (.ref 168) 1 F_RangeReader_fill:=(c168 hX hK hn hF).fun
theorem hm168 (hK : X.K = hd.heap_1 P) : MethK X.K 199 "fill" 168:=hK ▸ ⟨by kernel_rfl, by kernel_rfl, by kernel_rfl, by kernel_rfl, by decide⟩
noncomputable def d175 (P : Params) : FnD (hd.heap_1 P) 175:=⟨_, _, _, _, _, ⟨_, _, _, _, _, _, _, _, _, _, rfl⟩⟩
noncomputable abbrev f175 (P : Params) : FnC:=(d175 P).fc ["self", "models", "index", "model", "bound", "found"]
theorem ok175 {P : Params} : (f175 P).Ok:=.of rfl
theorem D175 (P : Params) : DefK (hd.heap_1 P) (f175 P) (d175 P).body 3 :=
 ⟨⟨_, _, _, _, _, _, _, _, _, _, _, rfl, fun xs hl => by exact ln3 xs hl fun _ _ _ _ _ => .of_eq rfl⟩, by kernel_rfl, rfl, rfl, Nat.le_of_ble_eq_true rfl, nd_auto rfl, ckd_auto rfl⟩
theorem s175 (hX : X.Ok) (hK : X.K = hd.heap_1 P) (hn : 3 <= n) : SSs X n (f175 P) (d175 P).body (sSeq B_RangeReader_bit) :=
 (zss (ss_asg ok175 rfl (se_sub (zl ok175 rfl) (zl ok175 rfl) fun _ _ => rfl) fun _ => rfl)
  (zss (ss_asg ok175 rfl (zb (op:=.mul) (zb (op:=.shr) (se_attr hX (k:=2) rfl (hget hK "span" (by decide)) (zl ok175 rfl) fun _ => rfl) (se_gint hX ok175 (by rw [hK]; rfl) rfl rfl)) (zl ok175 rfl)) fun _ => rfl)
  (zss (ss_asg ok175 rfl (se_intB hX ok175 (bn (by rw [hK]; rfl) rfl (by decide) rfl rfl) (se_cmp (c:=.ge) (se_attr hX (k:=10) rfl (hget hK "code" (by decide)) (zl ok175 rfl) fun _ => rfl) (zl ok175 rfl) rfl) fun _ => rfl) fun _ => rfl)
  (zss (ss_if (st_cmp (c:=.eq) (zl ok175 rfl) zi rfl)
  (zss (ss_asgA hX (k:=2) rfl (hset hK "span" (by decide)) (zl ok175 rfl) (zl ok175 rfl) fun _ => rfl)
  ss_nil)
  (zss (ss_augA (op:=.sub) (k:=2) hX rfl rfl (hget hK "span" (by decide)) (hset hK "span" (by decide)) (zl ok175 rfl) (zl ok175 rfl))
  (zss (ss_augA (op:=.sub) (k:=10) hX rfl rfl (hget hK "code" (by decide)) (hset hK "code" (by decide)) (zl ok175 rfl) (zl ok175 rfl))
  ss_nil)))
  (zss (ss_asgS (se_def hX ok175 (gn (by rw [hK]; rfl) rfl rfl) (by rw [hK]; rfl) (pla_of (fun _ => rfl) fun _ _ => rfl) (zc (zl ok175 rfl) (zc (zl ok175 rfl) zn fun _ => rfl) fun _ => rfl) (h104 hX hK (lk rfl hn) ok175)) (zl ok175 rfl) (zl ok175 rfl) fun _ => rfl)
  (zss (ss_exp ok175 (se_meth hX (hm168 hK) pla_nil (zl ok175 rfl) zn (h168 hX hK (lk rfl hn) ok175) fun _ => rfl) fun _ _ => rfl)
  (zss (ss_ret (zl ok175 rfl))
  ss_nil)))))))
theorem c175 (hX : X.Ok) (hK : X.K = hd.heap_1 P) (hn : 4 <= n) (hF : F.Ok) : CodS X n F (.ref 175) 3 F_RangeReader_bit:=by
 obtain ⟨m, rfl⟩:=ex1 rfl hn
 exact (fun_def hX hF ok175 (by rw [hK]; exact D175 P) (s175 hX hK (lk1 rfl hn)))
theorem h175 (hX : X.Ok) (hK : X.K = hd.heap_1 P) (hn : 4 <= n) (hF : F.Ok) : FunS X n F (.ref 175) 3 F_RangeReader_bit:=(c175 hX hK hn hF).fun
theorem hm175 (hK : X.K = hd.heap_1 P) : MethK X.K 199 "bit" 175:=hK ▸ ⟨by kernel_rfl, by kernel_rfl, by kernel_rfl, by kernel_rfl, by decide⟩
noncomputable def d182 (P : Params) : FnD (hd.heap_1 P) 182:=⟨_, _, _, _, _, ⟨_, _, _, _, _, _, _, _, _, _, rfl⟩⟩
noncomputable abbrev f182 (P : Params) : FnC:=(d182 P).fc ["self", "count", "value", "turn", "found"]
theorem ok182 {P : Params} : (f182 P).Ok:=.of rfl
theorem D182 (P : Params) : DefK (hd.heap_1 P) (f182 P) (d182 P).body 2 :=
 ⟨⟨_, _, _, _, _, _, _, _, _, _, _, rfl, fun xs hl => by exact ln2 xs hl fun _ _ _ _ => .of_eq rfl⟩, by kernel_rfl, rfl, rfl, Nat.le_of_ble_eq_true rfl, nd_auto rfl, ckd_auto rfl⟩
theorem s182 (hX : X.Ok) (hK : X.K = hd.heap_1 P) (hn : 3 <= n) : SSs X n (f182 P) (d182 P).body (sSeq B_RangeReader_direct) :=
 (zss (ss_asg ok182 rfl zi fun _ => rfl)
  (zss (ss_forR (nm:="") hX ok182 (lk rfl hn) (bn (by rw [hK]; rfl) rfl (by decide) rfl rfl) rfl (pla_of (fun _ => rfl) fun _ _ => rfl) (zc (zl ok182 rfl) zn fun _ => rfl)
  (zss (ss_augA (op:=.shr) (k:=2) hX rfl rfl (hget hK "span" (by decide)) (hset hK "span" (by decide)) (zl ok182 rfl) zi)
  (zss (ss_asg ok182 rfl (se_intB hX ok182 (bn (by rw [hK]; rfl) rfl (by decide) rfl rfl) (se_cmp (c:=.ge) (se_attr hX (k:=10) rfl (hget hK "code" (by decide)) (zl ok182 rfl) fun _ => rfl) (se_attr hX (k:=2) rfl (hget hK "span" (by decide)) (zl ok182 rfl) fun _ => rfl) rfl) fun _ => rfl) fun _ => rfl)
  (zss (ss_if (st_cmp (c:=.eq) (zl ok182 rfl) zi rfl)
  (zss (ss_augA (op:=.sub) (k:=10) hX rfl rfl (hget hK "code" (by decide)) (hset hK "code" (by decide)) (zl ok182 rfl) (se_attr hX (k:=2) rfl (hget hK "span" (by decide)) (zl ok182 rfl) fun _ => rfl))
  (zss (ss_if (st_cmp (c:=.ge) (se_attr hX (k:=10) rfl (hget hK "code" (by decide)) (zl ok182 rfl) fun _ => rfl) (se_attr hX (k:=2) rfl (hget hK "span" (by decide)) (zl ok182 rfl) fun _ => rfl) rfl)
  (zss (ss_raise hX ok182 (lk rfl hn) (hI hK) (hE64 hK) (gn (by rw [hK]; rfl) rfl rfl))
  ss_nil)
  ss_nil)
  ss_nil))
  ss_nil)
  (zss (ss_asg ok182 rfl (zb (op:=.bor) (zb (op:=.shl) (zl ok182 rfl) zi) (zl ok182 rfl)) fun _ => rfl)
  (zss (ss_exp ok182 (se_meth hX (hm168 hK) pla_nil (zl ok182 rfl) zn (h168 hX hK (lk rfl hn) ok182) fun _ => rfl) fun _ _ => rfl)
  ss_nil))))))
  (zss (ss_ret (zl ok182 rfl))
  ss_nil)))
theorem c182 (hX : X.Ok) (hK : X.K = hd.heap_1 P) (hn : 4 <= n) (hF : F.Ok) : CodS X n F (.ref 182) 2 F_RangeReader_direct:=by
 obtain ⟨m, rfl⟩:=ex1 rfl hn
 exact (fun_def hX hF ok182 (by rw [hK]; exact D182 P) (s182 hX hK (lk1 rfl hn)))
theorem h182 (hX : X.Ok) (hK : X.K = hd.heap_1 P) (hn : 4 <= n) (hF : F.Ok) : FunS X n F (.ref 182) 2 F_RangeReader_direct:=(c182 hX hK hn hF).fun
theorem hm182 (hK : X.K = hd.heap_1 P) : MethK X.K 199 "direct" 182:=hK ▸ ⟨by kernel_rfl, by kernel_rfl, by kernel_rfl, by kernel_rfl, by decide⟩
noncomputable def d189 (P : Params) : FnD (hd.heap_1 P) 189:=⟨_, _, _, _, _, ⟨_, _, _, _, _, _, _, _, _, _, rfl⟩⟩
noncomputable abbrev f189 (P : Params) : FnC:=(d189 P).fc ["self", "models", "start", "count", "node", "turn"]
theorem ok189 {P : Params} : (f189 P).Ok:=.of rfl
theorem D189 (P : Params) : DefK (hd.heap_1 P) (f189 P) (d189 P).body 4 :=
 ⟨⟨_, _, _, _, _, _, _, _, _, _, _, rfl, fun xs hl => by exact ln4 xs hl fun _ _ _ _ _ _ => .of_eq rfl⟩, by kernel_rfl, rfl, rfl, Nat.le_of_ble_eq_true rfl, nd_auto rfl, ckd_auto rfl⟩
theorem s189 (hX : X.Ok) (hK : X.K = hd.heap_1 P) (hn : 4 <= n) : SSs X n (f189 P) (d189 P).body (sSeq B_RangeReader_tree) :=
 (zss (ss_asg ok189 rfl zi fun _ => rfl)
  (zss (ss_forR (nm:="") hX ok189 (lk rfl hn) (bn (by rw [hK]; rfl) rfl (by decide) rfl rfl) rfl (pla_of (fun _ => rfl) fun _ _ => rfl) (zc (zl ok189 rfl) zn fun _ => rfl)
  (zss (ss_asg ok189 rfl (zb (op:=.bor) (zb (op:=.shl) (zl ok189 rfl) zi) (se_meth hX (hm175 hK) (pla_of (fun _ => rfl) fun _ _ => rfl) (zl ok189 rfl) (zc (zl ok189 rfl) (zc (zb (op:=.add) (zl ok189 rfl) (zl ok189 rfl)) zn fun _ => rfl) fun _ => rfl) (h175 hX hK (lk rfl hn) ok189) fun _ => rfl)) fun _ => rfl)
  ss_nil))
  (zss (ss_ret (zb (op:=.sub) (zl ok189 rfl) (zb (op:=.shl) zi (zl ok189 rfl))))
  ss_nil)))
theorem c189 (hX : X.Ok) (hK : X.K = hd.heap_1 P) (hn : 5 <= n) (hF : F.Ok) : CodS X n F (.ref 189) 4 F_RangeReader_tree:=by
 obtain ⟨m, rfl⟩:=ex1 rfl hn
 exact (fun_def hX hF ok189 (by rw [hK]; exact D189 P) (s189 hX hK (lk1 rfl hn)))
theorem h189 (hX : X.Ok) (hK : X.K = hd.heap_1 P) (hn : 5 <= n) (hF : F.Ok) : FunS X n F (.ref 189) 4 F_RangeReader_tree:=(c189 hX hK hn hF).fun
theorem hm189 (hK : X.K = hd.heap_1 P) : MethK X.K 199 "tree" 189:=hK ▸ ⟨by kernel_rfl, by kernel_rfl, by kernel_rfl, by kernel_rfl, by decide⟩
noncomputable def d196 (P : Params) : FnD (hd.heap_1 P) 196:=⟨_, _, _, _, _, ⟨_, _, _, _, _, _, _, _, _, _, rfl⟩⟩
noncomputable abbrev f196 (P : Params) : FnC:=(d196 P).fc ["self", "models", "start", "count", "node", "value", "place", "found"]
theorem ok196 {P : Params} : (f196 P).Ok:=.of rfl
theorem D196 (P : Params) : DefK (hd.heap_1 P) (f196 P) (d196 P).body 4 :=
 ⟨⟨_, _, _, _, _, _, _, _, _, _, _, rfl, fun xs hl => by exact ln4 xs hl fun _ _ _ _ _ _ => .of_eq rfl⟩, by kernel_rfl, rfl, rfl, Nat.le_of_ble_eq_true rfl, nd_auto rfl, ckd_auto rfl⟩
theorem s196 (hX : X.Ok) (hK : X.K = hd.heap_1 P) (hn : 4 <= n) : SSs X n (f196 P) (d196 P).body (sSeq B_RangeReader_reverse) :=
 (zss (ss_unp ok196 (lk rfl hn) .two rfl (se_tup (zc zi (zc zi zn fun _ => rfl) fun _ => rfl) (by decide)) (fun _ => rfl) fun _ _ => rfl)
  (zss (ss_forR (nm:="") hX ok196 (lk rfl hn) (bn (by rw [hK]; rfl) rfl (by decide) rfl rfl) rfl (pla_of (fun _ => rfl) fun _ _ => rfl) (zc (zl ok196 rfl) zn fun _ => rfl)
  (zss (ss_asg ok196 rfl (se_meth hX (hm175 hK) (pla_of (fun _ => rfl) fun _ _ => rfl) (zl ok196 rfl) (zc (zl ok196 rfl) (zc (zb (op:=.add) (zl ok196 rfl) (zl ok196 rfl)) zn fun _ => rfl) fun _ => rfl) (h175 hX hK (lk rfl hn) ok196) fun _ => rfl) fun _ => rfl)
  (zss (ss_asg ok196 rfl (zb (op:=.bor) (zb (op:=.shl) (zl ok196 rfl) zi) (zl ok196 rfl)) fun _ => rfl)
  (zss (ss_aug (op:=.bor) ok196 rfl rfl (zb (op:=.shl) (zl ok196 rfl) (zl ok196 rfl)))
  ss_nil))))
  (zss (ss_ret (zl ok196 rfl))
  ss_nil)))
theorem c196 (hX : X.Ok) (hK : X.K = hd.heap_1 P) (hn : 5 <= n) (hF : F.Ok) : CodS X n F (.ref 196) 4 F_RangeReader_reverse:=by
 obtain ⟨m, rfl⟩:=ex1 rfl hn
 exact (fun_def hX hF ok196 (by rw [hK]; exact D196 P) (s196 hX hK (lk1 rfl hn)))
theorem h196 (hX : X.Ok) (hK : X.K = hd.heap_1 P) (hn : 5 <= n) (hF : F.Ok) : FunS X n F (.ref 196) 4 F_RangeReader_reverse:=(c196 hX hK hn hF).fun
theorem hm196 (hK : X.K = hd.heap_1 P) : MethK X.K 199 "reverse" 196:=hK ▸ ⟨by kernel_rfl, by kernel_rfl, by kernel_rfl, by kernel_rfl, by decide⟩
end
section
variable {P : Params} {X : Cx} {n : Nat} {F : FnC}
noncomputable def d217 (P : Params) : FnD (hd.heap_1 P) 217:=⟨_, _, _, _, _, ⟨_, _, _, _, _, _, _, _, _, _, rfl⟩⟩
noncomputable abbrev f217 (P : Params) : FnC:=(d217 P).fc ["self"]
theorem ok217 {P : Params} : (f217 P).Ok:=.of rfl
theorem D217 (P : Params) : DefK (hd.heap_1 P) (f217 P) (d217 P).body 1 :=
 ⟨⟨_, _, _, _, _, _, _, _, _, _, _, rfl, fun xs hl => by exact ln1 xs hl fun _ _ _ => .of_eq rfl⟩, by kernel_rfl, rfl, rfl, Nat.le_of_ble_eq_true rfl, nd_auto rfl, ckd_auto rfl⟩
theorem s217 (hX : X.Ok) (hK : X.K = hd.heap_1 P) (hn : 1 <= n) : SSsJ X n (f217 P) (d217 P).body (sSeq B_RangeWriter_init) :=
 (ssJ_cons (ssJ_asgA hX (k:=0) rfl (hset hK "made" (by decide)) (seJ_barr hX ok217 (bn (by rw [hK]; rfl) rfl (by decide) rfl rfl)) (zl ok217 rfl) fun _ => rfl)
  (ssJ_cons (Snd.J (ss_asgA hX (k:=1) rfl (hset hK "low" (by decide)) zi (zl ok217 rfl) fun _ => rfl))
  (ssJ_cons (Snd.J (ss_asgA hX (k:=2) rfl (hset hK "span" (by decide)) (se_gint hX ok217 (by rw [hK]; rfl) rfl rfl) (zl ok217 rfl) fun _ => rfl))
  (ssJ_cons (Snd.J (ss_asgA hX (k:=3) rfl (hset hK "cache" (by decide)) zi (zl ok217 rfl) fun _ => rfl))
  (ssJ_cons (Snd.J (ss_asgA hX (k:=4) rfl (hset hK "held" (by decide)) zi (zl ok217 rfl) fun _ => rfl))
  (ssJ_cons (Snd.J (ss_asgA hX (k:=5) rfl (hset hK "closed" (by decide)) se_bool (zl ok217 rfl) fun _ => rfl))
  ssJ_nil))))))
theorem c217 (hX : X.Ok) (hK : X.K = hd.heap_1 P) (hn : 2 <= n) (hF : F.Ok) : CodJ X n F (.ref 217) 1 F_RangeWriter_init:=by
 obtain ⟨m, rfl⟩:=ex1 rfl hn
 exact (funJ_def hX hF ok217 (by rw [hK]; exact D217 P) (s217 hX hK (lk1 rfl hn)))
noncomputable def d224 (P : Params) : FnD (hd.heap_1 P) 224:=⟨_, _, _, _, _, ⟨_, _, _, _, _, _, _, _, _, _, rfl⟩⟩
noncomputable abbrev f224 (P : Params) : FnC:=(d224 P).fc ["self", "carry"]
theorem ok224 {P : Params} : (f224 P).Ok:=.of rfl
theorem D224 (P : Params) : DefK (hd.heap_1 P) (f224 P) (d224 P).body 1 :=
 ⟨⟨_, _, _, _, _, _, _, _, _, _, _, rfl, fun xs hl => by exact ln1 xs hl fun _ _ _ => .of_eq rfl⟩, by kernel_rfl, rfl, rfl, Nat.le_of_ble_eq_true rfl, nd_auto rfl, ckd_auto rfl⟩
theorem s224 (hX : X.Ok) (hK : X.K = hd.heap_1 P) (hn : 1 <= n) : SSsJ X n (f224 P) (d224 P).body (sSeq B_RangeWriter_shift) :=
 (ssJ_cons (ssJ_if (Snd.J (st_bool (all_or (st_cmp (c:=.lt) (se_attr hX (k:=1) rfl (hget hK "low" (by decide)) (zl ok224 rfl) fun _ => rfl) (se_gint hX ok224 (by rw [hK]; rfl) rfl rfl) rfl) (all_or1 (st_cmp (c:=.ge) (se_attr hX (k:=1) rfl (hget hK "low" (by decide)) (zl ok224 rfl) fun _ => rfl) (se_gint hX ok224 (by rw [hK]; rfl) rfl rfl) rfl)))))
  (ssJ_cons (Snd.J (ss_asg ok224 rfl (zb (op:=.shr) (se_attr hX (k:=1) rfl (hget hK "low" (by decide)) (zl ok224 rfl) fun _ => rfl) zi) fun _ => rfl))
  (ssJ_cons (ssJ_exp ok224 (seJ_appendB (se_attr hX (k:=0) rfl (hget hK "made" (by decide)) (zl ok224 rfl) fun _ => rfl) (zb (op:=.band) (zb (op:=.add) (se_attr hX (k:=3) rfl (hget hK "cache" (by decide)) (zl ok224 rfl) fun _ => rfl) (zl ok224 rfl)) zi) (fun _ => rfl) fun _ => rfl) fun _ _ => rfl)
  (ssJ_cons (ssJ_exp ok224 (seJ_extendB (se_attr hX (k:=0) rfl (hget hK "made" (by decide)) (zl ok224 rfl) fun _ => rfl) (zb (op:=.mul) (se_t1 hX ok224 (bn (by rw [hK]; rfl) rfl (by decide) rfl rfl) (se_list (zc (zb (op:=.band) (zb (op:=.add) zi (zl ok224 rfl)) zi) zn fun _ => rfl) (by decide)) (fun _ => rfl) (fun_bytes (lk rfl hn))) (zb (op:=.sub) (se_attr hX (k:=4) rfl (hget hK "held" (by decide)) (zl ok224 rfl) fun _ => rfl) zi)) (fun _ => rfl) fun _ => rfl) fun _ _ => rfl)
  (ssJ_cons (Snd.J (ss_asgA hX (k:=3) rfl (hset hK "cache" (by decide)) (zb (op:=.band) (zb (op:=.shr) (se_attr hX (k:=1) rfl (hget hK "low" (by decide)) (zl ok224 rfl) fun _ => rfl) zi) zi) (zl ok224 rfl) fun _ => rfl))
  (ssJ_cons (Snd.J (ss_asgA hX (k:=4) rfl (hset hK "held" (by decide)) zi (zl ok224 rfl) fun _ => rfl))
  ssJ_nil)))))
  ssJ_nil)
  (ssJ_cons (Snd.J (ss_augA (op:=.add) (k:=4) hX rfl rfl (hget hK "held" (by decide)) (hset hK "held" (by decide)) (zl ok224 rfl) zi))
  (ssJ_cons (Snd.J (ss_asgA hX (k:=1) rfl (hset hK "low" (by decide)) (zb (op:=.shl) (zb (op:=.band) (se_attr hX (k:=1) rfl (hget hK "low" (by decide)) (zl ok224 rfl) fun _ => rfl) (zb (op:=.sub) (se_gint hX ok224 (by rw [hK]; rfl) rfl rfl) zi)) zi) (zl ok224 rfl) fun _ => rfl))
  ssJ_nil)))
theorem c224 (hX : X.Ok) (hK : X.K = hd.heap_1 P) (hn : 2 <= n) (hF : F.Ok) : CodJ X n F (.ref 224) 1 F_RangeWriter_shift:=by
 obtain ⟨m, rfl⟩:=ex1 rfl hn
 exact (funJ_def hX hF ok224 (by rw [hK]; exact D224 P) (s224 hX hK (lk1 rfl hn)))
theorem h224 (hX : X.Ok) (hK : X.K = hd.heap_1 P) (hn : 2 <= n) (hF : F.Ok) : FunJ X n F (.ref 224) 1 F_RangeWriter_shift:=(c224 hX hK hn hF).fun
theorem hm224 (hK : X.K = hd.heap_1 P) : MethK X.K 283 "shift" 224:=hK ▸ ⟨by kernel_rfl, by kernel_rfl, by kernel_rfl, by kernel_rfl, by decide⟩
noncomputable def d231 (P : Params) : FnD (hd.heap_1 P) 231:=⟨_, _, _, _, _, ⟨_, _, _, _, _, _, _, _, _, _, rfl⟩⟩
noncomputable abbrev f231 (P : Params) : FnC:=(d231 P).fc ["self"]
theorem ok231 {P : Params} : (f231 P).Ok:=.of rfl
theorem D231 (P : Params) : DefK (hd.heap_1 P) (f231 P) (d231 P).body 1 :=
 ⟨⟨_, _, _, _, _, _, _, _, _, _, _, rfl, fun xs hl => by exact ln1 xs hl fun _ _ _ => .of_eq rfl⟩, by kernel_rfl, rfl, rfl, Nat.le_of_ble_eq_true rfl, nd_auto rfl, ckd_auto rfl⟩
theorem s231 (hX : X.Ok) (hK : X.K = hd.heap_1 P) (hn : 2 <= n) : SSsJ X n (f231 P) (d231 P).body (sSeq B_RangeWriter_fill) :=
 (ssJ_cons (ssJ_if (Snd.J (st_cmp (c:=.lt) (se_attr hX (k:=2) rfl (hget hK "span" (by decide)) (zl ok231 rfl) fun _ => rfl) (se_gint hX ok231 (by rw [hK]; rfl) rfl rfl) rfl))
  (ssJ_cons (Snd.J (ss_augA (op:=.shl) (k:=2) hX rfl rfl (hget hK "span" (by decide)) (hset hK "span" (by decide)) (zl ok231 rfl) zi))
  (ssJ_cons (ssJ_exp ok231 (seJ_meth hX (hm224 hK) pla_nil (zl ok231 rfl) zn (h224 hX hK (lk rfl hn) ok231) fun _ => rfl) fun _ _ => rfl)
  ssJ_nil))
  ssJ_nil)
  ssJ_nil)
theorem c231 (hX : X.Ok) (hK : X.K = hd.heap_1 P) (hn : 3 <= n) (hF : F.Ok) : CodJ X n F (.ref 231) 1 F_RangeWriter_fill:=by
 obtain ⟨m, rfl⟩:=ex1 rfl hn
 exact (funJ_def hX hF ok231 (by rw [hK]; exact D231 P) (s231 hX hK (lk1 rfl hn)))
theorem h231 (hX : X.Ok) (hK : X.K = hd.heap_1 P) (hn : 3 <= n) (hF : F.Ok) : FunJ X n F (.ref 231) 1 F_RangeWriter_fill:=(c231 hX hK hn hF).fun
theorem hm231 (hK : X.K = hd.heap_1 P) : MethK X.K 283 "fill" 231:=hK ▸ ⟨by kernel_rfl, by kernel_rfl, by kernel_rfl, by kernel_rfl, by decide⟩
noncomputable def d238 (P : Params) : FnD (hd.heap_1 P) 238:=⟨_, _, _, _, _, ⟨_, _, _, _, _, _, _, _, _, _, rfl⟩⟩
noncomputable abbrev f238 (P : Params) : FnC:=(d238 P).fc ["self"]
theorem ok238 {P : Params} : (f238 P).Ok:=.of rfl
theorem D238 (P : Params) : DefK (hd.heap_1 P) (f238 P) (d238 P).body 1 :=
 ⟨⟨_, _, _, _, _, _, _, _, _, _, _, rfl, fun xs hl => by exact ln1 xs hl fun _ _ _ => .of_eq rfl⟩, by kernel_rfl, rfl, rfl, Nat.le_of_ble_eq_true rfl, nd_auto rfl, ckd_auto rfl⟩
theorem s238 (hX : X.Ok) (hK : X.K = hd.heap_1 P) (hn : 1 <= n) : SSs X n (f238 P) (d238 P).body (sSeq B_RangeWriter_need_open) :=
 (zss (ss_if (st_val (se_attr hX (k:=5) rfl (hget hK "closed" (by decide)) (zl ok238 rfl) fun _ => rfl) fun _ => rfl)
  (zss (ss_raise hX ok238 (lk rfl hn) (hI hK) (hE88 hK) (gn (by rw [hK]; rfl) rfl rfl))
  ss_nil)
  ss_nil)
  ss_nil)
theorem c238 (hX : X.Ok) (hK : X.K = hd.heap_1 P) (hn : 2 <= n) (hF : F.Ok) : CodS X n F (.ref 238) 1 F_RangeWriter_need_open:=by
 obtain ⟨m, rfl⟩:=ex1 rfl hn
 exact (fun_def hX hF ok238 (by rw [hK]; exact D238 P) (s238 hX hK (lk1 rfl hn)))
theorem h238 (hX : X.Ok) (hK : X.K = hd.heap_1 P) (hn : 2 <= n) (hF : F.Ok) : FunS X n F (.ref 238) 1 F_RangeWriter_need_open:=(c238 hX hK hn hF).fun
theorem hm238 (hK : X.K = hd.heap_1 P) : MethK X.K 283 "need_open" 238:=hK ▸ ⟨by kernel_rfl, by kernel_rfl, by kernel_rfl, by kernel_rfl, by decide⟩
noncomputable def d245 (P : Params) : FnD (hd.heap_1 P) 245:=⟨_, _, _, _, _, ⟨_, _, _, _, _, _, _, _, _, _, rfl⟩⟩
noncomputable abbrev f245 (P : Params) : FnC:=(d245 P).fc ["self", "models", "index", "bit", "model", "bound"]
theorem ok245 {P : Params} : (f245 P).Ok:=.of rfl
theorem D245 (P : Params) : DefK (hd.heap_1 P) (f245 P) (d245 P).body 4 :=
 ⟨⟨_, _, _, _, _, _, _, _, _, _, _, rfl, fun xs hl => by exact ln4 xs hl fun _ _ _ _ _ _ => .of_eq rfl⟩, by kernel_rfl, rfl, rfl, Nat.le_of_ble_eq_true rfl, nd_auto rfl, ckd_auto rfl⟩
theorem s245 (hX : X.Ok) (hK : X.K = hd.heap_1 P) (hn : 3 <= n) : SSsJ X n (f245 P) (d245 P).body (sSeq B_RangeWriter_bit) :=
 (ssJ_cons (Snd.J (ss_exp ok245 (se_def hX ok245 (gn (by rw [hK]; rfl) rfl rfl) (by rw [hK]; rfl) (pla_of (fun _ => rfl) fun _ _ => rfl) (zc (zl ok245 rfl) zn fun _ => rfl) (h111 hX hK (lk rfl hn) ok245)) fun _ _ => rfl))
  (ssJ_cons (Snd.J (ss_exp ok245 (se_meth hX (hm238 hK) pla_nil (zl ok245 rfl) zn (h238 hX hK (lk rfl hn) ok245) fun _ => rfl) fun _ _ => rfl))
  (ssJ_cons (Snd.J (ss_asg ok245 rfl (se_sub (zl ok245 rfl) (zl ok245 rfl) fun _ _ => rfl) fun _ => rfl))
  (ssJ_cons (Snd.J (ss_asg ok245 rfl (zb (op:=.mul) (zb (op:=.shr) (se_attr hX (k:=2) rfl (hget hK "span" (by decide)) (zl ok245 rfl) fun _ => rfl) (se_gint hX ok245 (by rw [hK]; rfl) rfl rfl)) (zl ok245 rfl)) fun _ => rfl))
  (ssJ_cons (Snd.J (ss_if (st_cmp (c:=.eq) (zl ok245 rfl) zi rfl)
  (zss (ss_asgA hX (k:=2) rfl (hset hK "span" (by decide)) (zl ok245 rfl) (zl ok245 rfl) fun _ => rfl)
  ss_nil)
  (zss (ss_augA (op:=.add) (k:=1) hX rfl rfl (hget hK "low" (by decide)) (hset hK "low" (by decide)) (zl ok245 rfl) (zl ok245 rfl))
  (zss (ss_augA (op:=.sub) (k:=2) hX rfl rfl (hget hK "span" (by decide)) (hset hK "span" (by decide)) (zl ok245 rfl) (zl ok245 rfl))
  ss_nil))))
  (ssJ_cons (Snd.J (ss_asgS (se_def hX ok245 (gn (by rw [hK]; rfl) rfl rfl) (by rw [hK]; rfl) (pla_of (fun _ => rfl) fun _ _ => rfl) (zc (zl ok245 rfl) (zc (zl ok245 rfl) zn fun _ => rfl) fun _ => rfl) (h104 hX hK (lk rfl hn) ok245)) (zl ok245 rfl) (zl ok245 rfl) fun _ => rfl))
  (ssJ_cons (ssJ_exp ok245 (seJ_meth hX (hm231 hK) pla_nil (zl ok245 rfl) zn (h231 hX hK (lk rfl hn) ok245) fun _ => rfl) fun _ _ => rfl)
  ssJ_nil)))))))
theorem c245 (hX : X.Ok) (hK : X.K = hd.heap_1 P) (hn : 4 <= n) (hF : F.Ok) : CodJ X n F (.ref 245) 4 F_RangeWriter_bit:=by
 obtain ⟨m, rfl⟩:=ex1 rfl hn
 exact (funJ_def hX hF ok245 (by rw [hK]; exact D245 P) (s245 hX hK (lk1 rfl hn)))
theorem h245 (hX : X.Ok) (hK : X.K = hd.heap_1 P) (hn : 4 <= n) (hF : F.Ok) : FunJ X n F (.ref 245) 4 F_RangeWriter_bit:=(c245 hX hK hn hF).fun
theorem hm245 (hK : X.K = hd.heap_1 P) : MethK X.K 283 "bit" 245:=hK ▸ ⟨by kernel_rfl, by kernel_rfl, by kernel_rfl, by kernel_rfl, by decide⟩
noncomputable def d252 (P : Params) : FnD (hd.heap_1 P) 252:=⟨_, _, _, _, _, ⟨_, _, _, _, _, _, _, _, _, _, rfl⟩⟩
noncomputable abbrev f252 (P : Params) : FnC:=(d252 P).fc ["self", "count", "value", "place"]
theorem ok252 {P : Params} : (f252 P).Ok:=.of rfl
theorem D252 (P : Params) : DefK (hd.heap_1 P) (f252 P) (d252 P).body 3 :=
 ⟨⟨_, _, _, _, _, _, _, _, _, _, _, rfl, fun xs hl => by exact ln3 xs hl fun _ _ _ _ _ => .of_eq rfl⟩, by kernel_rfl, rfl, rfl, Nat.le_of_ble_eq_true rfl, nd_auto rfl, ckd_auto rfl⟩
theorem s252 (hX : X.Ok) (hK : X.K = hd.heap_1 P) (hn : 3 <= n) : SSsJ X n (f252 P) (d252 P).body (sSeq B_RangeWriter_direct) :=
 (ssJ_cons (Snd.J (ss_exp ok252 (se_def hX ok252 (gn (by rw [hK]; rfl) rfl rfl) (by rw [hK]; rfl) (pla_of (fun _ => rfl) fun _ _ => rfl) (zc (zl ok252 rfl) (zc (zl ok252 rfl) zn fun _ => rfl) fun _ => rfl) (h118 hX hK (lk rfl hn) ok252)) fun _ _ => rfl))
  (ssJ_cons (Snd.J (ss_exp ok252 (se_meth hX (hm238 hK) pla_nil (zl ok252 rfl) zn (h238 hX hK (lk rfl hn) ok252) fun _ => rfl) fun _ _ => rfl))
  (ssJ_cons (ssJ_forR (nm:="") hX ok252 (lk rfl hn) (bn (by rw [hK]; rfl) rfl (by decide) rfl rfl) rfl (pla_of (fun _ => rfl) fun _ _ => rfl) (zc (zb (op:=.sub) (zl ok252 rfl) zi) (zc (se_neg zi) (zc (se_neg zi) zn fun _ => rfl) fun _ => rfl) fun _ => rfl)
  (ssJ_cons (Snd.J (ss_augA (op:=.shr) (k:=2) hX rfl rfl (hget hK "span" (by decide)) (hset hK "span" (by decide)) (zl ok252 rfl) zi))
  (ssJ_cons (Snd.J (ss_if (st_cmp (c:=.eq) (zb (op:=.band) (zb (op:=.shr) (zl ok252 rfl) (zl ok252 rfl)) zi) zi rfl)
  (zss (ss_augA (op:=.add) (k:=1) hX rfl rfl (hget hK "low" (by decide)) (hset hK "low" (by decide)) (zl ok252 rfl) (se_attr hX (k:=2) rfl (hget hK "span" (by decide)) (zl ok252 rfl) fun _ => rfl))
  ss_nil)
  ss_nil))
  (ssJ_cons (ssJ_exp ok252 (seJ_meth hX (hm231 hK) pla_nil (zl ok252 rfl) zn (h231 hX hK (lk rfl hn) ok252) fun _ => rfl) fun _ _ => rfl)
  ssJ_nil))))
  ssJ_nil)))
theorem c252 (hX : X.Ok) (hK : X.K = hd.heap_1 P) (hn : 4 <= n) (hF : F.Ok) : CodJ X n F (.ref 252) 3 F_RangeWriter_direct:=by
 obtain ⟨m, rfl⟩:=ex1 rfl hn
 exact (funJ_def hX hF ok252 (by rw [hK]; exact D252 P) (s252 hX hK (lk1 rfl hn)))
theorem h252 (hX : X.Ok) (hK : X.K = hd.heap_1 P) (hn : 4 <= n) (hF : F.Ok) : FunJ X n F (.ref 252) 3 F_RangeWriter_direct:=(c252 hX hK hn hF).fun
theorem hm252 (hK : X.K = hd.heap_1 P) : MethK X.K 283 "direct" 252:=hK ▸ ⟨by kernel_rfl, by kernel_rfl, by kernel_rfl, by kernel_rfl, by decide⟩
noncomputable def d259 (P : Params) : FnD (hd.heap_1 P) 259:=⟨_, _, _, _, _, ⟨_, _, _, _, _, _, _, _, _, _, rfl⟩⟩
noncomputable abbrev f259 (P : Params) : FnC:=(d259 P).fc ["self", "models", "start", "count", "value", "node", "place", "bit"]
theorem ok259 {P : Params} : (f259 P).Ok:=.of rfl
theorem D259 (P : Params) : DefK (hd.heap_1 P) (f259 P) (d259 P).body 5 :=
 ⟨⟨_, _, _, _, _, _, _, _, _, _, _, rfl, fun xs hl => by exact ln5 xs hl fun _ _ _ _ _ _ _ => .of_eq rfl⟩, by kernel_rfl, rfl, rfl, Nat.le_of_ble_eq_true rfl, nd_auto rfl, ckd_auto rfl⟩
theorem s259 (hX : X.Ok) (hK : X.K = hd.heap_1 P) (hn : 4 <= n) : SSsJ X n (f259 P) (d259 P).body (sSeq B_RangeWriter_tree) :=
 (ssJ_cons (Snd.J (ss_exp ok259 (se_def hX ok259 (gn (by rw [hK]; rfl) rfl rfl) (by rw [hK]; rfl) (pla_of (fun _ => rfl) fun _ _ => rfl) (zc (zl ok259 rfl) (zc (zl ok259 rfl) zn fun _ => rfl) fun _ => rfl) (h118 hX hK (lk rfl hn) ok259)) fun _ _ => rfl))
  (ssJ_cons (Snd.J (ss_asg ok259 rfl zi fun _ => rfl))
  (ssJ_cons (ssJ_forR (nm:="") hX ok259 (lk rfl hn) (bn (by rw [hK]; rfl) rfl (by decide) rfl rfl) rfl (pla_of (fun _ => rfl) fun _ _ => rfl) (zc (zb (op:=.sub) (zl ok259 rfl) zi) (zc (se_neg zi) (zc (se_neg zi) zn fun _ => rfl) fun _ => rfl) fun _ => rfl)
  (ssJ_cons (Snd.J (ss_asg ok259 rfl (zb (op:=.band) (zb (op:=.shr) (zl ok259 rfl) (zl ok259 rfl)) zi) fun _ => rfl))
  (ssJ_cons (ssJ_exp ok259 (seJ_meth hX (hm245 hK) (pla_of (fun _ => rfl) fun _ _ => rfl) (zl ok259 rfl) (zc (zl ok259 rfl) (zc (zb (op:=.add) (zl ok259 rfl) (zl ok259 rfl)) (zc (zl ok259 rfl) zn fun _ => rfl) fun _ => rfl) fun _ => rfl) (h245 hX hK (lk rfl hn) ok259) fun _ => rfl) fun _ _ => rfl)
  (ssJ_cons (Snd.J (ss_asg ok259 rfl (zb (op:=.bor) (zb (op:=.shl) (zl ok259 rfl) zi) (zl ok259 rfl)) fun _ => rfl))
  ssJ_nil))))
  ssJ_nil)))
theorem c259 (hX : X.Ok) (hK : X.K = hd.heap_1 P) (hn : 5 <= n) (hF : F.Ok) : CodJ X n F (.ref 259) 5 F_RangeWriter_tree:=by
 obtain ⟨m, rfl⟩:=ex1 rfl hn
 exact (funJ_def hX hF ok259 (by rw [hK]; exact D259 P) (s259 hX hK (lk1 rfl hn)))
theorem h259 (hX : X.Ok) (hK : X.K = hd.heap_1 P) (hn : 5 <= n) (hF : F.Ok) : FunJ X n F (.ref 259) 5 F_RangeWriter_tree:=(c259 hX hK hn hF).fun
theorem hm259 (hK : X.K = hd.heap_1 P) : MethK X.K 283 "tree" 259:=hK ▸ ⟨by kernel_rfl, by kernel_rfl, by kernel_rfl, by kernel_rfl, by decide⟩
noncomputable def d266 (P : Params) : FnD (hd.heap_1 P) 266:=⟨_, _, _, _, _, ⟨_, _, _, _, _, _, _, _, _, _, rfl⟩⟩
noncomputable abbrev f266 (P : Params) : FnC:=(d266 P).fc ["self", "models", "start", "count", "value", "node", "place", "bit"]
theorem ok266 {P : Params} : (f266 P).Ok:=.of rfl
theorem D266 (P : Params) : DefK (hd.heap_1 P) (f266 P) (d266 P).body 5 :=
 ⟨⟨_, _, _, _, _, _, _, _, _, _, _, rfl, fun xs hl => by exact ln5 xs hl fun _ _ _ _ _ _ _ => .of_eq rfl⟩, by kernel_rfl, rfl, rfl, Nat.le_of_ble_eq_true rfl, nd_auto rfl, ckd_auto rfl⟩
theorem s266 (hX : X.Ok) (hK : X.K = hd.heap_1 P) (hn : 4 <= n) : SSsJ X n (f266 P) (d266 P).body (sSeq B_RangeWriter_reverse) :=
 (ssJ_cons (Snd.J (ss_exp ok266 (se_def hX ok266 (gn (by rw [hK]; rfl) rfl rfl) (by rw [hK]; rfl) (pla_of (fun _ => rfl) fun _ _ => rfl) (zc (zl ok266 rfl) (zc (zl ok266 rfl) zn fun _ => rfl) fun _ => rfl) (h118 hX hK (lk rfl hn) ok266)) fun _ _ => rfl))
  (ssJ_cons (Snd.J (ss_asg ok266 rfl zi fun _ => rfl))
  (ssJ_cons (ssJ_forR (nm:="") hX ok266 (lk rfl hn) (bn (by rw [hK]; rfl) rfl (by decide) rfl rfl) rfl (pla_of (fun _ => rfl) fun _ _ => rfl) (zc (zl ok266 rfl) zn fun _ => rfl)
  (ssJ_cons (Snd.J (ss_asg ok266 rfl (zb (op:=.band) (zb (op:=.shr) (zl ok266 rfl) (zl ok266 rfl)) zi) fun _ => rfl))
  (ssJ_cons (ssJ_exp ok266 (seJ_meth hX (hm245 hK) (pla_of (fun _ => rfl) fun _ _ => rfl) (zl ok266 rfl) (zc (zl ok266 rfl) (zc (zb (op:=.add) (zl ok266 rfl) (zl ok266 rfl)) (zc (zl ok266 rfl) zn fun _ => rfl) fun _ => rfl) fun _ => rfl) (h245 hX hK (lk rfl hn) ok266) fun _ => rfl) fun _ _ => rfl)
  (ssJ_cons (Snd.J (ss_asg ok266 rfl (zb (op:=.bor) (zb (op:=.shl) (zl ok266 rfl) zi) (zl ok266 rfl)) fun _ => rfl))
  ssJ_nil))))
  ssJ_nil)))
theorem c266 (hX : X.Ok) (hK : X.K = hd.heap_1 P) (hn : 5 <= n) (hF : F.Ok) : CodJ X n F (.ref 266) 5 F_RangeWriter_reverse:=by
 obtain ⟨m, rfl⟩:=ex1 rfl hn
 exact (funJ_def hX hF ok266 (by rw [hK]; exact D266 P) (s266 hX hK (lk1 rfl hn)))
theorem h266 (hX : X.Ok) (hK : X.K = hd.heap_1 P) (hn : 5 <= n) (hF : F.Ok) : FunJ X n F (.ref 266) 5 F_RangeWriter_reverse:=(c266 hX hK hn hF).fun
theorem hm266 (hK : X.K = hd.heap_1 P) : MethK X.K 283 "reverse" 266:=hK ▸ ⟨by kernel_rfl, by kernel_rfl, by kernel_rfl, by kernel_rfl, by decide⟩
noncomputable def d273 (P : Params) : FnD (hd.heap_1 P) 273:=⟨_, _, _, _, _, ⟨_, _, _, _, _, _, _, _, _, _, rfl⟩⟩
noncomputable abbrev f273 (P : Params) : FnC:=(d273 P).fc ["self"]
theorem ok273 {P : Params} : (f273 P).Ok:=.of rfl
theorem D273 (P : Params) : DefK (hd.heap_1 P) (f273 P) (d273 P).body 1 :=
 ⟨⟨_, _, _, _, _, _, _, _, _, _, _, rfl, fun xs hl => by exact ln1 xs hl fun _ _ _ => .of_eq rfl⟩, by kernel_rfl, rfl, rfl, Nat.le_of_ble_eq_true rfl, nd_auto rfl, ckd_auto rfl⟩
theorem s273 (hX : X.Ok) (hK : X.K = hd.heap_1 P) (hn : 1 <= n) : SSs X n (f273 P) (d273 P).body (sSeq B_RangeWriter_size) :=
 (zss (ss_ret (zb (op:=.add) (se_b1 hX ok273 (bn (by rw [hK]; rfl) rfl (by decide) rfl rfl) (se_attr hX (k:=0) rfl (hget hK "made" (by decide)) (zl ok273 rfl) fun _ => rfl) (fun _ => rfl) fun_len) (se_if (st_val (se_attr hX (k:=5) rfl (hget hK "closed" (by decide)) (zl ok273 rfl) fun _ => rfl) fun _ => rfl) zi (zb (op:=.sub) (zb (op:=.add) (se_attr hX (k:=4) rfl (hget hK "held" (by decide)) (zl ok273 rfl) fun _ => rfl) (se_gint hX ok273 (by rw [hK]; rfl) rfl rfl)) zi))))
  ss_nil)
theorem c273 (hX : X.Ok) (hK : X.K = hd.heap_1 P) (hn : 2 <= n) (hF : F.Ok) : CodS X n F (.ref 273) 1 F_RangeWriter_size:=by
 obtain ⟨m, rfl⟩:=ex1 rfl hn
 exact (fun_def hX hF ok273 (by rw [hK]; exact D273 P) (s273 hX hK (lk1 rfl hn)))
theorem h273 (hX : X.Ok) (hK : X.K = hd.heap_1 P) (hn : 2 <= n) (hF : F.Ok) : FunS X n F (.ref 273) 1 F_RangeWriter_size:=(c273 hX hK hn hF).fun
theorem hm273 (hK : X.K = hd.heap_1 P) : MethK X.K 283 "size" 273:=hK ▸ ⟨by kernel_rfl, by kernel_rfl, by kernel_rfl, by kernel_rfl, by decide⟩
noncomputable def d280 (P : Params) : FnD (hd.heap_1 P) 280:=⟨_, _, _, _, _, ⟨_, _, _, _, _, _, _, _, _, _, rfl⟩⟩
noncomputable abbrev f280 (P : Params) : FnC:=(d280 P).fc ["self", "turn"]
theorem ok280 {P : Params} : (f280 P).Ok:=.of rfl
theorem D280 (P : Params) : DefK (hd.heap_1 P) (f280 P) (d280 P).body 1 :=
 ⟨⟨_, _, _, _, _, _, _, _, _, _, _, rfl, fun xs hl => by exact ln1 xs hl fun _ _ _ => .of_eq rfl⟩, by kernel_rfl, rfl, rfl, Nat.le_of_ble_eq_true rfl, nd_auto rfl, ckd_auto rfl⟩
theorem s280 (hX : X.Ok) (hK : X.K = hd.heap_1 P) (hn : 2 <= n) : SSsJ X n (f280 P) (d280 P).body (sSeq B_RangeWriter_done) :=
 (ssJ_cons (ssJ_if (Snd.J (st_not (st_val (se_attr hX (k:=5) rfl (hget hK "closed" (by decide)) (zl ok280 rfl) fun _ => rfl) fun _ => rfl)))
  (ssJ_cons (ssJ_forR (nm:="") hX ok280 (lk rfl hn) (bn (by rw [hK]; rfl) rfl (by decide) rfl rfl) rfl (pla_of (fun _ => rfl) fun _ _ => rfl) (zc (se_gint hX ok280 (by rw [hK]; rfl) rfl rfl) zn fun _ => rfl)
  (ssJ_cons (ssJ_exp ok280 (seJ_meth hX (hm224 hK) pla_nil (zl ok280 rfl) zn (h224 hX hK (lk rfl hn) ok280) fun _ => rfl) fun _ _ => rfl)
  ssJ_nil))
  (ssJ_cons (Snd.J (ss_asgA hX (k:=5) rfl (hset hK "closed" (by decide)) se_bool (zl ok280 rfl) fun _ => rfl))
  ssJ_nil))
  ssJ_nil)
  (ssJ_cons (Snd.J (ss_ret (se_t1 hX ok280 (bn (by rw [hK]; rfl) rfl (by decide) rfl rfl) (se_attr hX (k:=0) rfl (hget hK "made" (by decide)) (zl ok280 rfl) fun _ => rfl) (fun _ => rfl) (fun_bytes (lk rfl hn)))))
  ssJ_nil))
theorem c280 (hX : X.Ok) (hK : X.K = hd.heap_1 P) (hn : 3 <= n) (hF : F.Ok) : CodJ X n F (.ref 280) 1 F_RangeWriter_done:=by
 obtain ⟨m, rfl⟩:=ex1 rfl hn
 exact (funJ_def hX hF ok280 (by rw [hK]; exact D280 P) (s280 hX hK (lk1 rfl hn)))
theorem h280 (hX : X.Ok) (hK : X.K = hd.heap_1 P) (hn : 3 <= n) (hF : F.Ok) : FunJ X n F (.ref 280) 1 F_RangeWriter_done:=(c280 hX hK hn hF).fun
theorem hm280 (hK : X.K = hd.heap_1 P) : MethK X.K 283 "done" 280:=hK ▸ ⟨by kernel_rfl, by kernel_rfl, by kernel_rfl, by kernel_rfl, by decide⟩
end
section
variable {X : Cx} {n : Nat} {F : FnC} {scope : Scope} {x : Str}
theorem el_abs_auto (hX : X.Ok) {p pos : Pos} {e : Expr} {a : PV -> P} (ht : nsIn X.K mainGlobals "abs" = some none) (hk : scope.kind = .function)
  (hx : ∀ L cl, (relabel scope (F.env L cl)).names.lookup ("abs" : Str) = some NameKind.globalImplicit) (ha : EltS X F scope x e a) (hse : ∀ env, starEach [e] env = [(false, eval e env)]) :
  EltS X F scope x (.Call (.Name "abs" p) [e] [] pos) (fun v => pAbs (a v)) :=
 el_abs hX (fun G os A L cl cl' O w σ s C Q E' S h => LCgL.ld_built S.fr hX.K hX.T ht rfl (by decide) h rfl rfl hk (hx L cl) (by decide)) ha hse
noncomputable def isL : Option NameKind -> Bool
 | some .local => true
 | _ => false
theorem isL_eq {o : Option NameKind} (h : isL o = true) : o = some .local:=by
 cases o with
 | none => cases h
 | some k => cases k <;> first | rfl | cases h
noncomputable def nkLocal : NameKind -> Bool
 | .local => true
 | _ => false
noncomputable def nkCell : NameKind -> Bool
 | .cell => true
 | _ => false
noncomputable def nkFree : NameKind -> Bool
 | .free => true
 | _ => false
theorem lookup_mem {nm : Str} {k : NameKind} : ∀ {l : List (Str × NameKind)}, l.lookup nm = some k -> (nm, k) ∈ l
 | [], h => by cases h
 | (a, b) :: r, h => by
  rw [List.lookup_cons] at h
  by_cases q : (nm == a) = true
  ·rw [q] at h
   cases h
   rw [eq_of_beq q]
   exact .head _
  ·rw [Bool.not_eq_true] at q
   rw [q] at h
   exact .tail _ (lookup_mem h)
theorem csk0 (h1 : scope.kind = .function) (h2 : (scope.names.all fun y => !nkCell y.2) = true) (h3 : (scope.names.all fun y => !nkLocal y.2 || isL (scope.names.lookup y.1)) = true) (h4 : scope.names.lookup x = some .local)
  (h5 : ∀ env, closureFor scope env = pure []) (h6 : (scope.names.all fun y => !nkFree y.2) = true) : CsK F scope x :=
 ⟨h1, fun y hy q => (by have:=List.all_eq_true.mp h2 y hy; rw [q] at this; cases this),
 fun y hy q => by
   have:=List.all_eq_true.mp h3 y hy
   rw [q] at this
   exact isL_eq (by simpa [nkLocal] using this), h4,
 fun L cl _ => ⟨[], h5 _, fun nm h => by have:=List.all_eq_true.mp h6 _ (lookup_mem h); cases this⟩⟩
theorem csk1 {nm0 : Str} (h1 : scope.kind = .function) (h2 : (scope.names.all fun y => !nkCell y.2) = true) (h3 : (scope.names.all fun y => !nkLocal y.2 || isL (scope.names.lookup y.1)) = true) (h4 : scope.names.lookup x = some .local)
  {i : Nat} (hi : F.vars[i]? = some nm0) (hc : F.scope.names.lookup nm0 = some .cell)
  (h5 : ∀ env a, cellOf env nm0 = pure a -> closureFor scope env = pure [(nm0, a)]) (h6 : (scope.names.all fun y => !nkFree y.2 || y.1 == nm0) = true) : CsK F scope x :=
 ⟨h1, fun y hy q => (by have:=List.all_eq_true.mp h2 y hy; rw [q] at this; cases this),
 fun y hy q => by
   have:=List.all_eq_true.mp h3 y hy
   rw [q] at this
   exact isL_eq (by simpa [nkLocal] using this), h4,
 fun L cl h => by
  obtain ⟨a, ha⟩:=Option.isSome_iff_exists.mp (h nm0 (List.mem_of_getElem? hi) hc)
  refine ⟨[(nm0, a)], h5 _ a ?_, fun nm hn => ?_⟩
  ·unfold cellOf
   rw [show (F.env L cl).cells.lookup nm0 = some a from ha]
  ·have:=List.all_eq_true.mp h6 _ (lookup_mem hn)
   have e : nm = nm0:=by simpa [nkFree] using this
   subst e
   rw [ha]
   simp [List.lookup_cons]⟩
end
section
variable {P : Params} {X : Cx} {n : Nat} {F : FnC}
noncomputable def d292 (P : Params) : FnD (hd.heap_1 P) 292:=⟨_, _, _, _, _, ⟨_, _, _, _, _, _, _, _, _, _, rfl⟩⟩
noncomputable abbrev f292 (P : Params) : FnC:=(d292 P).fc ["script", "nums", "first", "others", "acts", "k", "n", "way", "more", "count", "at"]
theorem ok292 {P : Params} : (f292 P).Ok:=.of rfl
theorem D292 (P : Params) : DefK (hd.heap_1 P) (f292 P) (d292 P).body 1 :=
 ⟨⟨_, _, _, _, _, _, _, _, _, _, _, rfl, fun xs hl => by exact ln1 xs hl fun _ _ _ => .of_eq rfl⟩, by kernel_rfl, rfl, rfl, Nat.le_of_ble_eq_true rfl, nd_auto rfl, ckd_auto rfl⟩
theorem s292 (hX : X.Ok) (hK : X.K = hd.heap_1 P) (hn : 1 <= n) : SSs X n (f292 P) (d292 P).body (sSeq B_law_acts) :=
 (zss (ss_asg_compI hX ok292 (lk rfl hn) (csk0 rfl rfl rfl rfl (fun _ => rfl) rfl) rfl rfl (se_cut (zl ok292 rfl) pt_none (pt_some zi)) (el_bin (op:=.mod) (el_abs_auto hX (by rw [hK]; rfl) rfl (fun _ _ => rfl) (el_var rfl rfl rfl) fun _ => rfl) (el_bin (op:=.pow) el_int el_int)) (fun _ _ => rfl) fun _ _ => rfl)
  (zss (ss_if (st_cmp (c:=.lt) (se_b1 hX ok292 (bn (by rw [hK]; rfl) rfl (by decide) rfl rfl) (zl ok292 rfl) (fun _ => rfl) fun_len) zi rfl)
  (zss (ss_asg ok292 rfl (zb (op:=.add) (zl ok292 rfl) (se_cut (se_list (zc zi (zc zi (zc zi (zc zi (zc zi (zc zi zn fun _ => rfl) fun _ => rfl) fun _ => rfl) fun _ => rfl) fun _ => rfl) fun _ => rfl) (by decide)) (pt_some (se_b1 hX ok292 (bn (by rw [hK]; rfl) rfl (by decide) rfl rfl) (zl ok292 rfl) (fun _ => rfl) fun_len)) pt_none)) fun _ => rfl)
  ss_nil)
  ss_nil)
  (zss (ss_swap (nms:=["first", "others", "acts"]) ok292 (lk rfl hn) rfl (zc (se_sub (zl ok292 rfl) zi fun _ _ => rfl) (zc (se_cut (zl ok292 rfl) (pt_some zi) pt_none) (zc (se_list zn (by decide)) zn fun _ => rfl) fun _ => rfl) fun _ => rfl) rfl (by decide) (fun _ => rfl) fun _ _ => rfl)
  (zss (ss_forR (nm:="") hX ok292 (lk rfl hn) (bn (by rw [hK]; rfl) rfl (by decide) rfl rfl) rfl (pla_of (fun _ => rfl) fun _ _ => rfl) (zc (se_b2 hX ok292 (bn (by rw [hK]; rfl) rfl (by decide) rfl rfl) zi (se_b2 hX ok292 (bn (by rw [hK]; rfl) rfl (by decide) rfl rfl) zi (zb (op:=.mul) zi (se_b1 hX ok292 (bn (by rw [hK]; rfl) rfl (by decide) rfl rfl) (zl ok292 rfl) (fun _ => rfl) fun_len)) (fun _ => rfl) (fun _ => rfl) (fun_max (lk rfl hn))) (fun _ => rfl) (fun _ => rfl) (fun_min (lk rfl hn))) zn fun _ => rfl)
  (zss (ss_asg ok292 rfl (se_sub (zl ok292 rfl) (zb (op:=.mod) (zl ok292 rfl) (se_b1 hX ok292 (bn (by rw [hK]; rfl) rfl (by decide) rfl rfl) (zl ok292 rfl) (fun _ => rfl) fun_len)) fun _ _ => rfl) fun _ => rfl)
  (zss (ss_swap (nms:=["way", "more"]) ok292 (lk rfl hn) rfl (zc (zb (op:=.mod) (zl ok292 rfl) zi) (zc (zb (op:=.fdiv) (zl ok292 rfl) zi) zn fun _ => rfl) fun _ => rfl) rfl (by decide) (fun _ => rfl) fun _ _ => rfl)
  (zss (ss_asg ok292 rfl (se_sub (se_list (zc zi (zc (zb (op:=.add) zi (zb (op:=.mod) (zl ok292 rfl) zi)) (zc (zb (op:=.add) zi (zb (op:=.mod) (zl ok292 rfl) zi)) (zc (zb (op:=.add) zi (zb (op:=.mod) (zl ok292 rfl) zi)) zn fun _ => rfl) fun _ => rfl) fun _ => rfl) fun _ => rfl) (by decide)) (zl ok292 rfl) fun _ _ => rfl) fun _ => rfl)
  (zss (ss_asg ok292 rfl (se_sub (se_list (zc (zb (op:=.mod) (zl ok292 rfl) zi) (zc zi (zc (se_sub (se_list (zc zi (zc zi zn fun _ => rfl) fun _ => rfl) (by decide)) (zb (op:=.mod) (zb (op:=.fdiv) (zl ok292 rfl) zi) zi) fun _ _ => rfl) (zc (se_sub (se_list (zc zi (zc zi zn fun _ => rfl) fun _ => rfl) (by decide)) (zb (op:=.mod) (zb (op:=.fdiv) (zl ok292 rfl) zi) zi) fun _ _ => rfl) zn fun _ => rfl) fun _ => rfl) fun _ => rfl) fun _ => rfl) (by decide)) (zl ok292 rfl) fun _ _ => rfl) fun _ => rfl)
  (zss (ss_exp ok292 (se_appendL (zl ok292 rfl) (se_tup (zc (zl ok292 rfl) (zc (zl ok292 rfl) (zc (zl ok292 rfl) (zc (se_if (st_cmp (c:=.lt) (zl ok292 rfl) (zb (op:=.mod) (zl ok292 rfl) zi) rfl) se_none (zb (op:=.mod) (zb (op:=.add) (zb (op:=.fdiv) (zl ok292 rfl) zi) (zl ok292 rfl)) (zb (op:=.pow) zi (zl ok292 rfl)))) zn fun _ => rfl) fun _ => rfl) fun _ => rfl) fun _ => rfl) (by decide)) (fun _ => rfl) fun _ => rfl) fun _ _ => rfl)
  ss_nil))))))
  (zss (ss_ret (se_tup (zc (zl ok292 rfl) (zc (zb (op:=.add) zi (zb (op:=.mod) (zb (op:=.fdiv) (zl ok292 rfl) zi) zi)) zn fun _ => rfl) fun _ => rfl) (by decide)))
  ss_nil)))))
theorem c292 (hX : X.Ok) (hK : X.K = hd.heap_1 P) (hn : 2 <= n) (hF : F.Ok) : CodS X n F (.ref 292) 1 F_law_acts:=by
 obtain ⟨m, rfl⟩:=ex1 rfl hn
 exact (fun_def hX hF ok292 (by rw [hK]; exact D292 P) (s292 hX hK (lk1 rfl hn)))
theorem h292 (hX : X.Ok) (hK : X.K = hd.heap_1 P) (hn : 2 <= n) (hF : F.Ok) : FunS X n F (.ref 292) 1 F_law_acts:=(c292 hX hK hn hF).fun
noncomputable def d299 (P : Params) : FnD (hd.heap_1 P) 299:=⟨_, _, _, _, _, ⟨_, _, _, _, _, _, _, _, _, _, rfl⟩⟩
noncomputable abbrev f299 (P : Params) : FnC:=(d299 P).fc ["act", "node"]
theorem ok299 {P : Params} : (f299 P).Ok:=.of rfl
theorem D299 (P : Params) : DefK (hd.heap_1 P) (f299 P) (d299 P).body 2 :=
 ⟨⟨_, _, _, _, _, _, _, _, _, _, _, rfl, fun xs hl => by exact ln2 xs hl fun _ _ _ _ => .of_eq rfl⟩, by kernel_rfl, rfl, rfl, Nat.le_of_ble_eq_true rfl, nd_auto rfl, ckd_auto rfl⟩
theorem s299 (hX : X.Ok) (hK : X.K = hd.heap_1 P) (hn : 1 <= n) : SSs X n (f299 P) (d299 P).body (sSeq B_law_spot) :=
 (zss (ss_ret (se_if (st_cmp (c:=.eq) (se_sub (zl ok299 rfl) zi fun _ _ => rfl) zi rfl) se_none (zb (op:=.add) (se_sub (zl ok299 rfl) zi fun _ _ => rfl) (zb (op:=.mul) (zl ok299 rfl) (se_intB hX ok299 (bn (by rw [hK]; rfl) rfl (by decide) rfl rfl) (se_cmp (c:=.gt) (se_sub (zl ok299 rfl) zi fun _ _ => rfl) zi rfl) fun _ => rfl)))))
  ss_nil)
theorem c299 (hX : X.Ok) (hK : X.K = hd.heap_1 P) (hn : 2 <= n) (hF : F.Ok) : CodS X n F (.ref 299) 2 F_law_spot:=by
 obtain ⟨m, rfl⟩:=ex1 rfl hn
 exact (fun_def hX hF ok299 (by rw [hK]; exact D299 P) (s299 hX hK (lk1 rfl hn)))
theorem h299 (hX : X.Ok) (hK : X.K = hd.heap_1 P) (hn : 2 <= n) (hF : F.Ok) : FunS X n F (.ref 299) 2 F_law_spot:=(c299 hX hK hn hF).fun
noncomputable def d306 (P : Params) : FnD (hd.heap_1 P) 306:=⟨_, _, _, _, _, ⟨_, _, _, _, _, _, _, _, _, _, rfl⟩⟩
noncomputable abbrev f306 (P : Params) : FnC:=(d306 P).fc ["plain", "models", "spot"]
theorem ok306 {P : Params} : (f306 P).Ok:=.of rfl
theorem D306 (P : Params) : DefK (hd.heap_1 P) (f306 P) (d306 P).body 3 :=
 ⟨⟨_, _, _, _, _, _, _, _, _, _, _, rfl, fun xs hl => by exact ln3 xs hl fun _ _ _ _ _ => .of_eq rfl⟩, by kernel_rfl, rfl, rfl, Nat.le_of_ble_eq_true rfl, nd_auto rfl, ckd_auto rfl⟩
theorem s306 (hX : X.Ok) (hK : X.K = hd.heap_1 P) (hn : 1 <= n) : SSs X n (f306 P) (d306 P).body (sSeq B_law_part) :=
 (zss (ss_ret (se_if (st_isNone (zl ok306 rfl)) (zb (op:=.fdiv) (se_sub (zl ok306 rfl) zi fun _ _ => rfl) zi) (zb (op:=.mul) (zb (op:=.fdiv) (se_sub (zl ok306 rfl) zi fun _ _ => rfl) zi) (se_sub (zl ok306 rfl) (zl ok306 rfl) fun _ _ => rfl))))
  ss_nil)
theorem c306 (hX : X.Ok) (hK : X.K = hd.heap_1 P) (hn : 2 <= n) (hF : F.Ok) : CodS X n F (.ref 306) 3 F_law_part:=by
 obtain ⟨m, rfl⟩:=ex1 rfl hn
 exact (fun_def hX hF ok306 (by rw [hK]; exact D306 P) (s306 hX hK (lk1 rfl hn)))
theorem h306 (hX : X.Ok) (hK : X.K = hd.heap_1 P) (hn : 2 <= n) (hF : F.Ok) : FunS X n F (.ref 306) 3 F_law_part:=(c306 hX hK hn hF).fun
noncomputable def d313 (P : Params) : FnD (hd.heap_1 P) 313:=⟨_, _, _, _, _, ⟨_, _, _, _, _, _, _, _, _, _, rfl⟩⟩
noncomputable abbrev f313 (P : Params) : FnC:=(d313 P).fc ["plain", "models", "spot", "part", "bit"]
theorem ok313 {P : Params} : (f313 P).Ok:=.of rfl
theorem D313 (P : Params) : DefK (hd.heap_1 P) (f313 P) (d313 P).body 5 :=
 ⟨⟨_, _, _, _, _, _, _, _, _, _, _, rfl, fun xs hl => by exact ln5 xs hl fun _ _ _ _ _ _ _ => .of_eq rfl⟩, by kernel_rfl, rfl, rfl, Nat.le_of_ble_eq_true rfl, nd_auto rfl, ckd_auto rfl⟩
theorem s313 (hX : X.Ok) (hK : X.K = hd.heap_1 P) (hn : 1 <= n) : SSs X n (f313 P) (d313 P).body (sSeq B_law_goes) :=
 (zss (ss_asgS (zb (op:=.add) (se_sub (zl ok313 rfl) zi fun _ _ => rfl) (zb (op:=.mul) (zl ok313 rfl) (zl ok313 rfl))) (zl ok313 rfl) zi fun _ => rfl)
  (zss (ss_asgS (se_if (st_bool (all_or (st_cmp (c:=.eq) (zl ok313 rfl) zi rfl) (all_or1 (st_isNone (zl ok313 rfl))))) (zl ok313 rfl) (zb (op:=.sub) (se_sub (zl ok313 rfl) zi fun _ _ => rfl) (zl ok313 rfl))) (zl ok313 rfl) zi fun _ => rfl)
  (zss (ss_if (st_isNotNone (zl ok313 rfl))
  (zss (ss_asgS (se_if (st_cmp (c:=.eq) (zl ok313 rfl) zi rfl) (zb (op:=.sub) (se_sub (zl ok313 rfl) (zl ok313 rfl) fun _ _ => rfl) (zb (op:=.fdiv) (se_sub (zl ok313 rfl) (zl ok313 rfl) fun _ _ => rfl) zi)) (zb (op:=.add) (se_sub (zl ok313 rfl) (zl ok313 rfl) fun _ _ => rfl) (zb (op:=.fdiv) (zb (op:=.sub) zi (se_sub (zl ok313 rfl) (zl ok313 rfl) fun _ _ => rfl)) zi))) (zl ok313 rfl) (zl ok313 rfl) fun _ => rfl)
  ss_nil)
  ss_nil)
  (zss (ss_while ok313 (st_cmp (c:=.lt) (se_sub (zl ok313 rfl) zi fun _ _ => rfl) (zb (op:=.pow) zi zi) rfl) (zss (ss_asgSs (lk rfl hn) (.cons (zl ok313 rfl) zi (.cons (zl ok313 rfl) zi (.cons (zl ok313 rfl) zi .nil))) (zc (zb (op:=.mul) (se_sub (zl ok313 rfl) zi fun _ _ => rfl) zi) (zc (zb (op:=.mul) (se_sub (zl ok313 rfl) zi fun _ _ => rfl) zi) (zc (zb (op:=.add) (se_sub (zl ok313 rfl) zi fun _ _ => rfl) zi) zn fun _ => rfl) fun _ => rfl) fun _ => rfl) rfl (by decide) (fun _ => rfl) fun _ _ => rfl)
  ss_nil))
  ss_nil))))
theorem c313 (hX : X.Ok) (hK : X.K = hd.heap_1 P) (hn : 2 <= n) (hF : F.Ok) : CodS X n F (.ref 313) 5 F_law_goes:=by
 obtain ⟨m, rfl⟩:=ex1 rfl hn
 exact (fun_def hX hF ok313 (by rw [hK]; exact D313 P) (s313 hX hK (lk1 rfl hn)))
theorem h313 (hX : X.Ok) (hK : X.K = hd.heap_1 P) (hn : 2 <= n) (hF : F.Ok) : FunS X n F (.ref 313) 5 F_law_goes:=(c313 hX hK hn hF).fun
noncomputable def d318 (P : Params) : FnD (hd.heap_1 P) 318:=⟨_, _, _, _, _, ⟨_, _, _, _, _, _, _, _, _, _, rfl⟩⟩
noncomputable abbrev f318 (P : Params) : FnC:=(d318 P).fc ["act", "bits", "row"]
theorem ok318 {P : Params} : (f318 P).Ok:=.of rfl
theorem D318 (P : Params) : DefK (hd.heap_1 P) (f318 P) (d318 P).body 2 :=
 ⟨⟨_, _, _, _, _, _, _, _, _, _, _, rfl, fun xs hl => by exact ln2 xs hl fun _ _ _ _ => .of_eq rfl⟩, by kernel_rfl, rfl, rfl, Nat.le_of_ble_eq_true rfl, nd_auto rfl, ckd_auto rfl⟩
theorem s318 (hX : X.Ok) (hK : X.K = hd.heap_1 P) (hn : 1 <= n) : SSs X n (f318 P) (d318 P).body (sSeq B_law_number) :=
 (zss (ss_asg ok318 rfl (se_if (st_cmp (c:=.eq) (se_sub (zl ok318 rfl) zi fun _ _ => rfl) zi rfl) (zl ok318 rfl) (se_rev (zl ok318 rfl))) fun _ => rfl)
  (zss (ss_ret (se_b1 hX ok318 (bn (by rw [hK]; rfl) rfl (by decide) rfl rfl) (se_compZ hX ok318 (lk rfl hn) (csk1 (nm0:="row") (i:=2) rfl rfl rfl rfl rfl rfl (fun _ _ h => by simp only [closureFor, List.forIn_cons, List.forIn_nil]; rw [h]; rfl) rfl) (bn (by rw [hK]; rfl) rfl (by decide) rfl rfl) (pla_of (fun _ => rfl) fun _ _ => rfl) (zc (se_b1 hX ok318 (bn (by rw [hK]; rfl) rfl (by decide) rfl rfl) (zl ok318 rfl) (fun _ => rfl) fun_len) zn fun _ => rfl) (el_bin (op:=.mul) (el_sub (el_cell rfl rfl rfl rfl (fun _ _ => rfl) rfl) (el_var rfl rfl rfl) fun _ _ => rfl) (el_bin (op:=.pow) el_int (el_var rfl rfl rfl)))) (fun _ => rfl) (fun_sum (lk rfl hn))))
  ss_nil))
theorem c318 (hX : X.Ok) (hK : X.K = hd.heap_1 P) (hn : 2 <= n) (hF : F.Ok) : CodS X n F (.ref 318) 2 F_law_number:=by
 obtain ⟨m, rfl⟩:=ex1 rfl hn
 exact (fun_def hX hF ok318 (by rw [hK]; exact D318 P) (s318 hX hK (lk1 rfl hn)))
theorem h318 (hX : X.Ok) (hK : X.K = hd.heap_1 P) (hn : 2 <= n) (hF : F.Ok) : FunS X n F (.ref 318) 2 F_law_number:=(c318 hX hK hn hF).fun
noncomputable def d323 (P : Params) : FnD (hd.heap_1 P) 323:=⟨_, _, _, _, _, ⟨_, _, _, _, _, _, _, _, _, _, rfl⟩⟩
noncomputable abbrev f323 (P : Params) : FnC:=(d323 P).fc ["acts", "border", "plain", "models", "numbers", "act", "node", "bits", "k", "spot", "part", "bit"]
theorem ok323 {P : Params} : (f323 P).Ok:=.of rfl
theorem D323 (P : Params) : DefK (hd.heap_1 P) (f323 P) (d323 P).body 2 :=
 ⟨⟨_, _, _, _, _, _, _, _, _, _, _, rfl, fun xs hl => by exact ln2 xs hl fun _ _ _ _ => .of_eq rfl⟩, by kernel_rfl, rfl, rfl, Nat.le_of_ble_eq_true rfl, nd_auto rfl, ckd_auto rfl⟩
theorem s323 (hX : X.Ok) (hK : X.K = hd.heap_1 P) (hn : 2 <= n) : SSs X n (f323 P) (d323 P).body (sSeq B_law_written) :=
 (zss (ss_unp ok323 (lk rfl hn) .three rfl (se_tup (zc (se_list (zc zi (zc (zb (op:=.sub) (zb (op:=.pow) zi zi) zi) (zc zi zn fun _ => rfl) fun _ => rfl) fun _ => rfl) (by decide)) (zc (zb (op:=.mul) (se_list (zc zi zn fun _ => rfl) (by decide)) zi) (zc (se_list zn (by decide)) zn fun _ => rfl) fun _ => rfl) fun _ => rfl) (by decide)) (fun _ => rfl) fun _ _ => rfl)
  (zss (ss_forV ok323 (lk rfl hn) (tgt_name ok323 rfl) (zl ok323 rfl)
  (zss (ss_swap (nms:=["node", "bits"]) ok323 (lk rfl hn) rfl (zc zi (zc (se_list zn (by decide)) zn fun _ => rfl) fun _ => rfl) rfl (by decide) (fun _ => rfl) fun _ _ => rfl)
  (zss (ss_forR (nm:="") hX ok323 (lk rfl hn) (bn (by rw [hK]; rfl) rfl (by decide) rfl rfl) rfl (pla_of (fun _ => rfl) fun _ _ => rfl) (zc (se_sub (zl ok323 rfl) zi fun _ _ => rfl) zn fun _ => rfl)
  (zss (ss_asg ok323 rfl (se_def hX ok323 (gn (by rw [hK]; rfl) rfl rfl) (by rw [hK]; rfl) (pla_of (fun _ => rfl) fun _ _ => rfl) (zc (zl ok323 rfl) (zc (zl ok323 rfl) zn fun _ => rfl) fun _ => rfl) (h299 hX hK (lk rfl hn) ok323)) fun _ => rfl)
  (zss (ss_asg ok323 rfl (se_def hX ok323 (gn (by rw [hK]; rfl) rfl rfl) (by rw [hK]; rfl) (pla_of (fun _ => rfl) fun _ _ => rfl) (zc (zl ok323 rfl) (zc (zl ok323 rfl) (zc (zl ok323 rfl) zn fun _ => rfl) fun _ => rfl) fun _ => rfl) (h306 hX hK (lk rfl hn) ok323)) fun _ => rfl)
  (zss (ss_if (st_isNone (se_sub (zl ok323 rfl) zi fun _ _ => rfl))
  (zss (ss_asg ok323 rfl (se_intB hX ok323 (bn (by rw [hK]; rfl) rfl (by decide) rfl rfl) (se_cmp (c:=.ge) (zb (op:=.mul) (zb (op:=.mul) (zl ok323 rfl) (zb (op:=.pow) zi zi)) (zb (op:=.pow) zi (se_sub (zl ok323 rfl) zi fun _ _ => rfl))) (zb (op:=.add) (se_sub (zl ok323 rfl) zi fun _ _ => rfl) (zl ok323 rfl)) rfl) fun _ => rfl) fun _ => rfl)
  ss_nil)
  (zss (ss_asg ok323 rfl (zb (op:=.mod) (zb (op:=.fdiv) (se_sub (zl ok323 rfl) zi fun _ _ => rfl) (zb (op:=.pow) zi (se_if (st_cmp (c:=.eq) (se_sub (zl ok323 rfl) zi fun _ _ => rfl) zi rfl) (zl ok323 rfl) (zb (op:=.sub) (zb (op:=.sub) (se_sub (zl ok323 rfl) zi fun _ _ => rfl) zi) (zl ok323 rfl))))) zi) fun _ => rfl)
  ss_nil))
  (zss (ss_exp ok323 (se_def hX ok323 (gn (by rw [hK]; rfl) rfl rfl) (by rw [hK]; rfl) (pla_of (fun _ => rfl) fun _ _ => rfl) (zc (zl ok323 rfl) (zc (zl ok323 rfl) (zc (zl ok323 rfl) (zc (zl ok323 rfl) (zc (zl ok323 rfl) zn fun _ => rfl) fun _ => rfl) fun _ => rfl) fun _ => rfl) fun _ => rfl) (h313 hX hK (lk rfl hn) ok323)) fun _ _ => rfl)
  (zss (ss_exp ok323 (se_appendL (zl ok323 rfl) (zl ok323 rfl) (fun _ => rfl) fun _ => rfl) fun _ _ => rfl)
  (zss (ss_asg ok323 rfl (zb (op:=.add) (zb (op:=.mul) zi (zl ok323 rfl)) (zl ok323 rfl)) fun _ => rfl)
  ss_nil)))))))
  (zss (ss_exp ok323 (se_appendL (zl ok323 rfl) (se_def hX ok323 (gn (by rw [hK]; rfl) rfl rfl) (by rw [hK]; rfl) (pla_of (fun _ => rfl) fun _ _ => rfl) (zc (zl ok323 rfl) (zc (zl ok323 rfl) zn fun _ => rfl) fun _ => rfl) (h318 hX hK (lk rfl hn) ok323)) (fun _ => rfl) fun _ => rfl) fun _ _ => rfl)
  ss_nil))) (.inl fun _ _ => rfl) fun _ _ => rfl)
  (zss (ss_ret (se_tup (zc (zl ok323 rfl) (zc (se_t1 hX ok323 (bn (by rw [hK]; rfl) rfl (by decide) rfl rfl) (se_compZ hX ok323 (lk rfl hn) (csk1 (nm0:="plain") (i:=2) rfl rfl rfl rfl rfl rfl (fun _ _ h => by simp only [closureFor, List.forIn_cons, List.forIn_nil]; rw [h]; rfl) rfl) (bn (by rw [hK]; rfl) rfl (by decide) rfl rfl) (pla_of (fun _ => rfl) fun _ _ => rfl) (zc (zb (op:=.add) (se_sub (zl ok323 rfl) zi fun _ _ => rfl) zi) (zc (se_neg zi) (zc (se_neg zi) zn fun _ => rfl) fun _ => rfl) fun _ => rfl) (el_bin (op:=.mod) (el_bin (op:=.fdiv) (el_sub (el_cell rfl rfl rfl rfl (fun _ _ => rfl) rfl) el_int fun _ _ => rfl) (el_bin (op:=.pow) el_int (el_var rfl rfl rfl))) el_int)) (fun _ => rfl) (fun_bytes (lk rfl hn))) (zc (zl ok323 rfl) zn fun _ => rfl) fun _ => rfl) fun _ => rfl) (by decide)))
  ss_nil)))
theorem c323 (hX : X.Ok) (hK : X.K = hd.heap_1 P) (hn : 3 <= n) (hF : F.Ok) : CodS X n F (.ref 323) 2 F_law_written:=by
 obtain ⟨m, rfl⟩:=ex1 rfl hn
 exact (fun_def hX hF ok323 (by rw [hK]; exact D323 P) (s323 hX hK (lk1 rfl hn)))
theorem h323 (hX : X.Ok) (hK : X.K = hd.heap_1 P) (hn : 3 <= n) (hF : F.Ok) : FunS X n F (.ref 323) 2 F_law_written:=(c323 hX hK hn hF).fun
end
section
variable {X : Cx} {n : Nat} {F : FnC}
theorem se_new2 (hm2 : 2 <= n) (hX : X.Ok) (hF : F.Ok) {nm : Str} {C fI : Addr} {p pos : Pos} {es : List Expr} {cs : List (M PV)} {G : List PV -> M PV} (hn : GnK X F nm (.ref C)) (hC : C = 199 \/ C = 283) (hm : makesIn X.K C = true) (hi : findIn X.K (.ref C) "__init__" = some (some (.ref fI))) (hf : isFn X.K (.ref fI) = true)
  (hk : keepIn X.K (.ref C) = true) (hp : PlA es) (h : SIt X n F es cs) (hG : CodS X (n - 1) F (.ref fI) (cs.length + 1) G) :
  SE X n F (.Call (.Name nm p) es [] pos) (eNew C G cs):=by
 obtain ⟨m, rfl⟩ : ∃ m, n = m + 2:=⟨n - 2, by omega⟩
 exact se_new hX hF hn hC hm hi hf hk hp h hG
theorem seJ_new2 (hm2 : 2 <= n) (hX : X.Ok) (hF : F.Ok) {nm : Str} {C fI : Addr} {p pos : Pos} {es : List Expr} {cs : List (M PV)} {G : List PV -> M PV} (hn : GnK X F nm (.ref C)) (hC : C = 199 \/ C = 283) (hm : makesIn X.K C = true) (hi : findIn X.K (.ref C) "__init__" = some (some (.ref fI))) (hf : isFn X.K (.ref fI) = true)
  (hk : keepIn X.K (.ref C) = true) (hp : PlA es) (h : SIt X n F es cs) (hG : CodJ X (n - 1) F (.ref fI) (cs.length + 1) G) :
  SEJ X n F (.Call (.Name nm p) es [] pos) (eNew C G cs):=by
 obtain ⟨m, rfl⟩ : ∃ m, n = m + 2:=⟨n - 2, by omega⟩
 exact seJ_new hX hF hn hC hm hi hf hk hp h hG
end
section
variable {P : Params} {X : Cx} {n : Nat} {F : FnC}
noncomputable def d328 (P : Params) : FnD (hd.heap_1 P) 328:=⟨_, _, _, _, _, ⟨_, _, _, _, _, _, _, _, _, _, rfl⟩⟩
noncomputable abbrev f328 (P : Params) : FnC:=(d328 P).fc ["acts", "octets", "models", "numbers", "plain", "whole", "act", "node", "bits", "k", "spot", "part", "came", "bit", "place"]
theorem ok328 {P : Params} : (f328 P).Ok:=.of rfl
theorem D328 (P : Params) : DefK (hd.heap_1 P) (f328 P) (d328 P).body 2 :=
 ⟨⟨_, _, _, _, _, _, _, _, _, _, _, rfl, fun xs hl => by exact ln2 xs hl fun _ _ _ _ => .of_eq rfl⟩, by kernel_rfl, rfl, rfl, Nat.le_of_ble_eq_true rfl, nd_auto rfl, ckd_auto rfl⟩
theorem s328 (hX : X.Ok) (hK : X.K = hd.heap_1 P) (hn : 2 <= n) : SSs X n (f328 P) (d328 P).body (sSeq B_law_told) :=
 (zss (ss_swap (nms:=["models", "numbers"]) ok328 (lk rfl hn) rfl (zc (zb (op:=.mul) (se_list (zc zi zn fun _ => rfl) (by decide)) zi) (zc (se_list zn (by decide)) zn fun _ => rfl) fun _ => rfl) rfl (by decide) (fun _ => rfl) fun _ _ => rfl)
  (zss (ss_if (st_bool (all_or (st_cmp (c:=.eq) (zl ok328 rfl) se_byt rfl) (all_or1 (st_bool (all_and (st_cmp (c:=.eq) (se_sub (zl ok328 rfl) zi fun _ _ => rfl) zi rfl) (all_and1 (st_cmp (c:=.lt) (se_b1 hX ok328 (bn (by rw [hK]; rfl) rfl (by decide) rfl rfl) (zl ok328 rfl) (fun _ => rfl) fun_len) zi rfl)))))))
  (zss (ss_ret (se_tup (zc (zl ok328 rfl) (zc se_str (zc (zl ok328 rfl) (zc se_none zn fun _ => rfl) fun _ => rfl) fun _ => rfl) fun _ => rfl) (by decide)))
  ss_nil)
  ss_nil)
  (zss (ss_if (st_cmp (c:=.ne) (se_sub (zl ok328 rfl) zi fun _ _ => rfl) zi rfl)
  (zss (ss_ret (se_tup (zc (zl ok328 rfl) (zc se_str (zc (zl ok328 rfl) (zc se_none zn fun _ => rfl) fun _ => rfl) fun _ => rfl) fun _ => rfl) (by decide)))
  ss_nil)
  ss_nil)
  (zss (ss_swap (nms:=["plain", "whole"]) ok328 (lk rfl hn) rfl (zc (se_list (zc zi (zc (zb (op:=.sub) (zb (op:=.pow) zi zi) zi) (zc zi zn fun _ => rfl) fun _ => rfl) fun _ => rfl) (by decide)) (zc (se_b1 hX ok328 (bn (by rw [hK]; rfl) rfl (by decide) rfl rfl) (se_compZ hX ok328 (lk rfl hn) (csk1 (nm0:="octets") (i:=1) rfl rfl rfl rfl rfl rfl (fun _ _ h => by simp only [closureFor, List.forIn_cons, List.forIn_nil]; rw [h]; rfl) rfl) (bn (by rw [hK]; rfl) rfl (by decide) rfl rfl) (pla_of (fun _ => rfl) fun _ _ => rfl) (zc zi zn fun _ => rfl) (el_bin (op:=.mul) (el_sub (el_cell rfl rfl rfl rfl (fun _ _ => rfl) rfl) (el_var rfl rfl rfl) fun _ _ => rfl) (el_bin (op:=.pow) el_int (el_bin (op:=.sub) el_int (el_var rfl rfl rfl))))) (fun _ => rfl) (fun_sum (lk rfl hn))) zn fun _ => rfl) fun _ => rfl) rfl (by decide) (fun _ => rfl) fun _ _ => rfl)
  (zss (ss_if (st_cmp (c:=.eq) (zl ok328 rfl) (zb (op:=.sub) (zb (op:=.pow) zi zi) zi) rfl)
  (zss (ss_ret (se_tup (zc (zl ok328 rfl) (zc se_str (zc (zl ok328 rfl) (zc se_none zn fun _ => rfl) fun _ => rfl) fun _ => rfl) fun _ => rfl) (by decide)))
  ss_nil)
  ss_nil)
  (zss (ss_forV ok328 (lk rfl hn) (tgt_name ok328 rfl) (zl ok328 rfl)
  (zss (ss_swap (nms:=["node", "bits"]) ok328 (lk rfl hn) rfl (zc zi (zc (se_list zn (by decide)) zn fun _ => rfl) fun _ => rfl) rfl (by decide) (fun _ => rfl) fun _ _ => rfl)
  (zss (ss_forR (nm:="") hX ok328 (lk rfl hn) (bn (by rw [hK]; rfl) rfl (by decide) rfl rfl) rfl (pla_of (fun _ => rfl) fun _ _ => rfl) (zc (se_sub (zl ok328 rfl) zi fun _ _ => rfl) zn fun _ => rfl)
  (zss (ss_asg ok328 rfl (se_def hX ok328 (gn (by rw [hK]; rfl) rfl rfl) (by rw [hK]; rfl) (pla_of (fun _ => rfl) fun _ _ => rfl) (zc (zl ok328 rfl) (zc (zl ok328 rfl) zn fun _ => rfl) fun _ => rfl) (h299 hX hK (lk rfl hn) ok328)) fun _ => rfl)
  (zss (ss_swap (nms:=["part", "came"]) ok328 (lk rfl hn) rfl (zc (se_def hX ok328 (gn (by rw [hK]; rfl) rfl rfl) (by rw [hK]; rfl) (pla_of (fun _ => rfl) fun _ _ => rfl) (zc (zl ok328 rfl) (zc (zl ok328 rfl) (zc (zl ok328 rfl) zn fun _ => rfl) fun _ => rfl) fun _ => rfl) (h306 hX hK (lk rfl hn) ok328)) (zc (se_sub (zl ok328 rfl) zi fun _ _ => rfl) zn fun _ => rfl) fun _ => rfl) rfl (by decide) (fun _ => rfl) fun _ _ => rfl)
  (zss (ss_asg ok328 rfl (se_intB hX ok328 (bn (by rw [hK]; rfl) rfl (by decide) rfl rfl) (se_cmp (c:=.ge) (zb (op:=.sub) (zl ok328 rfl) (se_sub (zl ok328 rfl) zi fun _ _ => rfl)) (zl ok328 rfl) rfl) fun _ => rfl) fun _ => rfl)
  (zss (ss_if (st_bool (all_and (st_isNone (zl ok328 rfl)) (all_and1 (st_cmp (c:=.ge) (zb (op:=.sub) (zl ok328 rfl) (se_sub (zl ok328 rfl) zi fun _ _ => rfl)) (zb (op:=.mul) zi (zl ok328 rfl)) rfl))))
  (zss (ss_ret (se_tup (zc (zl ok328 rfl) (zc se_str (zc (zl ok328 rfl) (zc se_none zn fun _ => rfl) fun _ => rfl) fun _ => rfl) fun _ => rfl) (by decide)))
  ss_nil)
  ss_nil)
  (zss (ss_exp ok328 (se_def hX ok328 (gn (by rw [hK]; rfl) rfl rfl) (by rw [hK]; rfl) (pla_of (fun _ => rfl) fun _ _ => rfl) (zc (zl ok328 rfl) (zc (zl ok328 rfl) (zc (zl ok328 rfl) (zc (zl ok328 rfl) (zc (zl ok328 rfl) zn fun _ => rfl) fun _ => rfl) fun _ => rfl) fun _ => rfl) fun _ => rfl) (h313 hX hK (lk rfl hn) ok328)) fun _ _ => rfl)
  (zss (ss_exp ok328 (se_appendL (zl ok328 rfl) (zl ok328 rfl) (fun _ => rfl) fun _ => rfl) fun _ _ => rfl)
  (zss (ss_asg ok328 rfl (zb (op:=.add) (zb (op:=.mul) zi (zl ok328 rfl)) (zl ok328 rfl)) fun _ => rfl)
  (zss (ss_forR (nm:="") hX ok328 (lk rfl hn) (bn (by rw [hK]; rfl) rfl (by decide) rfl rfl) rfl (pla_of (fun _ => rfl) fun _ _ => rfl) (zc (zb (op:=.add) (zl ok328 rfl) zi) (zc (zb (op:=.add) (se_sub (zl ok328 rfl) zi fun _ _ => rfl) zi) zn fun _ => rfl) fun _ => rfl)
  (zss (ss_if (st_cmp (c:=.ge) (zl ok328 rfl) (se_b1 hX ok328 (bn (by rw [hK]; rfl) rfl (by decide) rfl rfl) (zl ok328 rfl) (fun _ => rfl) fun_len) rfl)
  (zss (ss_ret (se_tup (zc (zl ok328 rfl) (zc se_str (zc (zl ok328 rfl) (zc se_none zn fun _ => rfl) fun _ => rfl) fun _ => rfl) fun _ => rfl) (by decide)))
  ss_nil)
  ss_nil)
  (zss (ss_asg ok328 rfl (zb (op:=.add) (zb (op:=.mul) (zl ok328 rfl) zi) (se_sub (zl ok328 rfl) (zl ok328 rfl) fun _ _ => rfl)) fun _ => rfl)
  ss_nil)))
  ss_nil)))))))))
  (zss (ss_exp ok328 (se_appendL (zl ok328 rfl) (se_def hX ok328 (gn (by rw [hK]; rfl) rfl rfl) (by rw [hK]; rfl) (pla_of (fun _ => rfl) fun _ _ => rfl) (zc (zl ok328 rfl) (zc (zl ok328 rfl) zn fun _ => rfl) fun _ => rfl) (h318 hX hK (lk rfl hn) ok328)) (fun _ => rfl) fun _ => rfl) fun _ _ => rfl)
  ss_nil))) (.inl fun _ _ => rfl) fun _ _ => rfl)
  (zss (ss_ret (se_tup (zc (zl ok328 rfl) (zc se_str (zc (zl ok328 rfl) (zc (se_tup (zc (zb (op:=.add) (se_sub (zl ok328 rfl) zi fun _ _ => rfl) zi) (zc (se_cmp (c:=.eq) (zl ok328 rfl) (se_sub (zl ok328 rfl) zi fun _ _ => rfl) rfl) zn fun _ => rfl) fun _ => rfl) (by decide)) zn fun _ => rfl) fun _ => rfl) fun _ => rfl) fun _ => rfl) (by decide)))
  ss_nil)))))))
theorem c328 (hX : X.Ok) (hK : X.K = hd.heap_1 P) (hn : 3 <= n) (hF : F.Ok) : CodS X n F (.ref 328) 2 F_law_told:=by
 obtain ⟨m, rfl⟩:=ex1 rfl hn
 exact (fun_def hX hF ok328 (by rw [hK]; exact D328 P) (s328 hX hK (lk1 rfl hn)))
theorem h328 (hX : X.Ok) (hK : X.K = hd.heap_1 P) (hn : 3 <= n) (hF : F.Ok) : FunS X n F (.ref 328) 2 F_law_told:=(c328 hX hK hn hF).fun
noncomputable def d335 (P : Params) : FnD (hd.heap_1 P) 335:=⟨_, _, _, _, _, ⟨_, _, _, _, _, _, _, _, _, _, rfl⟩⟩
noncomputable abbrev f335 (P : Params) : FnC:=(d335 P).fc ["reader", "models", "act"]
theorem ok335 {P : Params} : (f335 P).Ok:=.of rfl
theorem D335 (P : Params) : DefK (hd.heap_1 P) (f335 P) (d335 P).body 3 :=
 ⟨⟨_, _, _, _, _, _, _, _, _, _, _, rfl, fun xs hl => by exact ln3 xs hl fun _ _ _ _ _ => .of_eq rfl⟩, by kernel_rfl, rfl, rfl, Nat.le_of_ble_eq_true rfl, nd_auto rfl, ckd_auto rfl⟩
theorem s335 (hX : X.Ok) (hK : X.K = hd.heap_1 P) (hn : 5 <= n) : SSs X n (f335 P) (d335 P).body (sSeq B_law_read) :=
 (zss (ss_if (st_cmp (c:=.eq) (se_sub (zl ok335 rfl) zi fun _ _ => rfl) zi rfl)
  (zss (ss_ret (se_meth hX (hm175 hK) (pla_of (fun _ => rfl) fun _ _ => rfl) (zl ok335 rfl) (zc (zl ok335 rfl) (zc (se_sub (zl ok335 rfl) zi fun _ _ => rfl) zn fun _ => rfl) fun _ => rfl) (h175 hX hK (lk rfl hn) ok335) fun _ => rfl))
  ss_nil)
  ss_nil)
  (zss (ss_if (st_cmp (c:=.eq) (se_sub (zl ok335 rfl) zi fun _ _ => rfl) zi rfl)
  (zss (ss_ret (se_meth hX (hm182 hK) (pla_of (fun _ => rfl) fun _ _ => rfl) (zl ok335 rfl) (zc (se_sub (zl ok335 rfl) zi fun _ _ => rfl) zn fun _ => rfl) (h182 hX hK (lk rfl hn) ok335) fun _ => rfl))
  ss_nil)
  ss_nil)
  (zss (ss_ret (se_if (st_cmp (c:=.eq) (se_sub (zl ok335 rfl) zi fun _ _ => rfl) zi rfl) (se_meth hX (hm189 hK) (pla_of (fun _ => rfl) fun _ _ => rfl) (zl ok335 rfl) (zc (zl ok335 rfl) (zc (se_sub (zl ok335 rfl) zi fun _ _ => rfl) (zc (se_sub (zl ok335 rfl) zi fun _ _ => rfl) zn fun _ => rfl) fun _ => rfl) fun _ => rfl) (h189 hX hK (lk rfl hn) ok335) fun _ => rfl) (se_meth hX (hm196 hK) (pla_of (fun _ => rfl) fun _ _ => rfl) (zl ok335 rfl) (zc (zl ok335 rfl) (zc (se_sub (zl ok335 rfl) zi fun _ _ => rfl) (zc (se_sub (zl ok335 rfl) zi fun _ _ => rfl) zn fun _ => rfl) fun _ => rfl) fun _ => rfl) (h196 hX hK (lk rfl hn) ok335) fun _ => rfl)))
  ss_nil)))
theorem c335 (hX : X.Ok) (hK : X.K = hd.heap_1 P) (hn : 6 <= n) (hF : F.Ok) : CodS X n F (.ref 335) 3 F_law_read:=by
 obtain ⟨m, rfl⟩:=ex1 rfl hn
 exact (fun_def hX hF ok335 (by rw [hK]; exact D335 P) (s335 hX hK (lk1 rfl hn)))
theorem h335 (hX : X.Ok) (hK : X.K = hd.heap_1 P) (hn : 6 <= n) (hF : F.Ok) : FunS X n F (.ref 335) 3 F_law_read:=(c335 hX hK hn hF).fun
noncomputable def d342 (P : Params) : FnD (hd.heap_1 P) 342:=⟨_, _, _, _, _, ⟨_, _, _, _, _, _, _, _, _, _, rfl⟩⟩
noncomputable abbrev f342 (P : Params) : FnC:=(d342 P).fc ["acts", "octets", "before", "behind", "models", "numbers", "reader", "act"]
theorem ok342 {P : Params} : (f342 P).Ok:=.of rfl
theorem D342 (P : Params) : DefK (hd.heap_1 P) (f342 P) (d342 P).body 4 :=
 ⟨⟨_, _, _, _, _, _, _, _, _, _, _, rfl, fun xs hl => by exact ln4 xs hl fun _ _ _ _ _ _ => .of_eq rfl⟩, by kernel_rfl, rfl, rfl, Nat.le_of_ble_eq_true rfl, nd_auto rfl, ckd_auto rfl⟩
theorem s342 (hX : X.Ok) (hK : X.K = hd.heap_1 P) (hn : 6 <= n) : SSs X n (f342 P) (d342 P).body (sSeq B_law_heard) :=
 (zss (ss_swap (nms:=["models", "numbers"]) ok342 (lk rfl hn) rfl (zc (se_def hX ok342 (gn (by rw [hK]; rfl) rfl rfl) (by rw [hK]; rfl) (pla_of (fun _ => rfl) fun _ _ => rfl) (zc zi zn fun _ => rfl) (h97 hX hK (lk rfl hn) ok342)) (zc (se_list zn (by decide)) zn fun _ => rfl) fun _ => rfl) rfl (by decide) (fun _ => rfl) fun _ _ => rfl)
  (zss (ss_try hX ok342 (hEs hK) (zss (ss_asg ok342 rfl (se_new2 (lk rfl hn) hX ok342 (gn (by rw [hK]; rfl) rfl rfl) (.inl rfl) (by rw [hK]; kernel_rfl) (by rw [hK]; kernel_rfl) (by rw [hK]; kernel_rfl) (by rw [hK]; kernel_rfl) (pla_of (fun _ => rfl) fun _ _ => rfl) (zc (zb (op:=.add) (zb (op:=.add) (zl ok342 rfl) (zl ok342 rfl)) (zl ok342 rfl)) (zc (se_b1 hX ok342 (bn (by rw [hK]; rfl) rfl (by decide) rfl rfl) (zl ok342 rfl) (fun _ => rfl) fun_len) (zc (zb (op:=.add) (se_b1 hX ok342 (bn (by rw [hK]; rfl) rfl (by decide) rfl rfl) (zl ok342 rfl) (fun _ => rfl) fun_len) (se_b1 hX ok342 (bn (by rw [hK]; rfl) rfl (by decide) rfl rfl) (zl ok342 rfl) (fun _ => rfl) fun_len)) zn fun _ => rfl) fun _ => rfl) fun _ => rfl) (c133 hX hK (lk2 rfl hn) ok342)) fun _ => rfl)
  (zss (ss_forV ok342 (lk rfl hn) (tgt_name ok342 rfl) (zl ok342 rfl)
  (zss (ss_exp ok342 (se_appendL (zl ok342 rfl) (se_def hX ok342 (gn (by rw [hK]; rfl) rfl rfl) (by rw [hK]; rfl) (pla_of (fun _ => rfl) fun _ _ => rfl) (zc (zl ok342 rfl) (zc (zl ok342 rfl) (zc (zl ok342 rfl) zn fun _ => rfl) fun _ => rfl) fun _ => rfl) (h335 hX hK (lk rfl hn) ok342)) (fun _ => rfl) fun _ => rfl) fun _ _ => rfl)
  ss_nil) (.inl fun _ _ => rfl) fun _ _ => rfl)
  ss_nil))
  (.cons (gn (by rw [hK]; rfl) rfl rfl) (hE52 hK) (by decide) (zss (ss_ret (se_tup (zc (zl ok342 rfl) (zc se_str (zc (se_t1 hX ok342 (bn (by rw [hK]; rfl) rfl (by decide) rfl rfl) (zl ok342 rfl) (fun _ => rfl) fun_listOf) (zc se_none zn fun _ => rfl) fun _ => rfl) fun _ => rfl) fun _ => rfl) (by decide)))
  ss_nil) (.cons (gn (by rw [hK]; rfl) rfl rfl) (hE76 hK) (by decide) (zss (ss_ret (se_tup (zc (zl ok342 rfl) (zc se_str (zc (se_t1 hX ok342 (bn (by rw [hK]; rfl) rfl (by decide) rfl rfl) (zl ok342 rfl) (fun _ => rfl) fun_listOf) (zc se_none zn fun _ => rfl) fun _ => rfl) fun _ => rfl) fun _ => rfl) (by decide)))
  ss_nil) (.cons (gn (by rw [hK]; rfl) rfl rfl) (hE64 hK) (by decide) (zss (ss_ret (se_tup (zc (zl ok342 rfl) (zc se_str (zc (se_t1 hX ok342 (bn (by rw [hK]; rfl) rfl (by decide) rfl rfl) (zl ok342 rfl) (fun _ => rfl) fun_listOf) (zc se_none zn fun _ => rfl) fun _ => rfl) fun _ => rfl) fun _ => rfl) (by decide)))
  ss_nil) .nil))))
  (zss (ss_ret (se_tup (zc (zl ok342 rfl) (zc se_str (zc (se_t1 hX ok342 (bn (by rw [hK]; rfl) rfl (by decide) rfl rfl) (zl ok342 rfl) (fun _ => rfl) fun_listOf) (zc (se_tup (zc (se_meth hX (hm147 hK) pla_nil (zl ok342 rfl) zn (h147 hX hK (lk rfl hn) ok342) fun _ => rfl) (zc (se_meth hX (hm161 hK) pla_nil (zl ok342 rfl) zn (h161 hX hK (lk rfl hn) ok342) fun _ => rfl) zn fun _ => rfl) fun _ => rfl) (by decide)) zn fun _ => rfl) fun _ => rfl) fun _ => rfl) fun _ => rfl) (by decide)))
  ss_nil)))
theorem c342 (hX : X.Ok) (hK : X.K = hd.heap_1 P) (hn : 7 <= n) (hF : F.Ok) : CodS X n F (.ref 342) 4 F_law_heard:=by
 obtain ⟨m, rfl⟩:=ex1 rfl hn
 exact (fun_def hX hF ok342 (by rw [hK]; exact D342 P) (s342 hX hK (lk1 rfl hn)))
theorem h342 (hX : X.Ok) (hK : X.K = hd.heap_1 P) (hn : 7 <= n) (hF : F.Ok) : FunS X n F (.ref 342) 4 F_law_heard:=(c342 hX hK hn hF).fun
noncomputable def d349 (P : Params) : FnD (hd.heap_1 P) 349:=⟨_, _, _, _, _, ⟨_, _, _, _, _, _, _, _, _, _, rfl⟩⟩
noncomputable abbrev f349 (P : Params) : FnC:=(d349 P).fc ["writer", "models", "act", "amount"]
theorem ok349 {P : Params} : (f349 P).Ok:=.of rfl
theorem D349 (P : Params) : DefK (hd.heap_1 P) (f349 P) (d349 P).body 4 :=
 ⟨⟨_, _, _, _, _, _, _, _, _, _, _, rfl, fun xs hl => by exact ln4 xs hl fun _ _ _ _ _ _ => .of_eq rfl⟩, by kernel_rfl, rfl, rfl, Nat.le_of_ble_eq_true rfl, nd_auto rfl, ckd_auto rfl⟩
theorem s349 (hX : X.Ok) (hK : X.K = hd.heap_1 P) (hn : 5 <= n) : SSsJ X n (f349 P) (d349 P).body (sSeq B_law_write) :=
 (ssJ_cons (ssJ_if (Snd.J (st_cmp (c:=.eq) (se_sub (zl ok349 rfl) zi fun _ _ => rfl) zi rfl))
  (ssJ_cons (ssJ_exp ok349 (seJ_meth hX (hm245 hK) (pla_of (fun _ => rfl) fun _ _ => rfl) (zl ok349 rfl) (zc (zl ok349 rfl) (zc (se_sub (zl ok349 rfl) zi fun _ _ => rfl) (zc (zl ok349 rfl) zn fun _ => rfl) fun _ => rfl) fun _ => rfl) (h245 hX hK (lk rfl hn) ok349) fun _ => rfl) fun _ _ => rfl)
  ssJ_nil)
  (ssJ_cons (ssJ_if (Snd.J (st_cmp (c:=.eq) (se_sub (zl ok349 rfl) zi fun _ _ => rfl) zi rfl))
  (ssJ_cons (ssJ_exp ok349 (seJ_meth hX (hm252 hK) (pla_of (fun _ => rfl) fun _ _ => rfl) (zl ok349 rfl) (zc (se_sub (zl ok349 rfl) zi fun _ _ => rfl) (zc (zl ok349 rfl) zn fun _ => rfl) fun _ => rfl) (h252 hX hK (lk rfl hn) ok349) fun _ => rfl) fun _ _ => rfl)
  ssJ_nil)
  (ssJ_cons (ssJ_if (Snd.J (st_cmp (c:=.eq) (se_sub (zl ok349 rfl) zi fun _ _ => rfl) zi rfl))
  (ssJ_cons (ssJ_exp ok349 (seJ_meth hX (hm259 hK) (pla_of (fun _ => rfl) fun _ _ => rfl) (zl ok349 rfl) (zc (zl ok349 rfl) (zc (se_sub (zl ok349 rfl) zi fun _ _ => rfl) (zc (se_sub (zl ok349 rfl) zi fun _ _ => rfl) (zc (zl ok349 rfl) zn fun _ => rfl) fun _ => rfl) fun _ => rfl) fun _ => rfl) (h259 hX hK (lk rfl hn) ok349) fun _ => rfl) fun _ _ => rfl)
  ssJ_nil)
  (ssJ_cons (ssJ_exp ok349 (seJ_meth hX (hm266 hK) (pla_of (fun _ => rfl) fun _ _ => rfl) (zl ok349 rfl) (zc (zl ok349 rfl) (zc (se_sub (zl ok349 rfl) zi fun _ _ => rfl) (zc (se_sub (zl ok349 rfl) zi fun _ _ => rfl) (zc (zl ok349 rfl) zn fun _ => rfl) fun _ => rfl) fun _ => rfl) fun _ => rfl) (h266 hX hK (lk rfl hn) ok349) fun _ => rfl) fun _ _ => rfl)
  ssJ_nil))
  ssJ_nil))
  ssJ_nil))
  ssJ_nil)
theorem c349 (hX : X.Ok) (hK : X.K = hd.heap_1 P) (hn : 6 <= n) (hF : F.Ok) : CodJ X n F (.ref 349) 4 F_law_write:=by
 obtain ⟨m, rfl⟩:=ex1 rfl hn
 exact (funJ_def hX hF ok349 (by rw [hK]; exact D349 P) (s349 hX hK (lk1 rfl hn)))
theorem h349 (hX : X.Ok) (hK : X.K = hd.heap_1 P) (hn : 6 <= n) (hF : F.Ok) : FunJ X n F (.ref 349) 4 F_law_write:=(c349 hX hK hn hF).fun
noncomputable def d356 (P : Params) : FnD (hd.heap_1 P) 356:=⟨_, _, _, _, _, ⟨_, _, _, _, _, _, _, _, _, _, rfl⟩⟩
noncomputable abbrev f356 (P : Params) : FnC:=(d356 P).fc ["writer", "models", "rows", "kept", "size", "act", "amount"]
theorem ok356 {P : Params} : (f356 P).Ok:=.of rfl
theorem D356 (P : Params) : DefK (hd.heap_1 P) (f356 P) (d356 P).body 3 :=
 ⟨⟨_, _, _, _, _, _, _, _, _, _, _, rfl, fun xs hl => by exact ln3 xs hl fun _ _ _ _ _ => .of_eq rfl⟩, by kernel_rfl, rfl, rfl, Nat.le_of_ble_eq_true rfl, nd_auto rfl, ckd_auto rfl⟩
theorem s356 (hX : X.Ok) (hK : X.K = hd.heap_1 P) (hn : 6 <= n) : SSsJ X n (f356 P) (d356 P).body (sSeq B_law_refused) :=
 (ssJ_cons (Snd.J (ss_swap (nms:=["kept", "size"]) ok356 (lk rfl hn) rfl (zc (se_t1 hX ok356 (bn (by rw [hK]; rfl) rfl (by decide) rfl rfl) (zl ok356 rfl) (fun _ => rfl) fun_listOf) (zc (se_meth hX (hm273 hK) pla_nil (zl ok356 rfl) zn (h273 hX hK (lk rfl hn) ok356) fun _ => rfl) zn fun _ => rfl) fun _ => rfl) rfl (by decide) (fun _ => rfl) fun _ _ => rfl))
  (ssJ_cons (ssJ_forV ok356 (lk rfl hn) (tgt_pair ok356 (lk rfl hn) .two rfl) (zl ok356 rfl)
  (ssJ_cons (ssJ_try hX ok356 (hEs hK) (ssJ_cons (ssJ_exp ok356 (seJ_def hX ok356 (gn (by rw [hK]; rfl) rfl rfl) (by rw [hK]; rfl) (pla_of (fun _ => rfl) fun _ _ => rfl) (zc (zl ok356 rfl) (zc (zl ok356 rfl) (zc (zl ok356 rfl) (zc (zl ok356 rfl) zn fun _ => rfl) fun _ => rfl) fun _ => rfl) fun _ => rfl) (h349 hX hK (lk rfl hn) ok356)) fun _ _ => rfl)
  (ssJ_cons (Snd.J (ss_ret se_bool))
  ssJ_nil))
  (.cons (gn (by rw [hK]; rfl) rfl rfl) (hE88 hK) (by decide) (zss (ss_asg ok356 rfl (zb (op:=.add) (zl ok356 rfl) zi) fun _ => rfl)
  ss_nil) .nil))
  ssJ_nil) (.inr ⟨⟨_, _, _, rfl⟩, _, rfl⟩) fun _ _ => rfl)
  (ssJ_cons (Snd.J (ss_ret (se_and (se_cmp (c:=.eq) (se_t1 hX ok356 (bn (by rw [hK]; rfl) rfl (by decide) rfl rfl) (zl ok356 rfl) (fun _ => rfl) fun_listOf) (zl ok356 rfl) rfl) (se_cmp (c:=.eq) (se_meth hX (hm273 hK) pla_nil (zl ok356 rfl) zn (h273 hX hK (lk rfl hn) ok356) fun _ => rfl) (zl ok356 rfl) rfl))))
  ssJ_nil)))
theorem c356 (hX : X.Ok) (hK : X.K = hd.heap_1 P) (hn : 7 <= n) (hF : F.Ok) : CodJ X n F (.ref 356) 3 F_law_refused:=by
 obtain ⟨m, rfl⟩:=ex1 rfl hn
 exact (funJ_def hX hF ok356 (by rw [hK]; exact D356 P) (s356 hX hK (lk1 rfl hn)))
theorem h356 (hX : X.Ok) (hK : X.K = hd.heap_1 P) (hn : 7 <= n) (hF : F.Ok) : FunJ X n F (.ref 356) 3 F_law_refused:=(c356 hX hK hn hF).fun
end
structure Row where
 a : Int
 b : Int
 c : Int
 ng : Bool
 x : Int
noncomputable def xC : Bool -> Int -> M PV
 | true, x => eNeg (eK (.int x))
 | false, x => eK (.int x)
noncomputable def Row.m (r : Row) : M PV:=eTup [eTup [eK (.int r.a), eK (.int r.b), eK (.int r.c)], xC r.ng r.x]
inductive IsX : Expr -> Bool -> Int -> Prop
 | p (i : Int) (k : Nat) (pos : Pos) : IsX (.Constant (.int i) k pos) false i
 | n (i : Int) (k : Nat) (pos pos2 : Pos) : IsX (.UnaryOp .USub (.Constant (.int i) k pos) pos2) true i
inductive IsRow : Expr -> Row -> Prop
 | mk {e : Expr} {a b c x : Int} {ng : Bool} {k1 k2 k3 k4 k5 : Nat} {p1 p2 p3 p4 p5 : Pos} : IsX e ng x -> IsRow (.Tuple [.Tuple [.Constant (.int a) k1 p1, .Constant (.int b) k2 p2, .Constant (.int c) k3 p3] k4 p4, e] k5 p5) ⟨a, b, c, ng, x⟩
inductive IsRows : List Expr -> List Row -> Prop
 | nil : IsRows [] []
 | cons {e : Expr} {r : Row} {es : List Expr} {rs : List Row} : IsRow e r -> IsRows es rs -> IsRows (e :: es) (r :: rs)
inductive IsAsg : Stmt -> Str -> List Row -> Prop
 | mk {y : Str} {es : List Expr} {rs : List Row} {p lp pos : Pos} : IsRows es rs -> IsAsg (.Assign [.Name y p] (.List es lp) pos) y rs
section
variable {X : Cx} {n : Nat} {F : FnC}
theorem se_x {e : Expr} {ng : Bool} {x : Int} (h : IsX e ng x) : SE X n F e (xC ng x):=by
 cases h with
 | p => exact zi
 | n => exact se_neg zi
theorem star_x {e : Expr} {ng : Bool} {x : Int} (h : IsX e ng x) (es : List Expr) : ∀ env, starEach (e :: es) env = (false, eval e env) :: starEach es env:=by
 cases h <;> exact fun _ => rfl
theorem se_row {e : Expr} {r : Row} (h : IsRow e r) : SE X n F e r.m:=by
 cases h with
 | mk hx => exact se_tup (zc (se_tup (zc zi (zc zi (zc zi zn fun _ => rfl) fun _ => rfl) fun _ => rfl) (Nat.le_of_ble_eq_true rfl)) (zc (se_x hx) zn (star_x hx [])) fun _ => rfl) (Nat.le_of_ble_eq_true rfl)
theorem star_row {e : Expr} {r : Row} (h : IsRow e r) (es : List Expr) : ∀ env, starEach (e :: es) env = (false, eval e env) :: starEach es env:=by
 cases h; exact fun _ => rfl
theorem it_rows {es : List Expr} {rs : List Row} (h : IsRows es rs) : SIt X n F es (rs.map Row.m):=by
 induction h with
 | nil => exact zn
 | cons h _ ih => exact zc (se_row h) ih (star_row h _)
theorem ss_rows {st : Stmt} {y : Str} {rs : List Row} {i : Nat} (h : IsAsg st y rs) (hF : F.Ok) (hi : F.vars[i]? = some y) (hl : rs.length <= 1000) : SSJ X n F st (sAsg i (eList (rs.map Row.m))):=by
 cases h with
 | mk hr => exact Snd.J (ss_asg hF hi (se_list (it_rows hr) (by rw [yG]; exact hl)) fun _ => rfl)
end
section
variable {P : Params} {X : Cx} {n : Nat} {F : FnC}
noncomputable def d361 (P : Params) : FnD (hd.heap_1 P) 361:=⟨_, _, _, _, _, ⟨_, _, _, _, _, _, _, _, _, _, rfl⟩⟩
noncomputable abbrev f361 (P : Params) : FnC:=(d361 P).fc ["script", "acts", "border", "numbers", "octets", "due", "writer", "models", "k", "rows", "seed", "before", "behind", "place", "far", "bent", "some", "other"]
theorem ok361 {P : Params} : (f361 P).Ok:=.of rfl
theorem D361 (P : Params) : DefK (hd.heap_1 P) (f361 P) (d361 P).body 1 :=
 ⟨⟨_, _, _, _, _, _, _, _, _, _, _, rfl, fun xs hl => by exact ln1 xs hl fun _ _ _ => .of_eq rfl⟩, by kernel_rfl, rfl, rfl, Nat.le_of_ble_eq_true rfl, nd_auto rfl, ckd_auto rfl⟩
noncomputable def x361_0 (P : Params) : Stmt:=((d361 P).body.drop 0).headD (.Pass ⟨0, 0, 0, 0⟩)
noncomputable def c361_0 : S:=sUnp [1, 2] (eCall F_law_acts [(eL 0)])
theorem s361_0 (hX : X.Ok) (hK : X.K = hd.heap_1 P) (hn : 7 <= n) : SSJ X n (f361 P) (x361_0 P) c361_0 :=
 (Snd.J (ss_unp ok361 (lk rfl hn) .two rfl (se_def hX ok361 (gn (by rw [hK]; rfl) rfl rfl) (by rw [hK]; rfl) (pla_of (fun _ => rfl) fun _ _ => rfl) (zc (zl ok361 rfl) zn fun _ => rfl) (h292 hX hK (lk rfl hn) ok361)) (fun _ => rfl) fun _ _ => rfl))
noncomputable def x361_1 (P : Params) : Stmt:=((d361 P).body.drop 1).headD (.Pass ⟨0, 0, 0, 0⟩)
noncomputable def c361_1 : S:=sUnp [3, 4, 5] (eCall F_law_written [(eL 1), (eL 2)])
theorem s361_1 (hX : X.Ok) (hK : X.K = hd.heap_1 P) (hn : 7 <= n) : SSJ X n (f361 P) (x361_1 P) c361_1 :=
 (Snd.J (ss_unp ok361 (lk rfl hn) .three rfl (se_def hX ok361 (gn (by rw [hK]; rfl) rfl rfl) (by rw [hK]; rfl) (pla_of (fun _ => rfl) fun _ _ => rfl) (zc (zl ok361 rfl) (zc (zl ok361 rfl) zn fun _ => rfl) fun _ => rfl) (h323 hX hK (lk rfl hn) ok361)) (fun _ => rfl) fun _ _ => rfl))
noncomputable def x361_2 (P : Params) : Stmt:=((d361 P).body.drop 2).headD (.Pass ⟨0, 0, 0, 0⟩)
noncomputable def c361_2 : S:=sSwap [6, 7] [(eNew 283 F_RangeWriter_init []), (eCall F_fresh_models [(eK (.int 80))])]
theorem s361_2 (hX : X.Ok) (hK : X.K = hd.heap_1 P) (hn : 7 <= n) : SSJ X n (f361 P) (x361_2 P) c361_2 :=
 (ssJ_swap (nms:=["writer", "models"]) ok361 (lk rfl hn) rfl (itJ_cons (seJ_new2 (lk rfl hn) hX ok361 (gn (by rw [hK]; rfl) rfl rfl) (.inr rfl) (by rw [hK]; kernel_rfl) (by rw [hK]; kernel_rfl) (by rw [hK]; kernel_rfl) (by rw [hK]; kernel_rfl) pla_nil zn (c217 hX hK (lk2 rfl hn) ok361)) (itJ_cons (Snd.J (se_def hX ok361 (gn (by rw [hK]; rfl) rfl rfl) (by rw [hK]; rfl) (pla_of (fun _ => rfl) fun _ _ => rfl) (zc zi zn fun _ => rfl) (h97 hX hK (lk rfl hn) ok361))) zn.J fun _ => rfl) fun _ => rfl) rfl (by decide) (fun _ => rfl) fun _ _ => rfl)
noncomputable def x361_3 (P : Params) : Stmt:=((d361 P).body.drop 3).headD (.Pass ⟨0, 0, 0, 0⟩)
noncomputable def c361_3 : S:=sForR 8 [(eLen (eL 1))] [sExp (eCall F_law_write [(eL 6), (eL 7), (eSub (eL 1) (eL 8)), (eSub (eL 3) (eL 8))])]
theorem s361_3 (hX : X.Ok) (hK : X.K = hd.heap_1 P) (hn : 7 <= n) : SSJ X n (f361 P) (x361_3 P) c361_3 :=
 (ssJ_forR (nm:="") hX ok361 (lk rfl hn) (bn (by rw [hK]; rfl) rfl (by decide) rfl rfl) rfl (pla_of (fun _ => rfl) fun _ _ => rfl) (zc (se_b1 hX ok361 (bn (by rw [hK]; rfl) rfl (by decide) rfl rfl) (zl ok361 rfl) (fun _ => rfl) fun_len) zn fun _ => rfl)
  (ssJ_cons (ssJ_exp ok361 (seJ_def hX ok361 (gn (by rw [hK]; rfl) rfl rfl) (by rw [hK]; rfl) (pla_of (fun _ => rfl) fun _ _ => rfl) (zc (zl ok361 rfl) (zc (zl ok361 rfl) (zc (se_sub (zl ok361 rfl) (zl ok361 rfl) fun _ _ => rfl) (zc (se_sub (zl ok361 rfl) (zl ok361 rfl) fun _ _ => rfl) zn fun _ => rfl) fun _ => rfl) fun _ => rfl) fun _ => rfl) (h349 hX hK (lk rfl hn) ok361)) fun _ _ => rfl)
  ssJ_nil))
noncomputable def x361_4 (P : Params) : Stmt:=((d361 P).body.drop 4).headD (.Pass ⟨0, 0, 0, 0⟩)
noncomputable def c361_4 : S:=sAsg 9 (eList [(eTup [(eTup [(eK (.int 0)), (eK (.int 0)), (eK (.int 1))]), (eK (.int 2))]), (eTup [(eTup [(eK (.int 0)), (eK (.int 3)), (eK (.int 1))]), (eNeg (eK (.int 1)))]), (eTup [(eTup [(eK (.int 1)), (eK (.int 0)), (eK (.int 3))]), (eK (.int 8))]), (eTup [(eTup [(eK (.int 1)), (eK (.int 0)), (eK (.int 2))]), (eNeg (eK (.int 1)))]), (eTup [(eTup [(eK (.int 2)), (eK (.int 4)), (eK (.int 2))]), (eK (.int 4))]), (eTup [(eTup [(eK (.int 3)), (eK (.int 44)), (eK (.int 3))]), (eNeg (eK (.int 1)))])])
theorem e361_4 : c361_4 = sAsg 9 (eList (([⟨0, 0, 1, false, 2⟩, ⟨0, 3, 1, true, 1⟩, ⟨1, 0, 3, false, 8⟩, ⟨1, 0, 2, true, 1⟩, ⟨2, 4, 2, false, 4⟩, ⟨3, 44, 3, true, 1⟩] : List Row).map Row.m)):=by kernel_rfl
theorem s361_4 (hX : X.Ok) (hK : X.K = hd.heap_1 P) (hn : 7 <= n) : SSJ X n (f361 P) (x361_4 P) c361_4:=by
 have h:=@ss_rows X n (f361 P) (x361_4 P) "rows" [⟨0, 0, 1, false, 2⟩, ⟨0, 3, 1, true, 1⟩, ⟨1, 0, 3, false, 8⟩, ⟨1, 0, 2, true, 1⟩, ⟨2, 4, 2, false, 4⟩, ⟨3, 44, 3, true, 1⟩] 9 (.mk (.cons (.mk (.p _ _ _)) (.cons (.mk (.n _ _ _ _)) (.cons (.mk (.p _ _ _)) (.cons (.mk (.n _ _ _ _)) (.cons (.mk (.p _ _ _)) (.cons (.mk (.n _ _ _ _)) .nil))))))) ok361 rfl (Nat.le_of_ble_eq_true rfl)
 rw [e361_4]
 assumption
noncomputable def x361_5 (P : Params) : Stmt:=((d361 P).body.drop 5).headD (.Pass ⟨0, 0, 0, 0⟩)
noncomputable def c361_5 : S:=sIf (tOr (tNot (tVal (eCall F_law_refused [(eL 6), (eL 7), (eL 9)]))) (tCmp .ne (eMeth 283 F_RangeWriter_size (eL 6) []) (eLen (eL 4)))) [sRet (eK (.bool false))] []
theorem s361_5 (hX : X.Ok) (hK : X.K = hd.heap_1 P) (hn : 7 <= n) : SSJ X n (f361 P) (x361_5 P) c361_5 :=
 (ssJ_if (stJ_bool (allJ_or (stJ_not (stJ_val (seJ_def hX ok361 (gn (by rw [hK]; rfl) rfl rfl) (by rw [hK]; rfl) (pla_of (fun _ => rfl) fun _ _ => rfl) (zc (zl ok361 rfl) (zc (zl ok361 rfl) (zc (zl ok361 rfl) zn fun _ => rfl) fun _ => rfl) fun _ => rfl) (h356 hX hK (lk rfl hn) ok361)) fun _ => rfl)) (allJ_or1 (Snd.J (st_cmp (c:=.ne) (se_meth hX (hm273 hK) pla_nil (zl ok361 rfl) zn (h273 hX hK (lk rfl hn) ok361) fun _ => rfl) (se_b1 hX ok361 (bn (by rw [hK]; rfl) rfl (by decide) rfl rfl) (zl ok361 rfl) (fun _ => rfl) fun_len) rfl)))))
  (ssJ_cons (Snd.J (ss_ret se_bool))
  ssJ_nil)
  ssJ_nil)
noncomputable def x361_6 (P : Params) : Stmt:=((d361 P).body.drop 6).headD (.Pass ⟨0, 0, 0, 0⟩)
noncomputable def c361_6 : S:=sIf (tOr (tCmp .ne (eBytes (eMeth 283 F_RangeWriter_done (eL 6) [])) (eL 4)) (tOr (tCmp .ne (eMeth 283 F_RangeWriter_size (eL 6) []) (eLen (eL 4))) (tCmp .ne (eListOf (eL 7)) (eL 5)))) [sRet (eK (.bool false))] []
theorem s361_6 (hX : X.Ok) (hK : X.K = hd.heap_1 P) (hn : 7 <= n) : SSJ X n (f361 P) (x361_6 P) c361_6 :=
 (ssJ_if (stJ_bool (allJ_or (stJ_cmp (c:=.ne) (seJ_t1 hX ok361 (bn (by rw [hK]; rfl) rfl (by decide) rfl rfl) (seJ_meth hX (hm280 hK) pla_nil (zl ok361 rfl) zn (h280 hX hK (lk rfl hn) ok361) fun _ => rfl) (fun _ => rfl) (fun_bytes (lk rfl hn))) (zl ok361 rfl) rfl) (allJ_or (Snd.J (st_cmp (c:=.ne) (se_meth hX (hm273 hK) pla_nil (zl ok361 rfl) zn (h273 hX hK (lk rfl hn) ok361) fun _ => rfl) (se_b1 hX ok361 (bn (by rw [hK]; rfl) rfl (by decide) rfl rfl) (zl ok361 rfl) (fun _ => rfl) fun_len) rfl)) (allJ_or1 (Snd.J (st_cmp (c:=.ne) (se_t1 hX ok361 (bn (by rw [hK]; rfl) rfl (by decide) rfl rfl) (zl ok361 rfl) (fun _ => rfl) fun_listOf) (zl ok361 rfl) rfl))))))
  (ssJ_cons (Snd.J (ss_ret se_bool))
  ssJ_nil)
  ssJ_nil)
noncomputable def x361_7 (P : Params) : Stmt:=((d361 P).body.drop 7).headD (.Pass ⟨0, 0, 0, 0⟩)
noncomputable def c361_7 : S:=sAsg 9 (eList [(eTup [(eTup [(eK (.int 0)), (eK (.int 0)), (eK (.int 1))]), (eK (.int 1))]), (eTup [(eTup [(eK (.int 1)), (eK (.int 0)), (eK (.int 2))]), (eK (.int 1))]), (eTup [(eTup [(eK (.int 2)), (eK (.int 4)), (eK (.int 2))]), (eK (.int 1))]), (eTup [(eTup [(eK (.int 3)), (eK (.int 44)), (eK (.int 2))]), (eK (.int 3))])])
theorem e361_7 : c361_7 = sAsg 9 (eList (([⟨0, 0, 1, false, 1⟩, ⟨1, 0, 2, false, 1⟩, ⟨2, 4, 2, false, 1⟩, ⟨3, 44, 2, false, 3⟩] : List Row).map Row.m)):=by kernel_rfl
theorem s361_7 (hX : X.Ok) (hK : X.K = hd.heap_1 P) (hn : 7 <= n) : SSJ X n (f361 P) (x361_7 P) c361_7:=by
 have h:=@ss_rows X n (f361 P) (x361_7 P) "rows" [⟨0, 0, 1, false, 1⟩, ⟨1, 0, 2, false, 1⟩, ⟨2, 4, 2, false, 1⟩, ⟨3, 44, 2, false, 3⟩] 9 (.mk (.cons (.mk (.p _ _ _)) (.cons (.mk (.p _ _ _)) (.cons (.mk (.p _ _ _)) (.cons (.mk (.p _ _ _)) .nil))))) ok361 rfl (Nat.le_of_ble_eq_true rfl)
 rw [e361_7]
 assumption
noncomputable def x361_8 (P : Params) : Stmt:=((d361 P).body.drop 8).headD (.Pass ⟨0, 0, 0, 0⟩)
noncomputable def c361_8 : S:=sIf (tOr (tNot (tVal (eCall F_law_refused [(eL 6), (eL 7), (eL 9)]))) (tCmp .ne (eBytes (eMeth 283 F_RangeWriter_done (eL 6) [])) (eL 4))) [sRet (eK (.bool false))] []
theorem s361_8 (hX : X.Ok) (hK : X.K = hd.heap_1 P) (hn : 7 <= n) : SSJ X n (f361 P) (x361_8 P) c361_8 :=
 (ssJ_if (stJ_bool (allJ_or (stJ_not (stJ_val (seJ_def hX ok361 (gn (by rw [hK]; rfl) rfl rfl) (by rw [hK]; rfl) (pla_of (fun _ => rfl) fun _ _ => rfl) (zc (zl ok361 rfl) (zc (zl ok361 rfl) (zc (zl ok361 rfl) zn fun _ => rfl) fun _ => rfl) fun _ => rfl) (h356 hX hK (lk rfl hn) ok361)) fun _ => rfl)) (allJ_or1 (stJ_cmp (c:=.ne) (seJ_t1 hX ok361 (bn (by rw [hK]; rfl) rfl (by decide) rfl rfl) (seJ_meth hX (hm280 hK) pla_nil (zl ok361 rfl) zn (h280 hX hK (lk rfl hn) ok361) fun _ => rfl) (fun _ => rfl) (fun_bytes (lk rfl hn))) (zl ok361 rfl) rfl))))
  (ssJ_cons (Snd.J (ss_ret se_bool))
  ssJ_nil)
  ssJ_nil)
noncomputable def x361_9 (P : Params) : Stmt:=((d361 P).body.drop 9).headD (.Pass ⟨0, 0, 0, 0⟩)
noncomputable def c361_9 : S:=sAsg 10 (eBin .add (eSum (eL 3)) (eSum (eL 4)))
theorem s361_9 (hX : X.Ok) (hK : X.K = hd.heap_1 P) (hn : 7 <= n) : SSJ X n (f361 P) (x361_9 P) c361_9 :=
 (Snd.J (ss_asg ok361 rfl (zb (op:=.add) (se_b1 hX ok361 (bn (by rw [hK]; rfl) rfl (by decide) rfl rfl) (zl ok361 rfl) (fun _ => rfl) (fun_sum (lk rfl hn))) (se_b1 hX ok361 (bn (by rw [hK]; rfl) rfl (by decide) rfl rfl) (zl ok361 rfl) (fun _ => rfl) (fun_sum (lk rfl hn)))) fun _ => rfl))
noncomputable def x361_10 (P : Params) : Stmt:=((d361 P).body.drop 10).headD (.Pass ⟨0, 0, 0, 0⟩)
noncomputable def c361_10 : S:=sSwap [11, 12] [(eBytes (eBin .mul (eList [(eK (.int 9))]) (eBin .mod (eL 10) (eK (.int 3))))), (eBytes (eCut (eList [(eK (.int 0)), (eK (.int 255)), (eK (.int 7))]) none (some (eBin .mod (eBin .fdiv (eL 10) (eK (.int 3))) (eK (.int 4))))))]
theorem s361_10 (hX : X.Ok) (hK : X.K = hd.heap_1 P) (hn : 7 <= n) : SSJ X n (f361 P) (x361_10 P) c361_10 :=
 (Snd.J (ss_swap (nms:=["before", "behind"]) ok361 (lk rfl hn) rfl (zc (se_t1 hX ok361 (bn (by rw [hK]; rfl) rfl (by decide) rfl rfl) (zb (op:=.mul) (se_list (zc zi zn fun _ => rfl) (by decide)) (zb (op:=.mod) (zl ok361 rfl) zi)) (fun _ => rfl) (fun_bytes (lk rfl hn))) (zc (se_t1 hX ok361 (bn (by rw [hK]; rfl) rfl (by decide) rfl rfl) (se_cut (se_list (zc zi (zc zi (zc zi zn fun _ => rfl) fun _ => rfl) fun _ => rfl) (by decide)) pt_none (pt_some (zb (op:=.mod) (zb (op:=.fdiv) (zl ok361 rfl) zi) zi))) (fun _ => rfl) (fun_bytes (lk rfl hn))) zn fun _ => rfl) fun _ => rfl) rfl (by decide) (fun _ => rfl) fun _ _ => rfl))
noncomputable def x361_11 (P : Params) : Stmt:=((d361 P).body.drop 11).headD (.Pass ⟨0, 0, 0, 0⟩)
noncomputable def c361_11 : S:=sIf (tCmp .ne (eRepr (eCall F_law_heard [(eL 1), (eL 4), (eL 11), (eL 12)])) (eRepr (eTup [(eL 3), (eK (.str "")), (eL 5), (eTup [(eLen (eL 4)), (eK (.bool true))])]))) [sRet (eK (.bool false))] []
theorem s361_11 (hX : X.Ok) (hK : X.K = hd.heap_1 P) (hn : 7 <= n) : SSJ X n (f361 P) (x361_11 P) c361_11 :=
 (Snd.J (ss_if (st_cmp (c:=.ne) (se_b1 hX ok361 (bn (by rw [hK]; rfl) rfl (by decide) rfl rfl) (se_def hX ok361 (gn (by rw [hK]; rfl) rfl rfl) (by rw [hK]; rfl) (pla_of (fun _ => rfl) fun _ _ => rfl) (zc (zl ok361 rfl) (zc (zl ok361 rfl) (zc (zl ok361 rfl) (zc (zl ok361 rfl) zn fun _ => rfl) fun _ => rfl) fun _ => rfl) fun _ => rfl) (h342 hX hK (lk rfl hn) ok361)) (fun _ => rfl) fun_repr) (se_b1 hX ok361 (bn (by rw [hK]; rfl) rfl (by decide) rfl rfl) (se_tup (zc (zl ok361 rfl) (zc se_str (zc (zl ok361 rfl) (zc (se_tup (zc (se_b1 hX ok361 (bn (by rw [hK]; rfl) rfl (by decide) rfl rfl) (zl ok361 rfl) (fun _ => rfl) fun_len) (zc se_bool zn fun _ => rfl) fun _ => rfl) (by decide)) zn fun _ => rfl) fun _ => rfl) fun _ => rfl) fun _ => rfl) (by decide)) (fun _ => rfl) fun_repr) rfl)
  (zss (ss_ret se_bool)
  ss_nil)
  ss_nil))
noncomputable def x361_12 (P : Params) : Stmt:=((d361 P).body.drop 12).headD (.Pass ⟨0, 0, 0, 0⟩)
noncomputable def c361_12 : S:=sSwap [13, 14] [(eBin .mod (eL 10) (eLen (eL 4))), (eBytes (eBin .add (eList [(eBin .mul (eIntB (tCmp .eq (eBin .mod (eL 10) (eK (.int 5))) (eK (.int 0)))) (eK (.int 3)))]) (eCompZ [(eBin .mod (eL 10) (eK (.int 31)))] (fun x => (pBin .mod (pBin .add (pBin .mul (pL 10) (pBin .pow (pBin .add (pK x) (pK (.int 3))) (pK (.int 3)))) (pBin .mul (pK (.int 91)) (pK x))) (pK (.int 256)))))))]
theorem s361_12 (hX : X.Ok) (hK : X.K = hd.heap_1 P) (hn : 7 <= n) : SSJ X n (f361 P) (x361_12 P) c361_12 :=
 (Snd.J (ss_swap (nms:=["place", "far"]) ok361 (lk rfl hn) rfl (zc (zb (op:=.mod) (zl ok361 rfl) (se_b1 hX ok361 (bn (by rw [hK]; rfl) rfl (by decide) rfl rfl) (zl ok361 rfl) (fun _ => rfl) fun_len)) (zc (se_t1 hX ok361 (bn (by rw [hK]; rfl) rfl (by decide) rfl rfl) (zb (op:=.add) (se_list (zc (zb (op:=.mul) (se_intB hX ok361 (bn (by rw [hK]; rfl) rfl (by decide) rfl rfl) (se_cmp (c:=.eq) (zb (op:=.mod) (zl ok361 rfl) zi) zi rfl) fun _ => rfl) zi) zn fun _ => rfl) (by decide)) (se_compZ hX ok361 (lk rfl hn) (csk1 (nm0:="seed") (i:=10) rfl rfl rfl rfl rfl rfl (fun _ _ h => by simp only [closureFor, List.forIn_cons, List.forIn_nil]; rw [h]; rfl) rfl) (bn (by rw [hK]; rfl) rfl (by decide) rfl rfl) (pla_of (fun _ => rfl) fun _ _ => rfl) (zc (zb (op:=.mod) (zl ok361 rfl) zi) zn fun _ => rfl) (el_bin (op:=.mod) (el_bin (op:=.add) (el_bin (op:=.mul) (el_cell rfl rfl rfl rfl (fun _ _ => rfl) rfl) (el_bin (op:=.pow) (el_bin (op:=.add) (el_var rfl rfl rfl) el_int) el_int)) (el_bin (op:=.mul) el_int (el_var rfl rfl rfl))) el_int))) (fun _ => rfl) (fun_bytes (lk rfl hn))) zn fun _ => rfl) fun _ => rfl) rfl (by decide) (fun _ => rfl) fun _ _ => rfl))
noncomputable def x361_13 (P : Params) : Stmt:=((d361 P).body.drop 13).headD (.Pass ⟨0, 0, 0, 0⟩)
noncomputable def c361_13 : S:=sAsg 15 (eBin .add (eBin .add (eCut (eL 4) none (some (eL 13))) (eBytes (eList [(eBin .mod (eBin .add (eBin .add (eSub (eL 4) (eL 13)) (eK (.int 1))) (eBin .mod (eBin .fdiv (eL 10) (eK (.int 7))) (eK (.int 255)))) (eK (.int 256)))]))) (eCut (eL 4) (some (eBin .add (eL 13) (eK (.int 1)))) none))
theorem s361_13 (hX : X.Ok) (hK : X.K = hd.heap_1 P) (hn : 7 <= n) : SSJ X n (f361 P) (x361_13 P) c361_13 :=
 (Snd.J (ss_asg ok361 rfl (zb (op:=.add) (zb (op:=.add) (se_cut (zl ok361 rfl) pt_none (pt_some (zl ok361 rfl))) (se_t1 hX ok361 (bn (by rw [hK]; rfl) rfl (by decide) rfl rfl) (se_list (zc (zb (op:=.mod) (zb (op:=.add) (zb (op:=.add) (se_sub (zl ok361 rfl) (zl ok361 rfl) fun _ _ => rfl) zi) (zb (op:=.mod) (zb (op:=.fdiv) (zl ok361 rfl) zi) zi)) zi) zn fun _ => rfl) (by decide)) (fun _ => rfl) (fun_bytes (lk rfl hn)))) (se_cut (zl ok361 rfl) (pt_some (zb (op:=.add) (zl ok361 rfl) zi)) pt_none)) fun _ => rfl))
noncomputable def x361_14 (P : Params) : Stmt:=((d361 P).body.drop 14).headD (.Pass ⟨0, 0, 0, 0⟩)
noncomputable def c361_14 : S:=sAsg 16 (eList [(eL 15), (eCut (eL 4) none (some (eBin .sub (eBin .sub (eLen (eL 4)) (eK (.int 1))) (eBin .mod (eL 10) (eK (.int 4)))))), (eL 14), (eBin .add (eBytes (eList [(eK (.int 0)), (eK (.int 255)), (eK (.int 255)), (eK (.int 255)), (eK (.int 255))])) (eL 14))])
theorem s361_14 (hX : X.Ok) (hK : X.K = hd.heap_1 P) (hn : 7 <= n) : SSJ X n (f361 P) (x361_14 P) c361_14 :=
 (Snd.J (ss_asg ok361 rfl (se_list (zc (zl ok361 rfl) (zc (se_cut (zl ok361 rfl) pt_none (pt_some (zb (op:=.sub) (zb (op:=.sub) (se_b1 hX ok361 (bn (by rw [hK]; rfl) rfl (by decide) rfl rfl) (zl ok361 rfl) (fun _ => rfl) fun_len) zi) (zb (op:=.mod) (zl ok361 rfl) zi)))) (zc (zl ok361 rfl) (zc (zb (op:=.add) (se_t1 hX ok361 (bn (by rw [hK]; rfl) rfl (by decide) rfl rfl) (se_list (zc zi (zc zi (zc zi (zc zi (zc zi zn fun _ => rfl) fun _ => rfl) fun _ => rfl) fun _ => rfl) fun _ => rfl) (by decide)) (fun _ => rfl) (fun_bytes (lk rfl hn))) (zl ok361 rfl)) zn fun _ => rfl) fun _ => rfl) fun _ => rfl) fun _ => rfl) (by decide)) fun _ => rfl))
noncomputable def x361_15 (P : Params) : Stmt:=((d361 P).body.drop 15).headD (.Pass ⟨0, 0, 0, 0⟩)
noncomputable def c361_15 : S:=sForV (setL 17) (eList [(eSub (eL 16) (eBin .mod (eBin .fdiv (eL 10) (eK (.int 2))) (eK (.int 4)))), (eSub (eL 16) (eBin .mod (eBin .add (eBin .add (eBin .fdiv (eL 10) (eK (.int 2))) (eK (.int 1))) (eBin .mod (eBin .fdiv (eL 10) (eK (.int 8))) (eK (.int 3)))) (eK (.int 4))))]) [sIf (tCmp .ne (eRepr (eCall F_law_heard [(eL 1), (eL 17), (eL 11), (eL 12)])) (eRepr (eCall F_law_told [(eL 1), (eL 17)]))) [sRet (eK (.bool false))] []]
theorem s361_15 (hX : X.Ok) (hK : X.K = hd.heap_1 P) (hn : 7 <= n) : SSJ X n (f361 P) (x361_15 P) c361_15 :=
 (Snd.J (ss_forV ok361 (lk rfl hn) (tgt_name ok361 rfl) (se_list (zc (se_sub (zl ok361 rfl) (zb (op:=.mod) (zb (op:=.fdiv) (zl ok361 rfl) zi) zi) fun _ _ => rfl) (zc (se_sub (zl ok361 rfl) (zb (op:=.mod) (zb (op:=.add) (zb (op:=.add) (zb (op:=.fdiv) (zl ok361 rfl) zi) zi) (zb (op:=.mod) (zb (op:=.fdiv) (zl ok361 rfl) zi) zi)) zi) fun _ _ => rfl) zn fun _ => rfl) fun _ => rfl) (by decide))
  (zss (ss_if (st_cmp (c:=.ne) (se_b1 hX ok361 (bn (by rw [hK]; rfl) rfl (by decide) rfl rfl) (se_def hX ok361 (gn (by rw [hK]; rfl) rfl rfl) (by rw [hK]; rfl) (pla_of (fun _ => rfl) fun _ _ => rfl) (zc (zl ok361 rfl) (zc (zl ok361 rfl) (zc (zl ok361 rfl) (zc (zl ok361 rfl) zn fun _ => rfl) fun _ => rfl) fun _ => rfl) fun _ => rfl) (h342 hX hK (lk rfl hn) ok361)) (fun _ => rfl) fun_repr) (se_b1 hX ok361 (bn (by rw [hK]; rfl) rfl (by decide) rfl rfl) (se_def hX ok361 (gn (by rw [hK]; rfl) rfl rfl) (by rw [hK]; rfl) (pla_of (fun _ => rfl) fun _ _ => rfl) (zc (zl ok361 rfl) (zc (zl ok361 rfl) zn fun _ => rfl) fun _ => rfl) (h328 hX hK (lk rfl hn) ok361)) (fun _ => rfl) fun_repr) rfl)
  (zss (ss_ret se_bool)
  ss_nil)
  ss_nil)
  ss_nil) (.inl fun _ _ => rfl) fun _ _ => rfl))
noncomputable def x361_16 (P : Params) : Stmt:=((d361 P).body.drop 16).headD (.Pass ⟨0, 0, 0, 0⟩)
noncomputable def c361_16 : S:=sRet (eK (.bool true))
theorem s361_16 (hX : X.Ok) (hK : X.K = hd.heap_1 P) (hn : 7 <= n) : SSJ X n (f361 P) (x361_16 P) c361_16 :=
 (Snd.J (ss_ret se_bool))
theorem b361_all (P : Params) : (d361 P).body = [x361_0 P, x361_1 P, x361_2 P, x361_3 P, x361_4 P, x361_5 P, x361_6 P, x361_7 P, x361_8 P, x361_9 P, x361_10 P, x361_11 P, x361_12 P, x361_13 P, x361_14 P, x361_15 P, x361_16 P]:=by kernel_rfl
theorem B361_all : B_law = [c361_0, c361_1, c361_2, c361_3, c361_4, c361_5, c361_6, c361_7, c361_8, c361_9, c361_10, c361_11, c361_12, c361_13, c361_14, c361_15, c361_16]:=by kernel_rfl
theorem all361 {F : FnC} {x0 x1 x2 x3 x4 x5 x6 x7 x8 x9 x10 x11 x12 x13 x14 x15 x16 : Stmt} {c0 c1 c2 c3 c4 c5 c6 c7 c8 c9 c10 c11 c12 c13 c14 c15 c16 : S} (h0 : SSJ X n F x0 c0) (h1 : SSJ X n F x1 c1) (h2 : SSJ X n F x2 c2) (h3 : SSJ X n F x3 c3) (h4 : SSJ X n F x4 c4) (h5 : SSJ X n F x5 c5) (h6 : SSJ X n F x6 c6) (h7 : SSJ X n F x7 c7) (h8 : SSJ X n F x8 c8) (h9 : SSJ X n F x9 c9) (h10 : SSJ X n F x10 c10) (h11 : SSJ X n F x11 c11) (h12 : SSJ X n F x12 c12) (h13 : SSJ X n F x13 c13) (h14 : SSJ X n F x14 c14) (h15 : SSJ X n F x15 c15) (h16 : SSJ X n F x16 c16) : SSsJ X n F [x0, x1, x2, x3, x4, x5, x6, x7, x8, x9, x10, x11, x12, x13, x14, x15, x16] (sSeq [c0, c1, c2, c3, c4, c5, c6, c7, c8, c9, c10, c11, c12, c13, c14, c15, c16]):=(ssJ_cons h0 (ssJ_cons h1 (ssJ_cons h2 (ssJ_cons h3 (ssJ_cons h4 (ssJ_cons h5 (ssJ_cons h6 (ssJ_cons h7 (ssJ_cons h8 (ssJ_cons h9 (ssJ_cons h10 (ssJ_cons h11 (ssJ_cons h12 (ssJ_cons h13 (ssJ_cons h14 (ssJ_cons h15 (ssJ_cons h16 ssJ_nil)))))))))))))))))
theorem s361 (hX : X.Ok) (hK : X.K = hd.heap_1 P) (hn : 7 <= n) : SSsJ X n (f361 P) (d361 P).body (sSeq B_law):=by
 rw [b361_all, B361_all]
 have h0:=@s361_0 P X n hX hK hn
 have h1:=@s361_1 P X n hX hK hn
 have h2:=@s361_2 P X n hX hK hn
 have h3:=@s361_3 P X n hX hK hn
 have h4:=@s361_4 P X n hX hK hn
 have h5:=@s361_5 P X n hX hK hn
 have h6:=@s361_6 P X n hX hK hn
 have h7:=@s361_7 P X n hX hK hn
 have h8:=@s361_8 P X n hX hK hn
 have h9:=@s361_9 P X n hX hK hn
 have h10:=@s361_10 P X n hX hK hn
 have h11:=@s361_11 P X n hX hK hn
 have h12:=@s361_12 P X n hX hK hn
 have h13:=@s361_13 P X n hX hK hn
 have h14:=@s361_14 P X n hX hK hn
 have h15:=@s361_15 P X n hX hK hn
 have h16:=@s361_16 P X n hX hK hn
 have t:=@all361 X n (f361 P) (x361_0 P) (x361_1 P) (x361_2 P) (x361_3 P) (x361_4 P) (x361_5 P) (x361_6 P) (x361_7 P) (x361_8 P) (x361_9 P) (x361_10 P) (x361_11 P) (x361_12 P) (x361_13 P) (x361_14 P) (x361_15 P) (x361_16 P) c361_0 c361_1 c361_2 c361_3 c361_4 c361_5 c361_6 c361_7 c361_8 c361_9 c361_10 c361_11 c361_12 c361_13 c361_14 c361_15 c361_16 (by assumption) (by assumption) (by assumption) (by assumption) (by assumption) (by assumption) (by assumption) (by assumption) (by assumption) (by assumption) (by assumption) (by assumption) (by assumption) (by assumption) (by assumption) (by assumption) (by assumption)
 assumption
end
end Mine
end
section
open PySem
namespace Mine
theorem nab {x : Int} (h0 : 0 <= x) (h : x < 18446744073709551616) : x.natAbs < 2 ^ 64:=by
 refine Int.ofNat_lt.mp ?_
 rw [Int.natAbs_of_nonneg h0]
 exact h
theorem tnI {n j : Nat} (h : j < n) : ((n : Int) - 1 - j).toNat = n - 1 - j:=by
 obtain ⟨r, rfl⟩:=Nat.exists_eq_add_of_lt h
 have : ((j + r + 1 : Nat) : Int) - 1 - j = (r : Int):=by
  rw [Int.natCast_add, Int.natCast_add]
  show (j : Int) + r + 1 - 1 - j = r
  rw [Int.add_sub_cancel, Int.add_comm, Int.add_sub_cancel]
 rw [this, Nat.add_sub_cancel, Nat.add_sub_cancel_left]; rfl
theorem rvN {n m j : Nat} (e : n = m) (h : j < n) : m - 1 - (n - 1 - j) = j:=e ▸ Nat.sub_sub_self (Nat.le_sub_one_of_lt h)
theorem rvL {n m j : Nat} (e : n = m) (h : j < n) : n - 1 - j < m:=e ▸ Nat.lt_of_le_of_lt (Nat.sub_le _ _) (Nat.sub_lt (Nat.lt_of_le_of_lt (Nat.zero_le _) h) Nat.one_pos)
theorem way4 {w : Int} (h : 0 <= w /\ w <= 3) : w = 0 \/ w = 1 \/ w = 2 \/ w = 3:=by lia
theorem drop_nil_len {α : Type} {vs : List α} {j : Nat} (hr : vs.drop j = []) (hj : j <= vs.length) : j = vs.length:=Nat.le_antisymm hj (List.drop_eq_nil_iff.mp hr)
theorem drop_cons_lt {α : Type} {vs r : List α} {v : α} {j : Nat} (hr : vs.drop j = v :: r) : j < vs.length:=by
 rcases Nat.lt_or_ge j vs.length with h | h
 ·exact h
 ·rw [List.drop_eq_nil_of_le h] at hr; cases hr
theorem leOr {a b c : Nat} (h : b <= c) (q : a = b \/ a = b + 1) : a <= c + 1:=by
 rcases q with rfl | rfl
 ·exact Nat.le_succ_of_le h
 ·exact Nat.succ_le_succ h
theorem oneLe {x : Int} (h : 1 <= x) : ∃ n : Nat, x = n + 1:=⟨(x - 1).toNat, by rw [Int.toNat_of_nonneg (Int.sub_nonneg_of_le h), Int.sub_add_cancel]⟩
theorem sb1 {n i : Nat} (h : i < n) : n + 1 - 1 - i = n - 1 - i + 1:=by
 rw [Nat.add_sub_cancel, Nat.sub_sub, Nat.add_comm 1 i, <- Nat.sub_sub]
 exact (Nat.sub_add_cancel (Nat.sub_pos_of_lt h)).symm
theorem m256 (x : Int) : 0 <= x % 256 /\ x % 256 < 256:=⟨Int.emod_nonneg _ (by decide), Int.emod_lt_of_pos _ (by decide)⟩
theorem ss1 {a b : Nat} (h : b < a) : a - (b + 1) + 1 = a - b:=Nat.sub_add_cancel (Nat.sub_pos_of_lt h)
theorem eq_of_sub {a b : Nat} (h : b <= a) (e : a - b = 0) : b = a:=Nat.le_antisymm h (Nat.le_of_sub_eq_zero e)
noncomputable def nxI (m b : Int) : Int:=if b = 0 then m + (2048 - m) / 32 else m - m / 32
theorem nxI_ok {m b : Int} (h : 31 <= m /\ m <= 2017) : 31 <= nxI m b /\ nxI m b <= 2017:=by
 unfold nxI; split <;> lia
structure C where
 N : Int
 R : Int
 k : Nat
 ms : List Int
noncomputable def gm (ms : List Int) (i : Int) : Int:=ms.getD i.toNat 0
noncomputable def prt (R : Int) (ms : List Int) : Option Int -> Int
 | none => R / 2
 | some i => R / 2048 * gm ms i
noncomputable def stR (c : C) (b : Int) : Option Int -> Int
 | none => prt c.R c.ms none
 | some i => if b = 0 then prt c.R c.ms (some i) else c.R - prt c.R c.ms (some i)
noncomputable def stM (ms : List Int) (b : Int) : Option Int -> List Int
 | none => ms
 | some i => ms.set i.toNat (nxI (gm ms i) b)
noncomputable def stN (c : C) (sp : Option Int) (b : Int) : Int:=c.N + prt c.R c.ms sp * b
noncomputable def nrm (N R : Int) (k : Nat) (ms : List Int) : C:=if R < 16777216 then ⟨N * 256, R * 256, k + 1, ms⟩ else ⟨N, R, k, ms⟩
noncomputable def goC (c : C) (sp : Option Int) (b : Int) : C:=nrm (stN c sp b) (stR c b sp) c.k (stM c.ms b sp)
structure MsOk (ms : List Int) : Prop where
 len : ms.length = 80
 m : ∀ x ∈ ms, 31 <= x /\ x <= 2017
structure Gd (c : C) : Prop where
 R1 : 16777216 <= c.R
 R2 : c.R <= 4294967295
 N0 : 0 <= c.N
 NR : c.N + c.R <= 4294967295 * 256 ^ c.k
 ms : MsOk c.ms
noncomputable def SpOk : Option Int -> Prop
 | none => True
 | some i => 0 <= i /\ i < 80
noncomputable def Bit (b : Int) : Prop:=b = 0 \/ b = 1
theorem gm_ok {ms : List Int} (h : MsOk ms) {i : Int} (hi : 0 <= i /\ i < 80) : 31 <= gm ms i /\ gm ms i <= 2017:=by
 unfold gm
 have hl:=h.len
 have hlt : i.toNat < ms.length:=by lia
 rw [yJ, yI hlt]
 exact h.m _ (List.getElem_mem hlt)
theorem stM_ok {ms : List Int} (h : MsOk ms) {b : Int} : ∀ {sp : Option Int}, SpOk sp -> MsOk (stM ms b sp)
 | none, _ => h
 | some i, hi => ⟨by unfold stM; rw [List.length_set]; exact h.len, fun x hx => by
   rcases List.mem_or_eq_of_mem_set hx with h1 | rfl
   ·exact h.m x h1
   ·exact nxI_ok (gm_ok h hi)⟩
theorem prt_ok {R : Int} {ms : List Int} (h1 : 16777216 <= R) (hm : MsOk ms) : ∀ {sp : Option Int}, SpOk sp -> 65536 <= prt R ms sp /\ prt R ms sp + 65536 <= R /\ (sp = none -> 2 * prt R ms sp <= R)
 | none, _ => by simp only [prt]; refine ⟨?_, ?_, fun _ => ?_⟩ <;> lia
 | some i, hi => by
  obtain ⟨a, b⟩:=gm_ok hm hi
  simp only [prt]
  have hq : 8192 <= R / 2048:=by lia
  have e1 : R / 2048 * 31 <= R / 2048 * gm ms i:=Int.mul_le_mul_of_nonneg_left a (by lia)
  have e2 : R / 2048 * gm ms i <= R / 2048 * 2017:=Int.mul_le_mul_of_nonneg_left b (by lia)
  refine ⟨?_, ?_, fun h => nomatch h⟩ <;> lia
theorem bit_mul {p b : Int} (h : Bit b) : (b = 0 /\ p * b = 0) \/ (b = 1 /\ p * b = p):=by
 rcases h with rfl | rfl
 ·exact .inl ⟨rfl, Int.mul_zero _⟩
 ·exact .inr ⟨rfl, Int.mul_one _⟩
theorem st_in {c : C} (h : Gd c) {sp : Option Int} (hs : SpOk sp) {b : Int} (hb : Bit b) :
  65536 <= stR c b sp /\ stR c b sp <= c.R /\ c.N <= stN c sp b /\ stN c sp b + stR c b sp <= c.N + c.R:=by
 obtain ⟨p1, p2, p3⟩:=prt_ok h.R1 h.ms hs
 unfold stN stR
 cases sp with
 | none =>
  have p3:=p3 rfl
  dsimp only
  rcases bit_mul (p:=prt c.R c.ms none) hb with ⟨rfl, e⟩ | ⟨rfl, e⟩ <;> rw [e] <;> lia
 | some i =>
  dsimp only
  rcases bit_mul (p:=prt c.R c.ms (some i)) hb with ⟨rfl, e⟩ | ⟨rfl, e⟩ <;> rw [e] <;> simp <;> lia
inductive Nest (N R : Int) (k : Nat) (N' R' : Int) (k' : Nat) : Prop where
 | mk (e : _) (h0 : k' = k + e) (h1 : N * 256 ^ e <= N') (h2 : N' + R' <= (N + R) * 256 ^ e) : Nest N R k N' R' k'
theorem pow_pos (e : Nat) : (0 : Int) < 256 ^ e:=Int.pow_pos (by decide)
theorem Nest.trans {N R N' R' N'' R'' : Int} {k k' k'' : Nat} (a : Nest N R k N' R' k') (b : Nest N' R' k' N'' R'' k'') : Nest N R k N'' R'' k'':=by
 obtain ⟨e, rfl, a1, a2⟩:=a
 obtain ⟨f, rfl, b1, b2⟩:=b
 refine ⟨e + f, by lia, ?_, ?_⟩
 ·rw [Int.pow_add, <- Int.mul_assoc]
  exact Int.le_trans (Int.mul_le_mul_of_nonneg_right a1 (Int.le_of_lt (pow_pos f))) b1
 ·rw [Int.pow_add, <- Int.mul_assoc]
  exact Int.le_trans b2 (Int.mul_le_mul_of_nonneg_right a2 (Int.le_of_lt (pow_pos f)))
theorem Nest.refl {N R : Int} {k : Nat} : Nest N R k N R k:=⟨0, rfl, by lia, by lia⟩
theorem nest_nrm (N R : Int) (k : Nat) (ms : List Int) : Nest N R k (nrm N R k ms).N (nrm N R k ms).R (nrm N R k ms).k:=by
 unfold nrm
 split
 ·exact ⟨1, rfl, by show N * 256 <= N * 256; lia, by show N * 256 + R * 256 <= (N + R) * 256; lia⟩
 ·exact .refl
theorem nest_st {c : C} (h : Gd c) {sp : Option Int} (hs : SpOk sp) {b : Int} (hb : Bit b) : Nest c.N c.R c.k (stN c sp b) (stR c b sp) c.k:=by
 obtain ⟨_, _, h3, h4⟩:=st_in h hs hb
 exact ⟨0, rfl, by lia, by lia⟩
theorem nest_go {c : C} (h : Gd c) {sp : Option Int} (hs : SpOk sp) {b : Int} (hb : Bit b) : Nest c.N c.R c.k (goC c sp b).N (goC c sp b).R (goC c sp b).k :=
 (nest_st h hs hb).trans (nest_nrm _ _ _ _)
theorem gd_go {c : C} (h : Gd c) {sp : Option Int} (hs : SpOk sp) {b : Int} (hb : Bit b) : Gd (goC c sp b):=by
 obtain ⟨h1, h2, h3, h4⟩:=st_in h hs hb
 have hR:=h.R2
 have hN:=h.N0
 have hNR:=h.NR
 have hm:=stM_ok (b:=b) h.ms hs
 unfold goC nrm
 generalize stN c sp b = N1 at *
 generalize stR c b sp = R1 at *
 split
 ·refine ⟨?_, ?_, ?_, ?_, hm⟩
  ·show 16777216 <= R1 * 256; lia
  ·show R1 * 256 <= 4294967295; lia
  ·show 0 <= N1 * 256; lia
  ·show N1 * 256 + R1 * 256 <= 4294967295 * 256 ^ (c.k + 1)
   rw [Int.pow_succ]
   lia
 ·refine ⟨?_, ?_, ?_, ?_, hm⟩
  ·show 16777216 <= R1; lia
  ·show R1 <= 4294967295; lia
  ·show 0 <= N1; lia
  ·show N1 + R1 <= 4294967295 * 256 ^ c.k; lia
theorem go_k (c : C) (sp : Option Int) (b : Int) : (goC c sp b).k = c.k \/ (goC c sp b).k = c.k + 1:=by
 unfold goC nrm; split
 ·exact .inr rfl
 ·exact .inl rfl
structure Act where
 way : Int
 at' : Int
 cnt : Nat
 amt : Option Int
structure ActOk (a : Act) : Prop where
 w : 0 <= a.way /\ a.way <= 3
 c : 1 <= a.cnt /\ a.cnt <= 12
 c0 : a.way = 0 -> a.cnt = 1
 c2 : 2 <= a.way -> a.cnt <= 4
 a0 : 0 <= a.at'
 a1 : a.way = 0 -> a.at' < 4
 a2 : 2 <= a.way -> a.at' <= 64
 am : ∀ v, a.amt = some v -> 0 <= v
noncomputable def spt (a : Act) (node : Int) : Option Int:=if a.way = 1 then none else some (a.at' + node * (if 1 < a.way then 1 else 0))
theorem spt_ok {a : Act} (h : ActOk a) {node : Int} {t : Nat} (h1 : 1 <= node) (h2 : node < 2 ^ (t + 1)) (ht : t < a.cnt) : SpOk (spt a node):=by
 unfold spt
 split
 ·trivial
 ·rename_i hw
  obtain ⟨w0, w3⟩:=h.w
  have a0:=h.a0
  show 0 <= _ /\ _ < (80 : Int)
  split
  ·rename_i h5
   have:=h.c2 (by lia)
   have a2:=h.a2 (by lia)
   have : node < 16:=by
    have : t = 0 \/ t = 1 \/ t = 2 \/ t = 3:=by lia
    rcases this with rfl | rfl | rfl | rfl <;> simp at h2 <;> lia
   lia
  ·have:=h.a1 (by lia)
   lia
noncomputable def runB (a : Act) : C -> Int -> List Int -> C
 | c, _, [] => c
 | c, n, b :: bs => runB a (goC c (spt a n) b) (2 * n + b) bs
noncomputable def runA : C -> List (Act × List Int) -> C
 | c, [] => c
 | c, (a, bs) :: r => runA (runB a c 1 bs) r
noncomputable def lv : List Int -> Int
 | [] => 0
 | b :: r => b + 2 * lv r
noncomputable def numOf (a : Act) (bits : List Int) : Int:=if a.way = 3 then lv bits else lv bits.reverse
noncomputable def Bits (l : List Int) : Prop:=∀ b ∈ l, Bit b
theorem lv_append : ∀ (l : List Int) (b : Int), lv (l ++ [b]) = lv l + b * 2 ^ l.length
 | [], b => by simp [lv]
 | x :: r, b => by
  have e : (2 : Int) ^ (r.length + 1) = 2 * 2 ^ r.length:=by rw [Int.pow_succ]; lia
  have e2 : b * (2 * 2 ^ r.length) = 2 * (b * 2 ^ r.length):=by rw [<- Int.mul_assoc, Int.mul_comm b 2, Int.mul_assoc]
  show x + 2 * lv (r ++ [b]) = x + 2 * lv r + b * 2 ^ (r.length + 1)
  rw [lv_append r b, e, e2]
  lia
theorem lv_bd : ∀ {l : List Int}, Bits l -> 0 <= lv l /\ lv l < 2 ^ l.length
 | [], _ => by decide
 | x :: r, h => by
  obtain ⟨a, b⟩:=lv_bd (l:=r) fun y hy => h y (.tail _ hy)
  have e : (2 : Int) ^ (r.length + 1) = 2 * 2 ^ r.length:=by rw [Int.pow_succ]; lia
  have hx:=h x (.head _)
  show 0 <= x + 2 * lv r /\ x + 2 * lv r < 2 ^ (r.length + 1)
  rw [e]
  rcases hx with rfl | rfl <;> lia
theorem lv_div {x : Int} {r : List Int} {p : Int} (hx : Bit x) : (x + 2 * lv r) / (2 * p) = lv r / p:=by
 rw [<- Int.ediv_ediv_of_nonneg (by decide)]
 congr 1
 rcases hx with rfl | rfl <;> lia
theorem lv_get : ∀ {l : List Int} (_ : Bits l) (j : Nat) (_ : j < l.length), lv l / 2 ^ j % 2 = l.getD j 0
 | x :: r, h, 0, _ => by
  have hx:=h x (.head _)
  show (x + 2 * lv r) / 1 % 2 = x
  rcases hx with rfl | rfl <;> lia
 | x :: r, h, j + 1, hj => by
  have hx:=h x (.head _)
  show (x + 2 * lv r) / 2 ^ (j + 1) % 2 = r.getD j 0
  rw [<- lv_get (l:=r) (fun y hy => h y (.tail _ hy)) j (by simpa using hj), show (2 : Int) ^ (j + 1) = 2 * 2 ^ j by rw [Int.pow_succ]; lia, lv_div hx]
noncomputable def vb (l : List UInt8) : Int:=l.foldl (fun a x => a * 256 + (x.toNat : Int)) 0
theorem vb_snoc (l : List UInt8) (x : UInt8) : vb (l ++ [x]) = vb l * 256 + (x.toNat : Int):=by
 unfold vb; rw [List.foldl_append]; rfl
theorem vb_append (l r : List UInt8) : vb (l ++ r) = vb l * 256 ^ r.length + vb r:=by
 suffices h : ∀ (r : List UInt8) (a : Int), r.foldl (fun a x => a * 256 + (x.toNat : Int)) a = a * 256 ^ r.length + vb r by
  unfold vb; rw [List.foldl_append]; exact h r _
 intro r
 induction r with
 | nil => intro a; simp [vb]
 | cons x r ih =>
  intro a
  have e : vb (x :: r) = (x.toNat : Int) * 256 ^ r.length + vb r:=by
   show r.foldl _ (0 * 256 + (x.toNat : Int)) = _
   rw [ih]; simp
  rw [List.foldl_cons, ih, e, yA, Int.pow_succ, Int.add_mul, Int.mul_assoc, Int.mul_comm 256]
  lia
theorem vb_bd : ∀ (r : List UInt8), 0 <= vb r /\ vb r < 256 ^ r.length:=by
 intro r
 induction r with
 | nil => decide
 | cons x r ih =>
  have e : vb (x :: r) = (x.toNat : Int) * 256 ^ r.length + vb r:=by
   rw [<- List.singleton_append, vb_append]; simp [vb]
  have hx : (x.toNat : Int) <= 255:=by have:=x.toNat_lt; lia
  have h1 : (x.toNat : Int) * 256 ^ r.length <= 255 * 256 ^ r.length:=Int.mul_le_mul_of_nonneg_right hx (Int.le_of_lt (pow_pos _))
  have h0 : 0 <= (x.toNat : Int) * 256 ^ r.length:=Int.mul_nonneg (by lia) (Int.le_of_lt (pow_pos _))
  rw [e, yA, Int.pow_succ]
  lia
theorem vb_take {l : List UInt8} {j : Nat} (h : j < l.length) : vb (l.take (j + 1)) = vb (l.take j) * 256 + (l[j].toNat : Int):=by
 rw [List.take_succ_eq_append_getElem h, vb_snoc]
theorem vb_div (l : List UInt8) (j : Nat) : vb (l.take j) = vb l / 256 ^ (l.length - j):=by
 have e : vb l = vb (l.take j) * 256 ^ (l.length - j) + vb (l.drop j):=by
  conv => lhs; rw [<- List.take_append_drop j l, vb_append, List.length_drop]
 have hb:=vb_bd (l.drop j)
 rw [List.length_drop] at hb
 rw [e, Int.add_comm, Int.add_mul_ediv_right _ _ (Int.ne_of_gt (pow_pos _)), Int.ediv_eq_zero_of_lt hb.1 hb.2]
 lia
noncomputable def digs (N : Int) : Nat -> List UInt8
 | 0 => []
 | n + 1 => digs (N / 256) n ++ [UInt8.ofNat (N % 256).toNat]
theorem digs_len (N : Int) : ∀ n, (digs N n).length = n:=by
 intro n
 induction n generalizing N with
 | zero => rfl
 | succ n ih => unfold digs; rw [yH, ih]; rfl
theorem digs_vb : ∀ (n : Nat) (l : List UInt8), l.length = n -> digs (vb l) n = l:=by
 intro n
 induction n with
 | zero => intro l h; rw [List.eq_nil_of_length_eq_zero h]; rfl
 | succ n ih =>
  intro l h
  have hne : l ≠ []:=by intro q; rw [q] at h; cases h
  obtain ⟨r, x, rfl⟩ : ∃ r x, l = r ++ [x]:=⟨l.dropLast, l.getLast hne, (List.dropLast_concat_getLast hne).symm⟩
  have hr : r.length = n:=by simpa using h
  have hx:=x.toNat_lt
  have e1 : vb (r ++ [x]) / 256 = vb r:=by rw [vb_snoc]; lia
  have e2 : (vb (r ++ [x]) % 256).toNat = x.toNat:=by rw [vb_snoc]; lia
  unfold digs
  rw [e1, ih r hr, e2]
  simp
theorem vb_digs : ∀ (n : Nat) (N : Int), 0 <= N -> N < 256 ^ n -> vb (digs N n) = N:=by
 intro n
 induction n with
 | zero => intro N h0 h1; simp at h1; show (0 : Int) = N; lia
 | succ n ih =>
  intro N h0 h1
  unfold digs
  rw [vb_snoc, ih (N / 256) (by lia) (by rw [Int.pow_succ] at h1; lia)]
  have : ((UInt8.ofNat (N % 256).toNat).toNat : Int) = N % 256:=by
   rw [UInt8.toNat_ofNat_of_lt']
   ·lia
   ·show _ < 256; lia
  rw [this]
  lia
end Mine
end
section
open PySem PyProof.Rows
namespace Mine
section
variable {α β : Type}
noncomputable def Res.bd (r : Res α) (f : α -> AS -> Res β) : Res β:=match r with
 | .ok a s => f a s
 | .exc c s => .exc c s
 | .stuck w => .stuck w
noncomputable def Res.post (r : Res α) (Q : α -> AS -> Prop) (E : Nat -> AS -> Prop) : Prop:=match r with
 | .ok a s => Q a s
 | .exc c s => E c s
 | .stuck _ => False
theorem bnd_ap (m : M α) (f : α -> M β) (s : AS) : bnd m f s = (m s).bd f:=rfl
theorem bd_ok (a : α) (s : AS) (f : α -> AS -> Res β) : (Res.ok a s).bd f = f a s:=rfl
theorem bd_exc (c : Nat) (s : AS) (f : α -> AS -> Res β) : (Res.exc c s : Res α).bd f = .exc c s:=rfl
theorem post_bd {r : Res α} {f : α -> AS -> Res β} {Q : β -> AS -> Prop} {E : Nat -> AS -> Prop} : (r.bd f).post Q E ↔ r.post (fun a s => (f a s).post Q E) E:=by
 cases r <;> exact Iff.rfl
theorem post_mono {r : Res α} {Q Q' : α -> AS -> Prop} {E E' : Nat -> AS -> Prop} (h : r.post Q E) (h1 : ∀ a s, Q a s -> Q' a s) (h2 : ∀ c s, E c s -> E' c s) : r.post Q' E':=by
 cases r with
 | ok a s => exact h1 a s h
 | exc c s => exact h2 c s h
 | stuck w => exact h
theorem bd_post {r : Res α} {f : α -> AS -> Res β} {Q : β -> AS -> Prop} {Q' : α -> AS -> Prop} {E E' : Nat -> AS -> Prop} (h : r.post Q' E') (h1 : ∀ a s, Q' a s -> (f a s).post Q E) (h2 : ∀ c s, E' c s -> E c s) : (r.bd f).post Q E :=
 post_bd.mpr (post_mono h h1 h2)
theorem post_ok (a : α) (s : AS) (Q : α -> AS -> Prop) (E : Nat -> AS -> Prop) : (Res.ok a s).post Q E = Q a s:=rfl
theorem post_exc (c : Nat) (s : AS) (Q : α -> AS -> Prop) (E : Nat -> AS -> Prop) : (Res.exc c s : Res α).post Q E = E c s:=rfl
end
noncomputable def NoE : Nat -> AS -> Prop:=fun _ _ => False
noncomputable def Res.sq (r : Res Fl) (k : S) : Res Fl:=match r with
 | .ok .nx s => k s
 | .ok (.rt v) s => .ok (.rt v) s
 | .exc c s => .exc c s
 | .stuck w => .stuck w
theorem zsc (a : S) (r : List S) (s : AS) : sSeq (a :: r) s = (a s).sq (sSeq r):=by
 show bnd a _ s = _
 unfold bnd Res.sq
 cases a s with
 | ok f s' => cases f <;> rfl
 | exc => rfl
 | stuck => rfl
theorem sq_nx (s : AS) (k : S) : (Res.ok Fl.nx s).sq k = k s:=rfl
theorem sq_rt (v : PV) (s : AS) (k : S) : (Res.ok (Fl.rt v) s).sq k = .ok (.rt v) s:=rfl
theorem sq_exc (c : Nat) (s : AS) (k : S) : (Res.exc c s : Res Fl).sq k = .exc c s:=rfl
theorem post_sq {r : Res Fl} {k : S} {Q : Fl -> AS -> Prop} {E : Nat -> AS -> Prop} (h : r.post (fun f s => match f with | .nx => (k s).post Q E | .rt v => Q (.rt v) s) E) : (r.sq k).post Q E:=by
 cases r with
 | ok f s => cases f <;> exact h
 | exc => exact h
 | stuck => exact h
noncomputable def Res.fin (r : Res Fl) (l : List (Option PV)) : Res PV:=match r with
 | .ok .nx s' => .ok .none ⟨l, s'.mem, s'.nxt⟩
 | .ok (.rt v) s' => .ok v ⟨l, s'.mem, s'.nxt⟩
 | .exc c s' => .exc c ⟨l, s'.mem, s'.nxt⟩
 | .stuck w => .stuck w
theorem fnM_ap (n : Nat) (b : List S) (args : List PV) (l : List (Option PV)) (m : Nat -> AO) (k : Nat) : fnM n b args ⟨l, m, k⟩ = (sSeq b ⟨args.map some ++ List.replicate (n - args.length) none, m, k⟩).fin l:=by
 unfold fnM Res.fin
 try dsimp only
 all_goals (generalize sSeq b _ = x; cases x with
 | ok f s => cases f <;> rfl
 | exc => rfl
 | stuck => rfl)
theorem fin_nx (s : AS) (l : List (Option PV)) : (Res.ok Fl.nx s).fin l = .ok .none ⟨l, s.mem, s.nxt⟩:=rfl
theorem fin_rt (v : PV) (s : AS) (l : List (Option PV)) : (Res.ok (Fl.rt v) s).fin l = .ok v ⟨l, s.mem, s.nxt⟩:=rfl
theorem fin_exc (c : Nat) (s : AS) (l : List (Option PV)) : (Res.exc c s).fin l = .exc c ⟨l, s.mem, s.nxt⟩:=rfl
theorem post_fin {r : Res Fl} {l : List (Option PV)} {Q : PV -> AS -> Prop} {E : Nat -> AS -> Prop} (h : r.post (fun f s => match f with | .nx => Q .none ⟨l, s.mem, s.nxt⟩ | .rt v => Q v ⟨l, s.mem, s.nxt⟩) fun c s => E c ⟨l, s.mem, s.nxt⟩) : (r.fin l).post Q E:=by
 cases r with
 | ok f s => cases f <;> exact h
 | exc => exact h
 | stuck => exact h
section
variable (s : AS) (l : List (Option PV)) (m : Nat -> AO) (n : Nat)
noncomputable def Res.ofI (o : Option Int) (s : AS) : Res PV:=match o with
 | some z => .ok (.int z) s
 | none => .stuck "int op"
theorem ofI_some (z : Int) : Res.ofI (some z) s = .ok (.int z) s:=rfl
theorem ap_binI (op : Op) (x y : Int) : binM op (.int x) (.int y) s = Res.ofI (intOp op x y) s:=rfl
theorem ap_cmpI (c : Cm) (x y : Int) : cmpM c (.int x) (.int y) s = .ok (intCm c x y) s:=rfl
theorem ap_truthB (b : Bool) : truthM (.bool b) s = .ok b s:=rfl
noncomputable def Res.mth (o : AO) (C : Nat) (r : Res PV) : Res PV:=match o with
 | .inst D _ => if D = C then r else .stuck "method: class"
 | _ => .stuck "method: object"
theorem mth_inst (C : Nat) (fs : List (Nat × PV)) (r : Res PV) : Res.mth (.inst C fs) C r = r:=by unfold Res.mth; exact if_pos rfl
noncomputable def Res.gtf (o : AO) (k : Nat) (s : AS) : Res PV:=match o with
 | .inst _ fs => match getF k fs with
  | some u => .ok u s
  | none => .stuck "attribute"
 | _ => .stuck "attribute: object"
theorem ap_attr (k i : Nat) : attrM k (.ref i) ⟨l, m, n⟩ = Res.gtf (m i) k ⟨l, m, n⟩:=rfl
noncomputable def Res.stf (o : AO) (i k : Nat) (v : PV) (s : AS) : Res Unit:=match o with
 | .inst C fs => if (putF k v fs).length <= 900 then setO i (.inst C (putF k v fs)) s else .stuck "many fields"
 | _ => .stuck "store: object"
theorem ap_setAttr (k i : Nat) (v : PV) : setAttrM k (.ref i) v ⟨l, m, n⟩ = Res.stf (m i) i k v ⟨l, m, n⟩:=rfl
theorem ap_sRaise (C : Nat) : sRaise C s = .exc C s:=rfl
noncomputable def Res.it {α : Type} (o : Option α) (f : α -> PV) (s : AS) : Res PV:=match o with
 | some v => .ok (f v) s
 | none => .stuck "item"
theorem ap_eBytes (a : M PV) : eBytes a s = (a s).bd bytesM:=rfl
theorem ap_bytesB (bs : List UInt8) : bytesM (.byt bs) s = .ok (.byt bs) s:=rfl
theorem ap_eLen (a : M PV) : eLen a s = (a s).bd fLen:=rfl
theorem ap_eSum (a : M PV) : eSum a s = (a s).bd sumM:=rfl
theorem ap_eListOf (a : M PV) : eListOf a s = (a s).bd listOfM:=rfl
theorem ap_eRepr (a : M PV) : eRepr a s = (a s).bd reprM:=rfl
theorem ap_eRev (a : M PV) : eRev a s = (a s).bd revM:=rfl
theorem ap_eBarr : eBarr ⟨l, m, n⟩ = .ok (.ref n) ⟨l, upd m n (.barr []), n + 1⟩:=rfl
theorem ap_unpack (is : List Nat) (vs : List PV) : unpackM is (.tup vs) s = if vs.length = is.length then setLs is vs s else .stuck "unpack":=by
 show (if vs.length = is.length then setLs is vs else fun _ => Res.stuck "unpack") s = _
 split <;> rfl
noncomputable def Res.rg (o : Option (Int × Int × List Int)) (s : AS) : Res (List Int):=match o with
 | some r => .ok r.2.2 s
 | none => .stuck "range"
theorem rg_some (a b : Int) (ks : List Int) : Res.rg (some (a, b, ks)) s = .ok ks s:=rfl
theorem ap_sForV (tgt : PV -> M Unit) (e : M PV) (b : List S) : sForV tgt e b s = (e s).bd (forVM tgt (sSeq b)):=rfl
end
theorem zus (m : Nat -> AO) (i : Nat) (o : AO) : upd m i o i = o:=if_pos rfl
theorem zun {m : Nat -> AO} {i j : Nat} {o : AO} (h : j ≠ i) : upd m i o j = m j:=if_neg h
theorem i_add (a b : Int) : intOp .add a b = some (a + b):=rfl
theorem i_sub (a b : Int) : intOp .sub a b = some (a - b):=rfl
theorem i_mul {a b : Int} (h : a.natAbs < 2 ^ 64 \/ b.natAbs < 2 ^ 64) : intOp .mul a b = some (a * b):=if_pos h
theorem i_fdiv {a b : Int} (h : 0 < b) (h2 : b.natAbs < 2 ^ 2048) : intOp .fdiv a b = some (a / b):=by
 show (if b ≠ 0 /\ b.natAbs < 2 ^ 2048 then some (a.fdiv b) else none) = _
 rw [if_pos ⟨by lia, h2⟩, Int.fdiv_eq_ediv_of_nonneg _ (by lia)]
theorem i_mod {a b : Int} (h : 0 < b) : intOp .mod a b = some (a % b):=by
 show (if b ≠ 0 then some (a.fmod b) else none) = _
 rw [if_pos (by lia), Int.fmod_eq_emod_of_nonneg _ (by lia)]
theorem i_pow {a b : Int} (h : 0 <= b) (h2 : b <= 1000000) (h3 : a.natAbs < 2 ^ 64) : intOp .pow a b = some (a ^ b.toNat):=if_pos ⟨h, h2, h3⟩
theorem i_shl {a b : Int} (h : 0 <= b) (h2 : b <= 1000000) (h3 : a.natAbs < 2 ^ 64) : intOp .shl a b = some (a * 2 ^ b.toNat):=if_pos ⟨h, h2, h3⟩
theorem i_shr {a b : Int} (h : 0 <= b) : intOp .shr a b = some (a / 2 ^ b.toNat):=by
 show (if 0 <= b then some (a.fdiv (2 ^ b.toNat)) else none) = _
 rw [if_pos h, Int.fdiv_eq_ediv_of_nonneg _ (Int.le_of_lt (Int.pow_pos (by decide)))]
theorem i_band (a b : Int) : intOp .band a b = some (Builtin.bitAnd a b):=rfl
theorem i_bor (a b : Int) : intOp .bor a b = some (Builtin.bitOr a b):=rfl
theorem band255 (x : Int) : Builtin.bitAnd x 255 = x % 256:=bitAnd_m8 x
theorem band1 (x : Int) : Builtin.bitAnd x 1 = x % 2:=bitAnd_m1 x
theorem bandM {x : Int} (h : 0 <= x) : Builtin.bitAnd x 16777215 = x % 16777216:=by
 rw [bitAnd_pp h (by decide)]
 have : x.toNat &&& (16777215 : Int).toNat = x.toNat % 16777216:=Nat.and_two_pow_sub_one_eq_mod x.toNat 24
 rw [this, Int.natCast_emod, Int.toNat_of_nonneg h]; rfl
theorem bor_add {a b : Int} {n : Nat} (ha : 0 <= a) (hb : 0 <= b) (hb2 : b < 2 ^ n) : Builtin.bitOr (a * 2 ^ n) b = a * 2 ^ n + b:=by
 have hp : (0 : Int) < 2 ^ n:=Int.pow_pos (by decide)
 rw [bitOr_and, bitAnd_pp (Int.mul_nonneg ha (Int.le_of_lt hp)) hb]
 have e1 : (a * 2 ^ n).toNat = a.toNat * 2 ^ n:=by
  rw [Int.toNat_mul ha (Int.le_of_lt hp), Int.toNat_pow_of_nonneg (by decide)]; rfl
 have e2 : b.toNat < 2 ^ n:=by
  have : ((b.toNat : Nat) : Int) < ((2 ^ n : Nat) : Int):=by push_cast; lia
  exact Int.ofNat_lt.mp this
 have : a.toNat * 2 ^ n &&& b.toNat = 0:=by
  apply Nat.eq_of_testBit_eq
  intro i
  rw [Nat.testBit_and, Nat.zero_testBit, Nat.testBit_mul_two_pow]
  by_cases h : n <= i
  ·rw [Nat.testBit_lt_two_pow (yK e2 (Nat.pow_le_pow_right (by decide) h))]; simp
  ·simp [h]
 rw [e1, this]
 lia
noncomputable def evs2 (v : PV) (vs : List PV) : M (List PV):=ret (v :: vs)
noncomputable def evs1 (r : List (M PV)) (v : PV) : M (List PV):=fun s => (evs r s).bd (evs2 v)
noncomputable def binK1 (op : Op) (b : M PV) (x : PV) : M PV:=fun s => (b s).bd (binM op x)
noncomputable def cmpK1 (c : Cm) (b : M PV) (x : PV) : M Bool:=fun s => (b s).bd (cmpM c x)
noncomputable def negK (x : PV) : M PV:=match x with
 | .int i => ret (.int (-i))
 | _ => fun _ => .stuck "neg"
noncomputable def isNK (x : PV) : M Bool:=ret (isN x)
noncomputable def ninK (l : List Int) (x : PV) : M Bool:=match x with
 | .int i => ret (!l.contains i)
 | _ => fun _ => .stuck "in"
noncomputable def notK (b : Bool) : M Bool:=ret (!b)
noncomputable def ifK {α : Type} (a b : M α) (c : Bool) : M α:=if c then a else b
noncomputable def boolK (b : Bool) : M PV:=ret (.bool b)
noncomputable def intK (b : Bool) : M PV:=ret (.int (if b then 1 else 0))
noncomputable def chn2 (x : PV) (c c' : Cm) (b' : M PV) (r : List (Cm × M PV)) (y : PV) : M Bool:=fun s => (cmpM c x y s).bd (ifK (tChain.go y c' b' r) (ret false))
noncomputable def chn1 (c : Cm) (b : M PV) (r : List (Cm × M PV)) (x : PV) : M Bool:=tChain.go x c b r
noncomputable def mthK (C : Nat) (F : List PV -> M PV) (args : List (M PV)) (v : PV) : M PV:=fun s => match v with
 | .ref i => match s.mem i with
  | .inst D _ => if D = C then bnd (evs args) (fun vs => F (v :: vs)) s else .stuck "method: class"
  | _ => .stuck "method: object"
 | _ => .stuck "method"
noncomputable def mthC (F : List PV -> M PV) (v : PV) (vs : List PV) : M PV:=F (v :: vs)
noncomputable def newC (r : PV) (x : PV) : M PV:=match x with
 | .none => ret r
 | _ => fun _ => .stuck "__init__"
noncomputable def newK (C : Nat) (F : List PV -> M PV) (vs : List PV) : M PV:=fun s => (F (.ref s.nxt :: vs) ⟨s.loc, upd s.mem s.nxt (.inst C []), s.nxt + 1⟩).bd (newC (.ref s.nxt))
noncomputable def nxK {α : Type} (_ : α) : S:=nx
noncomputable def asgK (i : Nat) (v : PV) : S:=fun s => (setL i v s).bd nxK
noncomputable def asA2 (k : Nat) (v x : PV) : S:=fun s => (setAttrM k x v s).bd nxK
noncomputable def asA1 (o : M PV) (k : Nat) (v : PV) : S:=fun s => (o s).bd (asA2 k v)
noncomputable def aug2 (i : Nat) (op : Op) (x y : PV) : S:=fun s => (augM op x y s).bd (asgK i)
noncomputable def aug1 (i : Nat) (op : Op) (e : M PV) (x : PV) : S:=fun s => (e s).bd (aug2 i op x)
noncomputable def auA4 (k : Nat) (ob v : PV) : S:=fun s => (setAttrM k ob v s).bd nxK
noncomputable def auA3 (k : Nat) (op : Op) (ob x y : PV) : S:=fun s => (augM op x y s).bd (auA4 k ob)
noncomputable def auA2 (k : Nat) (op : Op) (e : M PV) (ob x : PV) : S:=fun s => (e s).bd (auA3 k op ob x)
noncomputable def auA1 (k : Nat) (op : Op) (e : M PV) (ob : PV) : S:=fun s => (attrM k ob s).bd (auA2 k op e ob)
noncomputable def seqK (r : List S) (f : Fl) : S:=match f with
 | .nx => sSeq r
 | .rt v => ret (.rt v)
noncomputable def retK (v : PV) : S:=ret (.rt v)
noncomputable def drpK (v : PV) : S:=match v with
 | .ref _ => fun _ => .stuck "a dropped object"
 | .tup _ => fun _ => .stuck "a dropped object"
 | .ints _ => fun _ => .stuck "a dropped object"
 | _ => nx
noncomputable def subK1 (b : M PV) (x : PV) : M PV:=fun s => (b s).bd (subM x)
noncomputable def tupK (vs : List PV) : M PV:=ret (.tup vs)
noncomputable def lstK (vs : List PV) : M PV:=newO (.list vs)
noncomputable def asS3 (x v y : PV) : S:=fun s => (setSubM x y v s).bd nxK
noncomputable def asS2 (b : M PV) (v x : PV) : S:=fun s => (b s).bd (asS3 x v)
noncomputable def asS1 (a b : M PV) (v : PV) : S:=fun s => (a s).bd (asS2 b v)
noncomputable def apL2 (v : PV) (x : M PV) (_ : Unit) : M PV:=fun s => (x s).bd (appendLM v)
noncomputable def apL1 (x : M PV) (v : PV) : M PV:=fun s => (isListM v s).bd (apL2 v x)
noncomputable def apB2 (v : PV) (x : M PV) (_ : Unit) : M PV:=fun s => (x s).bd (appendBM v)
noncomputable def apB1 (x : M PV) (v : PV) : M PV:=fun s => (isBarrM v s).bd (apB2 v x)
noncomputable def exB2 (v : PV) (x : M PV) (_ : Unit) : M PV:=fun s => (x s).bd (extendM v)
noncomputable def exB1 (x : M PV) (v : PV) : M PV:=fun s => (isBarrM v s).bd (exB2 v x)
noncomputable def minK1 (b : M PV) (x : PV) : M PV:=fun s => (b s).bd (minM x)
noncomputable def maxK1 (b : M PV) (x : PV) : M PV:=fun s => (b s).bd (maxM x)
noncomputable def swpK (is : List Nat) (vs : List PV) : S:=fun s => (setLs is.reverse vs.reverse s).bd nxK
noncomputable def unpK (is : List Nat) (v : PV) : S:=fun s => (unpackM is v s).bd nxK
noncomputable def stsK (is : List Nat) (vs : List PV) (_ : Unit) : M Unit:=setLs is vs
noncomputable def whl2 (t : M Bool) (a : List S) (k : Nat) (f : Fl) : S:=match f with
 | .nx => sWhile t a k
 | .rt v => ret (.rt v)
noncomputable def whl1 (t : M Bool) (a : List S) (k : Nat) : S:=fun s => (sSeq a s).bd (whl2 t a k)
noncomputable def rgK (vs : List PV) : M (List Int):=fun s => Res.rg (rangeK vs) s
noncomputable def forK (i : Nat) (b : List S) (ks : List Int) : S:=forL (setL i) (sSeq b) (ks.map .int)
section
variable {a b c d e f g h i j k o p q r u w x : Option PV} {v : PV} (l : List (Option PV)) (m : Nat -> AO) (n : Nat)
theorem Zg0 : eL 0 ⟨some v::l,m,n⟩ = .ok v ⟨some v::l,m,n⟩:=rfl
theorem Zg1 : eL 1 ⟨a::some v::l,m,n⟩ = .ok v ⟨a::some v::l,m,n⟩:=rfl
theorem Zg2 : eL 2 ⟨a::b::some v::l,m,n⟩ = .ok v ⟨a::b::some v::l,m,n⟩:=rfl
theorem Zg3 : eL 3 ⟨a::b::c::some v::l,m,n⟩ = .ok v ⟨a::b::c::some v::l,m,n⟩:=rfl
theorem Zg4 : eL 4 ⟨a::b::c::d::some v::l,m,n⟩ = .ok v ⟨a::b::c::d::some v::l,m,n⟩:=rfl
theorem Zg5 : eL 5 ⟨a::b::c::d::e::some v::l,m,n⟩ = .ok v ⟨a::b::c::d::e::some v::l,m,n⟩:=rfl
theorem Zg6 : eL 6 ⟨a::b::c::d::e::f::some v::l,m,n⟩ = .ok v ⟨a::b::c::d::e::f::some v::l,m,n⟩:=rfl
theorem Zg7 : eL 7 ⟨a::b::c::d::e::f::g::some v::l,m,n⟩ = .ok v ⟨a::b::c::d::e::f::g::some v::l,m,n⟩:=rfl
theorem Zg8 : eL 8 ⟨a::b::c::d::e::f::g::h::some v::l,m,n⟩ = .ok v ⟨a::b::c::d::e::f::g::h::some v::l,m,n⟩:=rfl
theorem Zg9 : eL 9 ⟨a::b::c::d::e::f::g::h::i::some v::l,m,n⟩ = .ok v ⟨a::b::c::d::e::f::g::h::i::some v::l,m,n⟩:=rfl
theorem Zg10 : eL 10 ⟨a::b::c::d::e::f::g::h::i::j::some v::l,m,n⟩ = .ok v ⟨a::b::c::d::e::f::g::h::i::j::some v::l,m,n⟩:=rfl
theorem Zg11 : eL 11 ⟨a::b::c::d::e::f::g::h::i::j::k::some v::l,m,n⟩ = .ok v ⟨a::b::c::d::e::f::g::h::i::j::k::some v::l,m,n⟩:=rfl
theorem Zg12 : eL 12 ⟨a::b::c::d::e::f::g::h::i::j::k::o::some v::l,m,n⟩ = .ok v ⟨a::b::c::d::e::f::g::h::i::j::k::o::some v::l,m,n⟩:=rfl
theorem Zg13 : eL 13 ⟨a::b::c::d::e::f::g::h::i::j::k::o::p::some v::l,m,n⟩ = .ok v ⟨a::b::c::d::e::f::g::h::i::j::k::o::p::some v::l,m,n⟩:=rfl
theorem Zg14 : eL 14 ⟨a::b::c::d::e::f::g::h::i::j::k::o::p::q::some v::l,m,n⟩ = .ok v ⟨a::b::c::d::e::f::g::h::i::j::k::o::p::q::some v::l,m,n⟩:=rfl
theorem Zg15 : eL 15 ⟨a::b::c::d::e::f::g::h::i::j::k::o::p::q::r::some v::l,m,n⟩ = .ok v ⟨a::b::c::d::e::f::g::h::i::j::k::o::p::q::r::some v::l,m,n⟩:=rfl
theorem Zg16 : eL 16 ⟨a::b::c::d::e::f::g::h::i::j::k::o::p::q::r::u::some v::l,m,n⟩ = .ok v ⟨a::b::c::d::e::f::g::h::i::j::k::o::p::q::r::u::some v::l,m,n⟩:=rfl
theorem Zg17 : eL 17 ⟨a::b::c::d::e::f::g::h::i::j::k::o::p::q::r::u::w::some v::l,m,n⟩ = .ok v ⟨a::b::c::d::e::f::g::h::i::j::k::o::p::q::r::u::w::some v::l,m,n⟩:=rfl
theorem Zt1 : asgK 1 v ⟨a::b::l,m,n⟩ = .ok .nx ⟨a::some v::l,m,n⟩:=rfl
theorem Zt2 : asgK 2 v ⟨a::b::c::l,m,n⟩ = .ok .nx ⟨a::b::some v::l,m,n⟩:=rfl
theorem Zt3 : asgK 3 v ⟨a::b::c::d::l,m,n⟩ = .ok .nx ⟨a::b::c::some v::l,m,n⟩:=rfl
theorem Zt4 : asgK 4 v ⟨a::b::c::d::e::l,m,n⟩ = .ok .nx ⟨a::b::c::d::some v::l,m,n⟩:=rfl
theorem Zt5 : asgK 5 v ⟨a::b::c::d::e::f::l,m,n⟩ = .ok .nx ⟨a::b::c::d::e::some v::l,m,n⟩:=rfl
theorem Zt6 : asgK 6 v ⟨a::b::c::d::e::f::g::l,m,n⟩ = .ok .nx ⟨a::b::c::d::e::f::some v::l,m,n⟩:=rfl
theorem Zt7 : asgK 7 v ⟨a::b::c::d::e::f::g::h::l,m,n⟩ = .ok .nx ⟨a::b::c::d::e::f::g::some v::l,m,n⟩:=rfl
theorem Zt9 : asgK 9 v ⟨a::b::c::d::e::f::g::h::i::j::l,m,n⟩ = .ok .nx ⟨a::b::c::d::e::f::g::h::i::some v::l,m,n⟩:=rfl
theorem Zt10 : asgK 10 v ⟨a::b::c::d::e::f::g::h::i::j::k::l,m,n⟩ = .ok .nx ⟨a::b::c::d::e::f::g::h::i::j::some v::l,m,n⟩:=rfl
theorem Zt11 : asgK 11 v ⟨a::b::c::d::e::f::g::h::i::j::k::o::l,m,n⟩ = .ok .nx ⟨a::b::c::d::e::f::g::h::i::j::k::some v::l,m,n⟩:=rfl
theorem Zt13 : asgK 13 v ⟨a::b::c::d::e::f::g::h::i::j::k::o::p::q::l,m,n⟩ = .ok .nx ⟨a::b::c::d::e::f::g::h::i::j::k::o::p::some v::l,m,n⟩:=rfl
theorem Zt15 : asgK 15 v ⟨a::b::c::d::e::f::g::h::i::j::k::o::p::q::r::u::l,m,n⟩ = .ok .nx ⟨a::b::c::d::e::f::g::h::i::j::k::o::p::q::r::some v::l,m,n⟩:=rfl
theorem Zt16 : asgK 16 v ⟨a::b::c::d::e::f::g::h::i::j::k::o::p::q::r::u::w::l,m,n⟩ = .ok .nx ⟨a::b::c::d::e::f::g::h::i::j::k::o::p::q::r::u::some v::l,m,n⟩:=rfl
theorem Zu1 : setL 1 v ⟨a::b::l,m,n⟩ = .ok () ⟨a::some v::l,m,n⟩:=rfl
theorem Zu2 : setL 2 v ⟨a::b::c::l,m,n⟩ = .ok () ⟨a::b::some v::l,m,n⟩:=rfl
theorem Zu3 : setL 3 v ⟨a::b::c::d::l,m,n⟩ = .ok () ⟨a::b::c::some v::l,m,n⟩:=rfl
theorem Zu4 : setL 4 v ⟨a::b::c::d::e::l,m,n⟩ = .ok () ⟨a::b::c::d::some v::l,m,n⟩:=rfl
theorem Zu5 : setL 5 v ⟨a::b::c::d::e::f::l,m,n⟩ = .ok () ⟨a::b::c::d::e::some v::l,m,n⟩:=rfl
theorem Zu6 : setL 6 v ⟨a::b::c::d::e::f::g::l,m,n⟩ = .ok () ⟨a::b::c::d::e::f::some v::l,m,n⟩:=rfl
theorem Zu7 : setL 7 v ⟨a::b::c::d::e::f::g::h::l,m,n⟩ = .ok () ⟨a::b::c::d::e::f::g::some v::l,m,n⟩:=rfl
theorem Zu8 : setL 8 v ⟨a::b::c::d::e::f::g::h::i::l,m,n⟩ = .ok () ⟨a::b::c::d::e::f::g::h::some v::l,m,n⟩:=rfl
theorem Zu9 : setL 9 v ⟨a::b::c::d::e::f::g::h::i::j::l,m,n⟩ = .ok () ⟨a::b::c::d::e::f::g::h::i::some v::l,m,n⟩:=rfl
theorem Zu11 : setL 11 v ⟨a::b::c::d::e::f::g::h::i::j::k::o::l,m,n⟩ = .ok () ⟨a::b::c::d::e::f::g::h::i::j::k::some v::l,m,n⟩:=rfl
theorem Zu12 : setL 12 v ⟨a::b::c::d::e::f::g::h::i::j::k::o::p::l,m,n⟩ = .ok () ⟨a::b::c::d::e::f::g::h::i::j::k::o::some v::l,m,n⟩:=rfl
theorem Zu13 : setL 13 v ⟨a::b::c::d::e::f::g::h::i::j::k::o::p::q::l,m,n⟩ = .ok () ⟨a::b::c::d::e::f::g::h::i::j::k::o::p::some v::l,m,n⟩:=rfl
theorem Zu14 : setL 14 v ⟨a::b::c::d::e::f::g::h::i::j::k::o::p::q::r::l,m,n⟩ = .ok () ⟨a::b::c::d::e::f::g::h::i::j::k::o::p::q::some v::l,m,n⟩:=rfl
theorem Zu17 : setL 17 v ⟨a::b::c::d::e::f::g::h::i::j::k::o::p::q::r::u::w::x::l,m,n⟩ = .ok () ⟨a::b::c::d::e::f::g::h::i::j::k::o::p::q::r::u::w::some v::l,m,n⟩:=rfl
end
section
variable (s : AS) (l : List (Option PV)) (m : Nat -> AO) (n : Nat)
theorem Zq1 {α : Type} (a : α) : ret a s = .ok a s:=rfl
theorem Zq2 (v : PV) : eK v s = .ok v s:=rfl
theorem Zq3 : evs ([] : List (M PV)) s = .ok [] s:=rfl
theorem Zq4 (a : M PV) (r : List (M PV)) : evs (a :: r) s = (a s).bd (evs1 r):=rfl
theorem Zq5 (r : List (M PV)) (v : PV) : evs1 r v s = (evs r s).bd (evs2 v):=rfl
theorem Zq6 (v : PV) (vs : List PV) : evs2 v vs s = .ok (v :: vs) s:=rfl
theorem Zq7 (op : Op) (a b : M PV) : eBin op a b s = (a s).bd (binK1 op b):=rfl
theorem Zq8 (op : Op) (b : M PV) (x : PV) : binK1 op b x s = (b s).bd (binM op x):=rfl
theorem Zq9 (a : M PV) : eNeg a s = (a s).bd negK:=rfl
theorem Zq10 (i : Int) : negK (.int i) s = .ok (.int (-i)) s:=rfl
theorem Zq11 (c : Cm) (a b : M PV) : tCmp c a b s = (a s).bd (cmpK1 c b):=rfl
theorem Zq12 (c : Cm) (b : M PV) (x : PV) : cmpK1 c b x s = (b s).bd (cmpM c x):=rfl
theorem Zq13 (a : M PV) : tIsNone a s = (a s).bd isNK:=rfl
theorem Zq14 (x : PV) : isNK x s = .ok (isN x) s:=rfl
theorem Zq15 (a : M PV) (xs : List Int) : tNotIn a xs s = (a s).bd (ninK xs):=rfl
theorem Zq16 (xs : List Int) (i : Int) : ninK xs (.int i) s = .ok (!xs.contains i) s:=rfl
theorem Zq17 (a : M PV) : tVal a s = (a s).bd truthM:=rfl
theorem Zq18 (a : M Bool) : tNot a s = (a s).bd notK:=rfl
theorem Zq19 (b : Bool) : notK b s = .ok (!b) s:=rfl
theorem Zq20 (a b : M Bool) : tAnd a b s = (a s).bd (ifK b (ret false)):=rfl
theorem Zq21 (a b : M Bool) : tOr a b s = (a s).bd (ifK (ret true) b):=rfl
theorem Zq22 (t : M Bool) : eB t s = (t s).bd boolK:=rfl
theorem Zq23 (b : Bool) : boolK b s = .ok (.bool b) s:=rfl
theorem Zq24 (t : M Bool) : eIntB t s = (t s).bd intK:=rfl
theorem Zq25 (b : Bool) : intK b s = .ok (.int (if b = true then 1 else 0)) s:=rfl
theorem Zq26 (t : M Bool) (a b : M PV) : eIf t a b s = (t s).bd (ifK a b):=rfl
theorem Zq29 (a : M PV) (c : Cm) (b : M PV) (r : List (Cm × M PV)) : tChain a ((c, b) :: r) s = (a s).bd (chn1 c b r):=rfl
theorem Zq30 (c : Cm) (b : M PV) (r : List (Cm × M PV)) (x : PV) : chn1 c b r x s = tChain.go x c b r s:=rfl
theorem Zq31 (c : Cm) (b : M PV) (x : PV) : tChain.go x c b [] s = (b s).bd (cmpM c x):=rfl
theorem Zq32 (c c' : Cm) (b b' : M PV) (r : List (Cm × M PV)) (x : PV) : tChain.go x c b ((c', b') :: r) s = (b s).bd (chn2 x c c' b' r):=rfl
theorem Zq33 (c c' : Cm) (b' : M PV) (r : List (Cm × M PV)) (x y : PV) : chn2 x c c' b' r y s = (cmpM c x y s).bd (ifK (tChain.go y c' b' r) (ret false)):=rfl
theorem Zq34 (F : List PV -> M PV) (as : List (M PV)) : eCall F as s = (evs as s).bd F:=rfl
theorem Zq35 (C : Nat) (F : List PV -> M PV) (o : M PV) (as : List (M PV)) : eMeth C F o as s = (o s).bd (mthK C F as):=rfl
theorem Zq36 (C : Nat) (F : List PV -> M PV) (as : List (M PV)) (i : Nat) : mthK C F as (.ref i) ⟨l, m, n⟩ = Res.mth (m i) C ((evs as ⟨l, m, n⟩).bd (mthC F (.ref i))):=rfl
theorem Zq37 (F : List PV -> M PV) (v : PV) (vs : List PV) : mthC F v vs s = F (v :: vs) s:=rfl
theorem Zq38 (C : Nat) (F : List PV -> M PV) (as : List (M PV)) : eNew C F as s = (evs as s).bd (newK C F):=rfl
theorem Zq39 (C : Nat) (F : List PV -> M PV) (vs : List PV) : newK C F vs ⟨l, m, n⟩ = (F (.ref n :: vs) ⟨l, upd m n (.inst C []), n + 1⟩).bd (newC (.ref n)):=rfl
theorem Zq40 (r : PV) : newC r .none s = .ok r s:=rfl
theorem Zq41 (o : M PV) (k : Nat) : eAttr o k s = (o s).bd (attrM k):=rfl
theorem Zq42 (i : Nat) (e : M PV) : sAsg i e s = (e s).bd (asgK i):=rfl
theorem Zq43 {α : Type} (a : α) : nxK a s = .ok .nx s:=rfl
theorem Zq44 (o e : M PV) (k : Nat) : sAsgA o k e s = (e s).bd (asA1 o k):=rfl
theorem Zq45 (o : M PV) (k : Nat) (v : PV) : asA1 o k v s = (o s).bd (asA2 k v):=rfl
theorem Zq46 (k : Nat) (v x : PV) : asA2 k v x s = (setAttrM k x v s).bd nxK:=rfl
theorem Zq47 (i : Nat) (op : Op) (e : M PV) : sAug i op e s = (eL i s).bd (aug1 i op e):=rfl
theorem Zq48 (i : Nat) (op : Op) (e : M PV) (x : PV) : aug1 i op e x s = (e s).bd (aug2 i op x):=rfl
theorem Zq49 (i : Nat) (op : Op) (x y : Int) : aug2 i op (.int x) (.int y) s = (Res.ofI (intOp op x y) s).bd (asgK i):=rfl
theorem Zq50 (o e : M PV) (k : Nat) (op : Op) : sAugA o k op e s = (o s).bd (auA1 k op e):=rfl
theorem Zq51 (k : Nat) (op : Op) (e : M PV) (ob : PV) : auA1 k op e ob s = (attrM k ob s).bd (auA2 k op e ob):=rfl
theorem Zq52 (k : Nat) (op : Op) (e : M PV) (ob x : PV) : auA2 k op e ob x s = (e s).bd (auA3 k op ob x):=rfl
theorem Zq53 (k : Nat) (op : Op) (ob : PV) (x y : Int) : auA3 k op ob (.int x) (.int y) s = (Res.ofI (intOp op x y) s).bd (auA4 k ob):=rfl
theorem Zq54 (k : Nat) (ob v : PV) : auA4 k ob v s = (setAttrM k ob v s).bd nxK:=rfl
theorem Zq55 (t : M Bool) (a b : List S) : sIf t a b s = (t s).bd (ifK (sSeq a) (sSeq b)):=rfl
theorem Zq56 : sSeq [] s = .ok .nx s:=rfl
theorem Zq57 (a : S) (r : List S) : sSeq (a :: r) s = (a s).bd (seqK r):=rfl
theorem Zq58 (r : List S) : seqK r .nx s = sSeq r s:=rfl
theorem Zq59 (r : List S) (v : PV) : seqK r (.rt v) s = .ok (.rt v) s:=rfl
theorem Zq60 (e : M PV) : sRet e s = (e s).bd retK:=rfl
theorem Zq61 (v : PV) : retK v s = .ok (.rt v) s:=rfl
theorem Zq62 (e : M PV) : sExp e s = (e s).bd drpK:=rfl
theorem Zq63 : drpK .none s = .ok .nx s:=rfl
theorem Zq65 (a b : M PV) : eSub a b s = (a s).bd (subK1 b):=rfl
theorem Zq66 (b : M PV) (x : PV) : subK1 b x s = (b s).bd (subM x):=rfl
theorem Zq67 (es : List (M PV)) : eTup es s = (evs es s).bd tupK:=rfl
theorem Zq68 (vs : List PV) : tupK vs s = .ok (.tup vs) s:=rfl
theorem Zq69 (es : List (M PV)) : eList es s = (evs es s).bd lstK:=rfl
theorem Zq70 (vs : List PV) : lstK vs ⟨l, m, n⟩ = .ok (.ref n) ⟨l, upd m n (.list vs), n + 1⟩:=rfl
theorem Zq71 (a b e : M PV) : sAsgS a b e s = (e s).bd (asS1 a b):=rfl
theorem Zq72 (a b : M PV) (v : PV) : asS1 a b v s = (a s).bd (asS2 b v):=rfl
theorem Zq73 (b : M PV) (v x : PV) : asS2 b v x s = (b s).bd (asS3 x v):=rfl
theorem Zq74 (x v y : PV) : asS3 x v y s = (setSubM x y v s).bd nxK:=rfl
theorem Zq75 (o x : M PV) : eAppendL o x s = (o s).bd (apL1 x):=rfl
theorem Zq76 (x : M PV) (v : PV) : apL1 x v s = (isListM v s).bd (apL2 v x):=rfl
theorem Zq77 (x : M PV) (v : PV) (a : Unit) : apL2 v x a s = (x s).bd (appendLM v):=rfl
theorem Zq78 (o x : M PV) : eAppendB o x s = (o s).bd (apB1 x):=rfl
theorem Zq79 (x : M PV) (v : PV) : apB1 x v s = (isBarrM v s).bd (apB2 v x):=rfl
theorem Zq80 (x : M PV) (v : PV) (a : Unit) : apB2 v x a s = (x s).bd (appendBM v):=rfl
theorem Zq81 (o x : M PV) : eExtendB o x s = (o s).bd (exB1 x):=rfl
theorem Zq82 (x : M PV) (v : PV) : exB1 x v s = (isBarrM v s).bd (exB2 v x):=rfl
theorem Zq83 (x : M PV) (v : PV) (a : Unit) : exB2 v x a s = (x s).bd (extendM v):=rfl
theorem Zq84 (a b : M PV) : eMin a b s = (a s).bd (minK1 b):=rfl
theorem Zq85 (b : M PV) (x : PV) : minK1 b x s = (b s).bd (minM x):=rfl
theorem Zq86 (a b : M PV) : eMax a b s = (a s).bd (maxK1 b):=rfl
theorem Zq87 (b : M PV) (x : PV) : maxK1 b x s = (b s).bd (maxM x):=rfl
theorem Zq88 (is : List Nat) (es : List (M PV)) : sSwap is es s = (evs es s).bd (swpK is):=rfl
theorem Zq89 (is : List Nat) (vs : List PV) : swpK is vs s = (setLs is.reverse vs.reverse s).bd nxK:=rfl
theorem Zq90 : setLs [] [] s = .ok () s:=rfl
theorem Zq91 (i : Nat) (is : List Nat) (v : PV) (vs : List PV) : setLs (i :: is) (v :: vs) s = (setL i v s).bd (stsK is vs):=rfl
theorem Zq92 (is : List Nat) (vs : List PV) (a : Unit) : stsK is vs a s = setLs is vs s:=rfl
theorem Zq93 (is : List Nat) (e : M PV) : sUnp is e s = (e s).bd (unpK is):=rfl
theorem Zq94 (is : List Nat) (v : PV) : unpK is v s = (unpackM is v s).bd nxK:=rfl
theorem Zq95 (as : List (M PV)) : rangeM as s = (evs as s).bd rgK:=rfl
theorem Zq96 (vs : List PV) : rgK vs s = Res.rg (rangeK vs) s:=rfl
theorem Zq97 (i : Nat) (as : List (M PV)) (b : List S) : sForR i as b s = (rangeM as s).bd (forK i b):=rfl
theorem Zq98 (i : Nat) (b : List S) (ks : List Int) : forK i b ks s = forL (setL i) (sSeq b) (ks.map .int) s:=rfl
theorem Za199_6 {a b c d e f : PV} : Res.gtf (.inst 199 [(6, a), (7, b), (8, c), (9, d), (2, e), (10, f)]) 6 s = .ok a s:=rfl
theorem Za199_7 {a b c d e f : PV} : Res.gtf (.inst 199 [(6, a), (7, b), (8, c), (9, d), (2, e), (10, f)]) 7 s = .ok b s:=rfl
theorem Za199_8 {a b c d e f : PV} : Res.gtf (.inst 199 [(6, a), (7, b), (8, c), (9, d), (2, e), (10, f)]) 8 s = .ok c s:=rfl
theorem Za199_9 {a b c d e f : PV} : Res.gtf (.inst 199 [(6, a), (7, b), (8, c), (9, d), (2, e), (10, f)]) 9 s = .ok d s:=rfl
theorem Zb199_9 {a b c d e f v : PV} {i : Nat} : Res.stf (.inst 199 [(6, a), (7, b), (8, c), (9, d), (2, e), (10, f)]) i 9 v ⟨l, m, n⟩ = .ok () ⟨l, upd m i (.inst 199 [(6, a), (7, b), (8, c), (9, v), (2, e), (10, f)]), n⟩:=rfl
theorem Za199_2 {a b c d e f : PV} : Res.gtf (.inst 199 [(6, a), (7, b), (8, c), (9, d), (2, e), (10, f)]) 2 s = .ok e s:=rfl
theorem Zb199_2 {a b c d e f v : PV} {i : Nat} : Res.stf (.inst 199 [(6, a), (7, b), (8, c), (9, d), (2, e), (10, f)]) i 2 v ⟨l, m, n⟩ = .ok () ⟨l, upd m i (.inst 199 [(6, a), (7, b), (8, c), (9, d), (2, v), (10, f)]), n⟩:=rfl
theorem Za199_10 {a b c d e f : PV} : Res.gtf (.inst 199 [(6, a), (7, b), (8, c), (9, d), (2, e), (10, f)]) 10 s = .ok f s:=rfl
theorem Zb199_10 {a b c d e f v : PV} {i : Nat} : Res.stf (.inst 199 [(6, a), (7, b), (8, c), (9, d), (2, e), (10, f)]) i 10 v ⟨l, m, n⟩ = .ok () ⟨l, upd m i (.inst 199 [(6, a), (7, b), (8, c), (9, d), (2, e), (10, v)]), n⟩:=rfl
theorem Zc199_0 {v : PV} {i : Nat} : Res.stf (.inst 199 []) i 6 v ⟨l, m, n⟩ = .ok () ⟨l, upd m i (.inst 199 [(6, v)]), n⟩:=rfl
theorem Zc199_1 {a : PV} {v : PV} {i : Nat} : Res.stf (.inst 199 [(6, a)]) i 7 v ⟨l, m, n⟩ = .ok () ⟨l, upd m i (.inst 199 [(6, a), (7, v)]), n⟩:=rfl
theorem Zc199_2 {a b : PV} {v : PV} {i : Nat} : Res.stf (.inst 199 [(6, a), (7, b)]) i 8 v ⟨l, m, n⟩ = .ok () ⟨l, upd m i (.inst 199 [(6, a), (7, b), (8, v)]), n⟩:=rfl
theorem Zc199_3 {a b c : PV} {v : PV} {i : Nat} : Res.stf (.inst 199 [(6, a), (7, b), (8, c)]) i 9 v ⟨l, m, n⟩ = .ok () ⟨l, upd m i (.inst 199 [(6, a), (7, b), (8, c), (9, v)]), n⟩:=rfl
theorem Zc199_4 {a b c d : PV} {v : PV} {i : Nat} : Res.stf (.inst 199 [(6, a), (7, b), (8, c), (9, d)]) i 2 v ⟨l, m, n⟩ = .ok () ⟨l, upd m i (.inst 199 [(6, a), (7, b), (8, c), (9, d), (2, v)]), n⟩:=rfl
theorem Zc199_5 {a b c d e : PV} {v : PV} {i : Nat} : Res.stf (.inst 199 [(6, a), (7, b), (8, c), (9, d), (2, e)]) i 10 v ⟨l, m, n⟩ = .ok () ⟨l, upd m i (.inst 199 [(6, a), (7, b), (8, c), (9, d), (2, e), (10, v)]), n⟩:=rfl
theorem Zh199 {fs : List (Nat × PV)} {r : Res PV} : Res.mth (.inst 199 fs) 199 r = r:=rfl
theorem Za283_0 {a b c d e f : PV} : Res.gtf (.inst 283 [(0, a), (1, b), (2, c), (3, d), (4, e), (5, f)]) 0 s = .ok a s:=rfl
theorem Za283_1 {a b c d e f : PV} : Res.gtf (.inst 283 [(0, a), (1, b), (2, c), (3, d), (4, e), (5, f)]) 1 s = .ok b s:=rfl
theorem Zb283_1 {a b c d e f v : PV} {i : Nat} : Res.stf (.inst 283 [(0, a), (1, b), (2, c), (3, d), (4, e), (5, f)]) i 1 v ⟨l, m, n⟩ = .ok () ⟨l, upd m i (.inst 283 [(0, a), (1, v), (2, c), (3, d), (4, e), (5, f)]), n⟩:=rfl
theorem Za283_2 {a b c d e f : PV} : Res.gtf (.inst 283 [(0, a), (1, b), (2, c), (3, d), (4, e), (5, f)]) 2 s = .ok c s:=rfl
theorem Zb283_2 {a b c d e f v : PV} {i : Nat} : Res.stf (.inst 283 [(0, a), (1, b), (2, c), (3, d), (4, e), (5, f)]) i 2 v ⟨l, m, n⟩ = .ok () ⟨l, upd m i (.inst 283 [(0, a), (1, b), (2, v), (3, d), (4, e), (5, f)]), n⟩:=rfl
theorem Za283_3 {a b c d e f : PV} : Res.gtf (.inst 283 [(0, a), (1, b), (2, c), (3, d), (4, e), (5, f)]) 3 s = .ok d s:=rfl
theorem Zb283_3 {a b c d e f v : PV} {i : Nat} : Res.stf (.inst 283 [(0, a), (1, b), (2, c), (3, d), (4, e), (5, f)]) i 3 v ⟨l, m, n⟩ = .ok () ⟨l, upd m i (.inst 283 [(0, a), (1, b), (2, c), (3, v), (4, e), (5, f)]), n⟩:=rfl
theorem Za283_4 {a b c d e f : PV} : Res.gtf (.inst 283 [(0, a), (1, b), (2, c), (3, d), (4, e), (5, f)]) 4 s = .ok e s:=rfl
theorem Zb283_4 {a b c d e f v : PV} {i : Nat} : Res.stf (.inst 283 [(0, a), (1, b), (2, c), (3, d), (4, e), (5, f)]) i 4 v ⟨l, m, n⟩ = .ok () ⟨l, upd m i (.inst 283 [(0, a), (1, b), (2, c), (3, d), (4, v), (5, f)]), n⟩:=rfl
theorem Za283_5 {a b c d e f : PV} : Res.gtf (.inst 283 [(0, a), (1, b), (2, c), (3, d), (4, e), (5, f)]) 5 s = .ok f s:=rfl
theorem Zb283_5 {a b c d e f v : PV} {i : Nat} : Res.stf (.inst 283 [(0, a), (1, b), (2, c), (3, d), (4, e), (5, f)]) i 5 v ⟨l, m, n⟩ = .ok () ⟨l, upd m i (.inst 283 [(0, a), (1, b), (2, c), (3, d), (4, e), (5, v)]), n⟩:=rfl
theorem Zc283_0 {v : PV} {i : Nat} : Res.stf (.inst 283 []) i 0 v ⟨l, m, n⟩ = .ok () ⟨l, upd m i (.inst 283 [(0, v)]), n⟩:=rfl
theorem Zc283_1 {a : PV} {v : PV} {i : Nat} : Res.stf (.inst 283 [(0, a)]) i 1 v ⟨l, m, n⟩ = .ok () ⟨l, upd m i (.inst 283 [(0, a), (1, v)]), n⟩:=rfl
theorem Zc283_2 {a b : PV} {v : PV} {i : Nat} : Res.stf (.inst 283 [(0, a), (1, b)]) i 2 v ⟨l, m, n⟩ = .ok () ⟨l, upd m i (.inst 283 [(0, a), (1, b), (2, v)]), n⟩:=rfl
theorem Zc283_3 {a b c : PV} {v : PV} {i : Nat} : Res.stf (.inst 283 [(0, a), (1, b), (2, c)]) i 3 v ⟨l, m, n⟩ = .ok () ⟨l, upd m i (.inst 283 [(0, a), (1, b), (2, c), (3, v)]), n⟩:=rfl
theorem Zc283_4 {a b c d : PV} {v : PV} {i : Nat} : Res.stf (.inst 283 [(0, a), (1, b), (2, c), (3, d)]) i 4 v ⟨l, m, n⟩ = .ok () ⟨l, upd m i (.inst 283 [(0, a), (1, b), (2, c), (3, d), (4, v)]), n⟩:=rfl
theorem Zc283_5 {a b c d e : PV} {v : PV} {i : Nat} : Res.stf (.inst 283 [(0, a), (1, b), (2, c), (3, d), (4, e)]) i 5 v ⟨l, m, n⟩ = .ok () ⟨l, upd m i (.inst 283 [(0, a), (1, b), (2, c), (3, d), (4, e), (5, v)]), n⟩:=rfl
theorem Zh283 {fs : List (Nat × PV)} {r : Res PV} : Res.mth (.inst 283 fs) 283 r = r:=rfl
theorem Zd2 {a b : PV} : Res.gtf (.inst 199 [(6, a), (7, b)]) 6 s = .ok a s:=rfl
theorem Zd3 {a b : PV} : Res.gtf (.inst 199 [(6, a), (7, b)]) 7 s = .ok b s:=rfl
theorem Zn1 : isN .none = true:=rfl
theorem Zn2 {i : Int} : isN (.int i) = false:=rfl
theorem Zq99 {t : M Bool} {a : List S} {k : Nat} : sWhile t a (k + 1) s = (t s).bd (ifK (whl1 t a k) nx):=rfl
theorem Zq100 {t : M Bool} {a : List S} {k : Nat} : whl1 t a k s = (sSeq a s).bd (whl2 t a k):=rfl
theorem Zq101 {t : M Bool} {a : List S} {k : Nat} : whl2 t a k .nx s = sWhile t a k s:=rfl
theorem Zq102 : nx s = .ok .nx s:=rfl
theorem Zcm1 {a b : Int} : intCm .eq a b = (a == b):=rfl
theorem Zcm2 {a b : Int} : intCm .ne a b = (a != b):=rfl
theorem Zcm3 {a b : Int} : intCm .lt a b = decide (a < b):=dcd_eq _
theorem Zcm4 {a b : Int} : intCm .le a b = decide (a <= b):=dcd_eq _
theorem Zcm5 {a b : Int} : intCm .gt a b = decide (b < a):=dcd_eq _
theorem Zcm6 {a b : Int} : intCm .ge a b = decide (b <= a):=dcd_eq _
end
theorem post_seq {r : Res Fl} {k : List S} {Q : Fl -> AS -> Prop} {E : Nat -> AS -> Prop} (h : r.post (fun f s => match f with | .nx => (sSeq k s).post Q E | .rt v => Q (.rt v) s) E) : (r.bd (seqK k)).post Q E:=by
 cases r with
 | ok f s => cases f <;> exact h
 | exc => exact h
 | stuck => exact h
theorem i_powc {a b c : Int} (h : 0 <= b /\ b <= 1000000 /\ a.natAbs < 2 ^ 64) (e : a ^ b.toNat = c) : intOp .pow a b = some c:=(if_pos h).trans (congrArg some e)
theorem ifK_t {α : Type} {a b : M α} {c : Bool} {s : AS} (h : c = true) : ifK a b c s = a s:=by rw [h]; rfl
theorem ifK_f {α : Type} {a b : M α} {c : Bool} {s : AS} (h : c = false) : ifK a b c s = b s:=by rw [h]; rfl
end Mine
end
section
open PySem PyProof.Rows
set_option maxRecDepth 10000
namespace Mine
noncomputable def Fr (W : List Nat) (s s' : AS) : Prop:=s'.loc = s.loc /\ s.nxt <= s'.nxt /\ ∀ i, i < s.nxt -> i ∉ W -> s'.mem i = s.mem i
theorem Fr.refl (W : List Nat) (s : AS) : Fr W s s:=⟨rfl, yM _, fun _ _ _ => rfl⟩
theorem Fr.trans {W : List Nat} {s s1 s2 : AS} (a : Fr W s s1) (b : Fr W s1 s2) : Fr W s s2 :=
 ⟨b.1.trans a.1, yL a.2.1 b.2.1, fun i h h' => (b.2.2 i (yK h a.2.1) h').trans (a.2.2 i h h')⟩
theorem Fr.sub {W W' : List Nat} {s s' : AS} (a : Fr W s s') (h : ∀ i ∈ W, i ∈ W') : Fr W' s s':=⟨a.1, a.2.1, fun i hi hn => a.2.2 i hi fun q => hn (h i q)⟩
theorem next_ap (m b : Int) (s : AS) : F_next_model [.int m, .int b] s = .ok (.int (nxI m b)) s:=by
 obtain ⟨l, mem, n⟩:=s
 unfold F_next_model B_next_model nxI
 by_cases h : b = 0
 ·subst h
  simp [Zq2, Zg0, Zg1, Zq7, Zq8, Zq11, Zq12, Zq55, Zq57, Zq59, Zq60, Zq61, Zcm1, bd_ok, ofI_some, ap_binI, ap_cmpI, i_add, i_sub, fnM_ap, fin_rt, ifK_t, Nat.reduceAdd, i_shr]
 ·simp [Zq2, Zg0, Zg1, Zq7, Zq8, Zq11, Zq12, Zq55, Zq56, Zq57, Zq58, Zq59, Zq60, Zq61, Zcm1, bd_ok, ofI_some, ap_binI, ap_cmpI, i_sub, fnM_ap, fin_rt, ifK_f, beq_eq_false_iff_ne, ne_eq, not_false_eq_true, Nat.reduceAdd, i_shr, h]
theorem need_bit_ap {b : Int} (h : Bit b) (s : AS) : F_need_bit [.int b] s = .ok .none s:=by
 obtain ⟨l, mem, n⟩:=s
 unfold F_need_bit B_need_bit
 rcases h with rfl | rfl <;> simp [Zg0, Zq15, Zq16, Zq55, Zq56, Zq57, Zq58, bd_ok, fnM_ap, fin_nx, ifK_f, decide_true]
theorem need_bit_no {b : Int} (h : ¬ Bit b) (s : AS) : F_need_bit [.int b] s = .exc 88 s:=by
 obtain ⟨l, mem, n⟩:=s
 unfold F_need_bit B_need_bit
 have h1 : ¬ b = 0:=fun q => h (.inl q)
 have h2 : ¬ b = 1:=fun q => h (.inr q)
 simp [Zg0, Zq15, Zq16, Zq55, Zq57, bd_ok, bd_exc, ap_sRaise, fnM_ap, fin_exc, ifK_t, decide_false, h1, h2]
theorem need_value_ap {v c : Int} (h0 : 0 <= c) (h1 : c <= 1000) (h2 : 0 <= v) (h3 : v < 2 ^ c.toNat) (s : AS) : F_need_value [.int v, .int c] s = .ok .none s:=by
 obtain ⟨l, mem, n⟩:=s
 unfold F_need_value B_need_value
 have e : intOp .shl 1 c = some (2 ^ c.toNat):=by rw [i_shl h0 (by lia) (by decide), Int.one_mul]
 have h4 : ¬ c < 0:=by lia
 simp [Zq2, Zg0, Zg1, Zq7, Zq8, Zq11, Zq12, Zq18, Zq19, Zq21, Zq29, Zq30, Zq31, Zq32, Zq33, Zq55, Zq56, Zq57, Zq58, Zcm3, Zcm4, bd_ok, ofI_some, ap_binI, ap_cmpI, fnM_ap, fin_nx, ifK_t, ifK_f, Nat.reduceAdd, decide_true, decide_false, e, h4, h2, h3]
theorem need_value_no {v c : Int} (h0 : 0 <= c) (h1 : c <= 1000) (h : v < 0 \/ 2 ^ c.toNat <= v) (s : AS) : F_need_value [.int v, .int c] s = .exc 88 s:=by
 obtain ⟨l, mem, n⟩:=s
 unfold F_need_value B_need_value
 have e : intOp .shl 1 c = some (2 ^ c.toNat):=by rw [i_shl h0 (by lia) (by decide), Int.one_mul]
 have h4 : ¬ c < 0:=by lia
 by_cases h2 : 0 <= v
 ·have h3 : ¬ v < 2 ^ c.toNat:=by lia
  simp [Zq2, Zg0, Zg1, Zq7, Zq8, Zq11, Zq12, Zq18, Zq19, Zq21, Zq29, Zq30, Zq31, Zq32, Zq33, Zq55, Zq57, Zcm3, Zcm4, bd_ok, bd_exc, ofI_some, ap_binI, ap_cmpI, ap_sRaise, fnM_ap, fin_exc, ifK_t, ifK_f, Nat.reduceAdd, decide_true, decide_false, e, h4, h2, h3]
 ·simp [Zq1, Zq2, Zg0, Zg1, Zq11, Zq12, Zq18, Zq19, Zq21, Zq29, Zq30, Zq32, Zq33, Zq55, Zq57, Zcm3, Zcm4, bd_ok, bd_exc, ap_cmpI, ap_sRaise, fnM_ap, fin_exc, ifK_t, ifK_f, Nat.reduceAdd, decide_false, h4, h2]
noncomputable def wf (bar : Nat) (low span cache held : Int) (cl : Bool) : List (Nat × PV):=[(0, .ref bar), (1, .int low), (2, .int span), (3, .int cache), (4, .int held), (5, .bool cl)]
structure WInv (N R : Int) (k : Nat) (mb : List UInt8) (low cache held : Int) : Prop where
 val : N = ((vb mb * 256 + cache + 1) * 256 ^ (held - 1).toNat - 1) * 4294967296 + low
 len : (mb.length : Int) + held = k + 1
 c : 0 <= cache /\ cache <= 255
 h : 1 <= held
 l : 0 <= low
 pos : 1 <= R
 lR : low + R <= 8589934592
 lc : cache = 255 -> low + R <= 4294967296
theorem WInv.mono {N R R' : Int} {k : Nat} {mb : List UInt8} {low cache held : Int} (w : WInv N R k mb low cache held) (h : R' <= R) (h' : 1 <= R') : WInv N R' k mb low cache held :=
 ⟨w.val, w.len, w.c, w.h, w.l, h', by have:=w.lR; lia, fun q => by have:=w.lc q; lia⟩
theorem vb_rep (x : UInt8) (v : Int) (hv : (x.toNat : Int) = v) : ∀ h : Nat, vb (List.replicate h x) * 255 = v * (256 ^ h - 1)
 | 0 => by simp [vb]
 | h + 1 => by
  rw [List.replicate_succ', vb_snoc, hv, Int.pow_succ, Int.add_mul, Int.mul_assoc, Int.mul_comm 256 255, <- Int.mul_assoc, vb_rep x v hv h]
  rw [Int.mul_sub, Int.mul_sub, <- Int.mul_assoc v, Int.sub_mul]
  lia
theorem winv_out {N R : Int} {k : Nat} {mb : List UInt8} {low cache held : Int} (w : WInv N R k mb low cache held) (hR : R < 16777216) (hl : low < 4278190080 \/ 4294967296 <= low) :
  WInv (N * 256) (R * 256) (k + 1) (mb ++ [((cache + low / 4294967296) % 256).toNat.toUInt8] ++ List.replicate (held - 1).toNat ((255 + low / 4294967296) % 256).toNat.toUInt8) (low % 16777216 * 256) (low / 16777216 % 256) 1:=by
 obtain ⟨wN, wk, wc, wh, wl, wR, wlR, wlc⟩:=w
 obtain ⟨h, rfl⟩:=oneLe wh
 have hh : ((h : Int) + 1 - 1).toNat = h:=by rw [Int.add_sub_cancel]; rfl
 rw [hh] at wN ⊢
 have hx : ∀ x : Int, 0 <= x -> x < 256 -> ((x.toNat.toUInt8).toNat : Int) = x:=fun x h1 h2 => by
  have : x.toNat.toUInt8.toNat = x.toNat % 256:=rfl
  rw [this, Nat.mod_eq_of_lt (by omega), Int.toNat_of_nonneg h1]
 refine ⟨?_, ?_, by lia, by lia, by lia, by lia, by lia, fun q => by lia⟩
 ·have hc : low / 4294967296 = 0 \/ low / 4294967296 = 1:=by lia
  rw [vb_append, vb_snoc, List.length_replicate]
  show N * 256 = ((_ * 256 + low / 16777216 % 256 + 1) * 256 ^ 0 - 1) * 4294967296 + low % 16777216 * 256
  have hp:=pow_pos h
  generalize hP : (256 : Int) ^ h = P at *
  rcases hc with hc | hc
  ·rw [hc]
   have e1 : (((cache + 0) % 256).toNat.toUInt8.toNat : Int) = cache:=by rw [hx _ (m256 _).1 (m256 _).2, Int.add_zero, Int.emod_eq_of_lt wc.1 (by lia)]
   have e2 : (((255 + 0) % 256 : Int).toNat.toUInt8.toNat : Int) = 255:=by decide
   have e3:=vb_rep _ _ e2 h
   rw [hP] at e3
   rw [e1, wN]
   generalize vb (List.replicate h _) = V at *
   have e4 : V = P - 1:=by lia
   have e5 : (vb mb * 256 + cache + 1) * P = (vb mb * 256 + cache) * P + P:=by rw [Int.add_mul, Int.one_mul]
   rw [e4, e5]
   lia
  ·rw [hc]
   have hc2 : cache ≠ 255:=fun q => by have:=wlc q; lia
   have e1 : (((cache + 1) % 256).toNat.toUInt8.toNat : Int) = cache + 1:=by rw [hx _ (m256 _).1 (m256 _).2, Int.emod_eq_of_lt (by lia) (by lia)]
   have e2 : (((255 + 1) % 256 : Int).toNat.toUInt8.toNat : Int) = 0:=by decide
   have e3:=vb_rep _ _ e2 h
   rw [hP] at e3
   rw [e1, wN]
   generalize vb (List.replicate h _) = V at *
   have e4 : V = 0:=by lia
   rw [e4, <- Int.add_assoc]
   lia
 ·rw [yH, yH, List.length_replicate, List.length_singleton]
  lia
theorem winv_hold {N R : Int} {k : Nat} {mb : List UInt8} {low cache held : Int} (w : WInv N R k mb low cache held) (hR : R < 16777216) (h1 : ¬ (low < 4278190080 \/ 4294967296 <= low)) :
  WInv (N * 256) (R * 256) (k + 1) mb (low % 16777216 * 256) cache (held + 1):=by
 obtain ⟨wN, wk, wc, wh, wl, wR, wlR, wlc⟩:=w
 obtain ⟨h, rfl⟩:=oneLe wh
 refine ⟨?_, by lia, wc, by lia, by lia, by lia, by lia, fun q => by have:=wlc q; lia⟩
 have hh : ((h : Int) + 1 - 1).toNat = h:=by rw [Int.add_sub_cancel]; rfl
 have e : ((h : Int) + 1 + 1 - 1).toNat = h + 1:=by rw [Int.add_sub_cancel]; rfl
 rw [hh] at wN
 rw [wN, e, Int.pow_succ, <- Int.mul_assoc]
 generalize (vb mb * 256 + cache + 1) * 256 ^ h = Z
 lia
section
variable (s : AS) (l : List (Option PV)) (m : Nat -> AO) (n : Nat)
noncomputable def Res.isB (o : AO) (s : AS) : Res Unit:=match o with
 | .barr _ => .ok () s
 | _ => .stuck "a method of no bytearray"
theorem ap_isB (i : Nat) : isBarrM (.ref i) ⟨l, m, n⟩ = Res.isB (m i) ⟨l, m, n⟩:=rfl
noncomputable def Res.apB (o : AO) (i : Nat) (k : Int) (s : AS) : Res PV:=match o with
 | .barr bs => if bs.length < zLs /\ 0 <= k /\ k < 256 then .ok .none ⟨s.loc, upd s.mem i (.barr (bs ++ [k.toNat.toUInt8])), s.nxt⟩ else .stuck "append"
 | _ => .stuck "append: object"
theorem ap_apB (i : Nat) (k : Int) : appendBM (.ref i) (.int k) ⟨l, m, n⟩ = Res.apB (m i) i k ⟨l, m, n⟩:=by
 unfold appendBM Res.apB
 dsimp only
 cases m i <;> rfl
noncomputable def Res.exB (o : AO) (i : Nat) (cs : List UInt8) (s : AS) : Res PV:=match o with
 | .barr bs => if bs.length + cs.length < zLs then .ok .none ⟨s.loc, upd s.mem i (.barr (bs ++ cs)), s.nxt⟩ else .stuck "extend"
 | _ => .stuck "extend: object"
theorem ap_exB (i : Nat) (cs : List UInt8) : extendM (.ref i) (.byt cs) ⟨l, m, n⟩ = Res.exB (m i) i cs ⟨l, m, n⟩:=by
 unfold extendM Res.exB
 dsimp only
 cases m i <;> rfl
noncomputable def Res.byB (o : AO) (s : AS) : Res PV:=match o with
 | .barr bs => if bs.length <= zLs then .ok (.byt bs) s else .stuck "bytes"
 | .list vs => match toBytes vs with
  | some bs => if bs.length <= zLs then .ok (.byt bs) s else .stuck "bytes"
  | none => .stuck "bytes: items"
 | _ => .stuck "bytes: object"
theorem ap_byB (i : Nat) : bytesM (.ref i) ⟨l, m, n⟩ = Res.byB (m i) ⟨l, m, n⟩:=rfl
theorem ap_mulB (x : List UInt8) (y : Int) : binM .mul (.byt x) (.int y) s = if x.length = 1 /\ 0 <= y /\ y <= zLs then .ok (.byt (rep x y)) s else .stuck "bytes *":=rfl
noncomputable def Res.lnB (o : AO) (s : AS) : Res PV:=match o with
 | .list vs => if vs.length <= zLs then .ok (.int vs.length) s else .stuck "len"
 | .barr bs => if bs.length <= zLs then .ok (.int bs.length) s else .stuck "len"
 | _ => .stuck "len: object"
theorem ap_lnR (i : Nat) : fLen (.ref i) ⟨l, m, n⟩ = Res.lnB (m i) ⟨l, m, n⟩:=rfl
end
theorem m256a (a : Int) : (0 <= a % 256) = True:=eq_true (by lia)
theorem m256b (a : Int) : (a % 256 < 256) = True:=eq_true (by lia)
theorem lz1 : 1 <= zLs:=by decide
noncomputable def MFr (W : List Nat) (n : Nat) (m m' : Nat -> AO) : Prop:=∀ i, i < n -> i ∉ W -> m' i = m i
theorem MFr.refl {W : List Nat} {n : Nat} {m : Nat -> AO} : MFr W n m m:=fun _ _ _ => rfl
theorem MFr.own {W : List Nat} {n j : Nat} {m m' : Nat -> AO} {o : AO} (h : MFr W n m m') (hj : j ∈ W) : MFr W n m (upd m' j o):=fun i hi hn => (zun fun q => hn (by rw [q]; exact hj)).trans (h i hi hn)
theorem MFr.new {W : List Nat} {n j : Nat} {m m' : Nat -> AO} {o : AO} (h : MFr W n m m') (hj : n <= j) : MFr W n m (upd m' j o):=fun i hi hn => (zun (by lia)).trans (h i hi hn)
theorem MFr.fr {W : List Nat} {n n' : Nat} {m m' : Nat -> AO} {l : List (Option PV)} (h : MFr W n m m') (hn : n <= n') : Fr W ⟨l, m, n⟩ ⟨l, m', n'⟩:=⟨rfl, hn, h⟩
theorem MFr.trans {W : List Nat} {n n1 : Nat} {m m1 m2 : Nat -> AO} (h : MFr W n m m1) (hn : n <= n1) (h' : MFr W n1 m1 m2) : MFr W n m m2:=fun i hi hw => (h' i (yK hi hn) hw).trans (h i hi hw)
theorem Fr.m {W W' : List Nat} {s s' : AS} (f : Fr W s s') (h : ∀ i ∈ W, i ∈ W') : MFr W' s.nxt s.mem s'.mem:=fun i hi hw => f.2.2 i hi fun q => hw (h i q)
theorem sub2 {a b c : Nat} : ∀ i ∈ [a, b], i ∈ [a, b, c]:=fun i h => by
 rcases List.mem_cons.mp h with rfl | h
 ·exact .head _
 ·rcases List.mem_cons.mp h with rfl | h
  ·exact .tail _ (.head _)
  ·cases h
theorem lt_up {i n : Nat} (h : i < n) : i < n + 1:=Nat.lt_succ_of_lt h
theorem rep1 (x : UInt8) (y : Int) : rep [x] y = List.replicate y.toNat x:=by
 unfold rep
 induction y.toNat with
 | zero => rfl
 | succ n ih => rw [List.replicate_succ, List.flatten_cons, ih]; rfl
inductive WrX (w bar : Nat) (sp N R : Int) (k : Nat) (cl : Bool) (mm : Nat -> AO) : Prop where
 | mk (mb : List UInt8) (low cache held : Int) (h0 : mm w = .inst 283 (wf bar low sp cache held cl)) (h1 : mm bar = .barr mb) (h2 : WInv N R k mb low cache held) : WrX w bar sp N R k cl mm
structure Wr (w bar : Nat) (sp N R : Int) (k : Nat) (cl : Bool) (s : AS) : Prop where
 lw : w < s.nxt
 lb : bar < s.nxt
 ne : w ≠ bar
 ex : WrX w bar sp N R k cl s.mem
theorem Wr.frame {w bar : Nat} {sp N R : Int} {k : Nat} {cl : Bool} {s s' : AS} {W : List Nat} (h : Wr w bar sp N R k cl s) (f : Fr W s s') (h1 : w ∉ W) (h2 : bar ∉ W) : Wr w bar sp N R k cl s':=by
 obtain ⟨a, b, c, mb, low, cache, held, d, e, g⟩:=h
 exact ⟨yK a f.2.1, yK b f.2.1, c, mb, low, cache, held, (f.2.2 w a h1).trans d, (f.2.2 bar b h2).trans e, g⟩
inductive ShRExX (w : Nat) (bar : Nat) (sp : Int) (N : Int) (R : Int) (k : Nat) (cl : Bool) (low : Int) (mm : Nat -> AO) : Prop where
 | mk (mb : _) (cache : _) (held : _) (h0 : mm w = .inst 283 (wf bar (low % 16777216 * 256) sp cache held cl)) (h1 : mm bar = .barr mb) (h2 : WInv (N * 256) (R * 256) (k + 1) mb (low % 16777216 * 256) cache held) (h3 : (low < 4278190080 -> held = 1 /\ cache = low / 16777216 % 256)) : ShRExX w bar sp N R k cl low mm
structure ShR (w bar : Nat) (sp N R : Int) (k : Nat) (cl : Bool) (low : Int) (s : AS) : Prop where
 ex : ShRExX w bar sp N R k cl low s.mem
theorem shift_ex {w bar : Nat} {sp N R : Int} {k : Nat} {cl : Bool} {s : AS} {mb : List UInt8} {low cache held : Int} (lw : w < s.nxt) (lb : bar < s.nxt) (ne : w ≠ bar) (e1 : s.mem w = .inst 283 (wf bar low sp cache held cl)) (e2 : s.mem bar = .barr mb) (I : WInv N R k mb low cache held) (hR : R < 16777216) (hk : k <= 1000) :
  (F_RangeWriter_shift [.ref w] s).post (fun v s' => v = .none /\ ShR w bar sp N R k cl low s' /\ Fr [w, bar] s s') NoE:=by
 obtain ⟨l, m, n⟩:=s
 dsimp only at lw lb e1 e2
 have hl:=I.l
 obtain ⟨h, rfl⟩:=oneLe I.h
 have hlen:=I.len
 have L : zLs = 1048576:=by decide
 unfold F_RangeWriter_shift B_RangeWriter_shift
 have nw : w ≠ n:=Nat.ne_of_lt lw
 have nb : bar ≠ n:=Nat.ne_of_lt lb
 have d1 : ((low / 16777216) % 256 : Int) = (low / 16777216) % 256:=rfl
 have hs : intOp .shl (low % 16777216) 8 = some (low % 16777216 * 256):=i_shl (by decide) (by decide) (nab (by lia) (by lia))
 have b2 : (h : Int) <= zLs:=by lia
 have b3 : mb.length < zLs:=by lia
 have b4 : mb.length + 1 + h < zLs:=by lia
 have hh : ((h : Int) + 1 - 1).toNat = h:=by rw [Int.add_sub_cancel]; rfl
 by_cases hc : low < 4278190080 \/ 4294967296 <= low
 ·have W':=winv_out I hR hc
  rw [hh] at W'
  have hc' : (low < 4278190080) = True \/ ((low < 4278190080) = False /\ (4294967296 <= low) = True):=by
   by_cases q : low < 4278190080
   ·exact .inl (eq_true q)
   ·exact .inr ⟨eq_false q, eq_true (hc.resolve_left q)⟩
  rcases hc' with hc' | ⟨hc', hc''⟩
  ·simp [Zq1, Zq2, Zg0, Zg1, Zt1, Zq3, Zq4, Zq5, Zq6, Zq7, Zq8, Zq11, Zq12, Zq21, Zq41, Zq42, Zq43, Zq44, Zq45, Zq46, Zq50, Zq51, Zq52, Zq53, Zq54, Zq55, Zq56, Zq57, Zq58, Zq62, Zq63, Zq69, Zq70, Zq78, Zq79, Zq80, Zq81, Zq82, Zq83, Za283_0, Za283_1, Zb283_1, Za283_3, Zb283_3, Za283_4, Zb283_4, Zcm3, bd_ok, ofI_some, ap_binI, ap_cmpI, ap_attr, ap_setAttr, ap_eBytes, zus, i_add, i_sub, i_band, fnM_ap, fin_nx, post_ok, ifK_t, ne_eq, not_false_eq_true, decide_true, wf, e1, e2, ap_isB, Res.isB, ap_apB, Res.apB, ap_exB, Res.exB, ap_byB, Res.byB, ap_mulB, i_shr, band255, bandM, hl, m256a, m256b, rep1, zun, ne, nw, nb, toBytes, b2, b3, b4, lz1, hs, hc']
   refine ⟨⟨_, _, _, ?_, ?_, W', fun _ => ⟨rfl, rfl⟩⟩, MFr.fr ?_ (by lia)⟩
   ·simp [zus, wf]
   ·simp [zus, zun, ne.symm]
   ·repeat' first | exact MFr.refl | (refine MFr.own ?_ (.head _)) | (refine MFr.own ?_ (.tail _ (.head _))) | (refine MFr.own ?_ (.tail _ (.tail _ (.head _)))) | (refine MFr.new ?_ (by lia))
  ·simp [Zq2, Zg0, Zg1, Zt1, Zq3, Zq4, Zq5, Zq6, Zq7, Zq8, Zq11, Zq12, Zq21, Zq41, Zq42, Zq43, Zq44, Zq45, Zq46, Zq50, Zq51, Zq52, Zq53, Zq54, Zq55, Zq56, Zq57, Zq58, Zq62, Zq63, Zq69, Zq70, Zq78, Zq79, Zq80, Zq81, Zq82, Zq83, Za283_0, Za283_1, Zb283_1, Za283_3, Zb283_3, Za283_4, Zb283_4, Zcm3, Zcm6, bd_ok, ofI_some, ap_binI, ap_cmpI, ap_attr, ap_setAttr, ap_eBytes, zus, i_add, i_sub, i_band, fnM_ap, fin_nx, post_ok, ifK_t, ifK_f, ne_eq, not_false_eq_true, decide_true, decide_false, wf, e1, e2, ap_isB, Res.isB, ap_apB, Res.apB, ap_exB, Res.exB, ap_byB, Res.byB, ap_mulB, i_shr, band255, bandM, hl, m256a, m256b, rep1, zun, ne, nw, nb, toBytes, b2, b3, b4, lz1, hs, hc', hc'']
   refine ⟨⟨_, _, _, ?_, ?_, W', fun _ => ⟨rfl, rfl⟩⟩, MFr.fr ?_ (by lia)⟩
   ·simp [zus, wf]
   ·simp [zus, zun, ne.symm]
   ·repeat' first | exact MFr.refl | (refine MFr.own ?_ (.head _)) | (refine MFr.own ?_ (.tail _ (.head _))) | (refine MFr.own ?_ (.tail _ (.tail _ (.head _)))) | (refine MFr.new ?_ (by lia))
 ·have hc1 : ¬ low < 4278190080:=fun q => hc (.inl q)
  have hc2 : ¬ 4294967296 <= low:=fun q => hc (.inr q)
  have W':=winv_hold I hR hc
  simp [Zq2, Zg0, Zq7, Zq8, Zq11, Zq12, Zq21, Zq41, Zq43, Zq44, Zq45, Zq46, Zq50, Zq51, Zq52, Zq53, Zq54, Zq55, Zq56, Zq57, Zq58, Za283_1, Zb283_1, Za283_4, Zb283_4, Zcm3, Zcm6, bd_ok, ofI_some, ap_binI, ap_cmpI, ap_attr, ap_setAttr, zus, i_add, i_sub, i_band, fnM_ap, fin_nx, post_ok, ifK_f, decide_false, wf, e1, bandM, hl, hs, hc1, hc2]
  refine ⟨⟨_, _, _, ?_, ?_, W', fun q => absurd q hc1⟩, MFr.fr ?_ (by lia)⟩
  ·simp [zus, wf]
  ·simp [zun, ne.symm, e2]
  ·repeat' first | exact MFr.refl | (refine MFr.own ?_ (.head _)) | (refine MFr.own ?_ (.tail _ (.head _))) | (refine MFr.own ?_ (.tail _ (.tail _ (.head _)))) | (refine MFr.new ?_ (by lia))
theorem shift_sp {w bar : Nat} {sp N R : Int} {k : Nat} {cl : Bool} {s : AS} (h : Wr w bar sp N R k cl s) (hR : R < 16777216) (hk : k <= 1000) :
  (F_RangeWriter_shift [.ref w] s).post (fun v s' => v = .none /\ Wr w bar sp (N * 256) (R * 256) (k + 1) cl s' /\ Fr [w, bar] s s') NoE:=by
 obtain ⟨lw, lb, ne, mb, low, cache, held, e1, e2, I⟩:=h
 refine post_mono (shift_ex lw lb ne e1 e2 I hR hk) (fun v s' h => ?_) fun _ _ h => h
 obtain ⟨rfl, ⟨mb', cache', held', a1, a2, a3, _⟩, f⟩:=h
 exact ⟨rfl, ⟨yK lw f.2.1, yK lb f.2.1, ne, _, _, _, _, a1, a2, a3⟩, f⟩
theorem winv_step {N R R' d : Int} {k : Nat} {mb : List UInt8} {low cache held : Int} (w : WInv N R k mb low cache held) (h0 : 0 <= d) (h1 : d + R' <= R) (h2 : 1 <= R') : WInv (N + d) R' k mb (low + d) cache held :=
 ⟨by rw [w.val, Int.add_assoc], w.len, w.c, w.h, by have:=w.l; lia, h2, by have:=w.lR; lia, fun q => by have:=w.lc q; lia⟩
theorem fill_sp {w bar : Nat} {N R : Int} {k : Nat} {cl : Bool} {s : AS} (ms : List Int) (h : Wr w bar R N R k cl s) (hR : 1 <= R) (hk : k <= 1000) :
  (F_RangeWriter_fill [.ref w] s).post (fun v s' => v = .none /\ Wr w bar (nrm N R k ms).R (nrm N R k ms).N (nrm N R k ms).R (nrm N R k ms).k cl s' /\ Fr [w, bar] s s') NoE:=by
 obtain ⟨l, m, n⟩:=s
 obtain ⟨lw, lb, ne, mb, low, cache, held, e1, e2, I⟩:=h
 dsimp only at lw lb e1 e2
 unfold F_RangeWriter_fill B_RangeWriter_fill
 by_cases hc : R < 16777216
 ·have hs : intOp .shl R 8 = some (R * 256):=i_shl (by decide) (by decide) (nab (by lia) (by lia))
  simp [Zq2, Zg0, Zq3, Zq11, Zq12, Zq35, Zq36, Zq37, Zq41, Zq43, Zq50, Zq51, Zq52, Zq53, Zq54, Zq55, Zq57, Zq58, Zq62, Za283_2, Zb283_2, Zh283, Zcm3, bd_ok, ofI_some, ap_cmpI, ap_attr, ap_setAttr, zus, fnM_ap, ifK_t, decide_true, wf, e1, hc, hs]
  have h2 : Wr w bar (R * 256) N R k cl ⟨[some (.ref w)], upd m w (.inst 283 (wf bar low (R * 256) cache held cl)), n⟩:=⟨lw, lb, ne, _, _, _, _, zus _ _ _, (zun ne.symm).trans e2, I⟩
  repeat (first | with_reducible refine post_fin ?_ | with_reducible refine post_seq ?_)
  refine bd_post (shift_sp h2 hc hk) ?_ fun _ _ h => h
  rintro v s' ⟨rfl, W, f⟩
  simp only [Zq56, Zq63, post_ok]
  have e : nrm N R k ms = ⟨N * 256, R * 256, k + 1, ms⟩:=if_pos hc
  rw [e]
  refine ⟨trivial, ⟨W.lw, W.lb, W.ne, W.ex⟩, ⟨rfl, f.2.1, fun i hi hn => (f.2.2 i hi hn).trans (zun fun q => hn (by rw [q]; exact .head _))⟩⟩
 ·have e : nrm N R k ms = ⟨N, R, k, ms⟩:=if_neg hc
  rw [e]
  simp [Zq2, Zg0, Zq11, Zq12, Zq41, Zq55, Zq56, Zq57, Zq58, Za283_2, Zcm3, bd_ok, ap_cmpI, ap_attr, fnM_ap, fin_nx, post_ok, ifK_f, decide_false, wf, e1, hc]
  exact ⟨⟨lw, lb, ne, _, _, _, _, e1, e2, I⟩, .refl _ _⟩
theorem need_open_ap {w bar : Nat} {low sp cache held : Int} {l : List (Option PV)} {m : Nat -> AO} {n : Nat} (e1 : m w = .inst 283 (wf bar low sp cache held false)) : F_RangeWriter_need_open [.ref w] ⟨l, m, n⟩ = .ok .none ⟨l, m, n⟩:=by
 unfold F_RangeWriter_need_open B_RangeWriter_need_open
 simp [Zg0, Zq17, Zq41, Zq55, Zq56, Zq57, Zq58, Za283_5, bd_ok, ap_truthB, ap_attr, fnM_ap, fin_nx, ifK_f, wf, e1]
theorem need_open_no {w bar : Nat} {low sp cache held : Int} {l : List (Option PV)} {m : Nat -> AO} {n : Nat} (e1 : m w = .inst 283 (wf bar low sp cache held true)) : F_RangeWriter_need_open [.ref w] ⟨l, m, n⟩ = .exc 88 ⟨l, m, n⟩:=by
 unfold F_RangeWriter_need_open B_RangeWriter_need_open
 simp [Zg0, Zq17, Zq41, Zq55, Zq57, Za283_5, bd_ok, bd_exc, ap_truthB, ap_attr, ap_sRaise, fnM_ap, fin_exc, ifK_t, wf, e1]
section
variable (l : List (Option PV)) (m : Nat -> AO) (n : Nat)
noncomputable def Res.sbL (o : AO) (k : Int) (s : AS) : Res PV:=match o with
 | .list vs => match idx vs k with
  | some v => .ok v s
  | none => .stuck "list item"
 | _ => .stuck "item: object"
theorem ap_sbL (i : Nat) (k : Int) : subM (.ref i) (.int k) ⟨l, m, n⟩ = Res.sbL (m i) k ⟨l, m, n⟩:=rfl
noncomputable def Res.ssL (o : AO) (i : Nat) (k : Int) (v : PV) (s : AS) : Res Unit:=match o with
 | .list vs => if 0 <= k /\ k < vs.length /\ vs.length <= zLs then .ok () ⟨s.loc, upd s.mem i (.list (vs.set k.toNat v)), s.nxt⟩ else .stuck "store: index"
 | _ => .stuck "store: object"
theorem ap_ssL (i : Nat) (k : Int) (v : PV) : setSubM (.ref i) (.int k) v ⟨l, m, n⟩ = Res.ssL (m i) i k v ⟨l, m, n⟩:=rfl
end
theorem idx_ms {ms : List Int} (h : MsOk ms) {i : Int} (hi : 0 <= i /\ i < 80) : idx (ms.map PV.int) i = some (.int (gm ms i)):=by
 have hl:=h.len
 have hlt : i.toNat < ms.length:=by lia
 rw [idx_eq]
 unfold gm
 rw [if_pos ⟨hi.1, Int.lt_trans hi.2 (by decide)⟩, List.getElem?_map, yJ, yI hlt]
 rfl
structure Ws (w bar md : Nat) (c : C) (cl : Bool) (s : AS) : Prop where
 wr : Wr w bar c.R c.N c.R c.k cl s
 lm : md < s.nxt
 n1 : md ≠ w
 n2 : md ≠ bar
 em : s.mem md = .list (c.ms.map .int)
theorem bit_sp {w bar md : Nat} {c : C} {s : AS} {i b : Int} (h : Ws w bar md c false s) (g : Gd c) (hk : c.k <= 900) (hi : 0 <= i /\ i < 80) (hb : Bit b) :
  (F_RangeWriter_bit [.ref w, .ref md, .int i, .int b] s).post (fun v s' => v = .none /\ Ws w bar md (goC c (some i) b) false s' /\ Fr [w, bar, md] s s') NoE:=by
 obtain ⟨l, m, n⟩:=s
 obtain ⟨⟨lw, lb, ne, mb, low, cache, held, e1, e2, I⟩, lm, n1, n2, em⟩:=h
 dsimp only at lw lb e1 e2 lm em
 obtain ⟨p1, p2, _⟩:=prt_ok (sp:=some i) g.R1 g.ms hi
 obtain ⟨g1, g2⟩:=gm_ok g.ms hi
 have hR2:=g.R2
 have hl:=g.ms.len
 have hm : intOp .mul (c.R / 2048) (gm c.ms i) = some (prt c.R c.ms (some i)):=i_mul (.inr (nab (by lia) (by lia)))
 have hx:=idx_ms g.ms hi
 have hlen : ((c.ms.map PV.int).length : Int) = 80:=by rw [yG, hl]; rfl
 have ho:=fun (l : List (Option PV)) (n : Nat) => need_open_ap (l:=l) (n:=n) e1
 have lz80 : 80 <= zLs:=by decide
 unfold F_RangeWriter_bit B_RangeWriter_bit
 have hif : Bit b:=hb
 have fin : ∀ (d R1 : Int) (mem1 : Nat -> AO) (s' : AS), stN c (some i) b = c.N + d -> stR c b (some i) = R1 -> Wr w bar (nrm (c.N + d) R1 c.k (stM c.ms b (some i))).R (nrm (c.N + d) R1 c.k (stM c.ms b (some i))).N (nrm (c.N + d) R1 c.k (stM c.ms b (some i))).R (nrm (c.N + d) R1 c.k (stM c.ms b (some i))).k false s' ->
   MFr [w, bar, md] n m mem1 -> mem1 md = .list ((c.ms.map PV.int).set i.toNat (.int (nxI (gm c.ms i) b))) -> Fr [w, bar] ⟨[], mem1, n⟩ ⟨[], s'.mem, s'.nxt⟩ ->
   (Ws w bar md (goC c (some i) b) false ⟨l, s'.mem, s'.nxt⟩ /\ Fr [w, bar, md] ⟨l, m, n⟩ ⟨l, s'.mem, s'.nxt⟩):=fun d R1 mem1 s' a1 a2 W f1 f2 f => by
  have e : goC c (some i) b = nrm (c.N + d) R1 c.k (stM c.ms b (some i)):=by unfold goC; rw [a1, a2]
  have ems : (nrm (c.N + d) R1 c.k (stM c.ms b (some i))).ms = stM c.ms b (some i):=by unfold nrm; split <;> rfl
  rw [e]
  refine ⟨⟨⟨W.lw, W.lb, W.ne, W.ex⟩, yK lm f.2.1, n1, n2, ?_⟩, MFr.fr (f1.trans (yM _) (f.m sub2)) f.2.1⟩
  rw [ems]
  refine (f.2.2 md lm ?_).trans (f2.trans ?_)
  ·simp [n1, n2]
  ·show AO.list _ = .list ((c.ms.set i.toNat (nxI (gm c.ms i) b)).map .int)
   rw [List.map_set]
 rcases hb with rfl | rfl
 ·simp [Zq2, Zg0, Zg1, Zg2, Zg3, Zg4, Zg5, Zt4, Zt5, Zq3, Zq4, Zq5, Zq6, Zq7, Zq8, Zq11, Zq12, Zq34, Zq35, Zq36, Zq37, Zq41, Zq42, Zq43, Zq44, Zq45, Zq46, Zq55, Zq56, Zq57, Zq58, Zq62, Zq63, Zq65, Zq66, Zq71, Zq72, Zq73, Zq74, Za283_2, Zb283_2, Zh283, Zcm1, bd_ok, ofI_some, ap_binI, ap_cmpI, ap_attr, ap_setAttr, zus, fnM_ap, ifK_t, ne_eq, not_false_eq_true, List.replicate, Nat.reduceSub, Nat.reduceAdd, wf, e1, em, ho, need_bit_ap (.inl rfl), i_shr, ap_sbL, Res.sbL, ap_ssL, Res.ssL, hx, hm, next_ap, zun, n1, n1.symm, hi.1, hi.2, hl, lz80]
  repeat (first | with_reducible refine post_fin ?_ | with_reducible refine post_seq ?_)
  refine bd_post (fill_sp (bar:=bar) (N:=c.N + 0) (R:=prt c.R c.ms (some i)) (k:=c.k) (cl:=false) (stM c.ms 0 (some i)) ⟨lw, lb, ne, mb, low + 0, cache, held, ?_, ?_, winv_step I (by lia) (by lia) (by lia)⟩ (by lia) (by lia)) ?_ fun _ _ h => h
  ·simp [zus, zun, n1.symm, wf]
  ·simp [zun, ne.symm, n2.symm, e2]
  rintro v s' ⟨rfl, W, f⟩
  simp only [Zq56, Zq63, post_ok]
  refine ⟨trivial, fin 0 _ _ s' (by simp [stN]) (by simp [stR]) W ?_ (zus _ _ _) ⟨rfl, f.2.1, f.2.2⟩⟩
  repeat' first | exact MFr.refl | (refine MFr.own ?_ (.head _)) | (refine MFr.own ?_ (.tail _ (.head _))) | (refine MFr.own ?_ (.tail _ (.tail _ (.head _)))) | (refine MFr.new ?_ (by lia))
 ·simp [Zq2, Zg0, Zg1, Zg2, Zg3, Zg4, Zg5, Zt4, Zt5, Zq3, Zq4, Zq5, Zq6, Zq7, Zq8, Zq11, Zq12, Zq34, Zq35, Zq36, Zq37, Zq41, Zq42, Zq43, Zq50, Zq51, Zq52, Zq53, Zq54, Zq55, Zq56, Zq57, Zq58, Zq62, Zq63, Zq65, Zq66, Zq71, Zq72, Zq73, Zq74, Za283_1, Zb283_1, Za283_2, Zb283_2, Zh283, Zcm1, bd_ok, ofI_some, ap_binI, ap_cmpI, ap_attr, ap_setAttr, zus, i_add, i_sub, fnM_ap, ifK_f, ne_eq, not_false_eq_true, List.replicate, Nat.reduceSub, Nat.reduceAdd, wf, e1, em, ho, need_bit_ap (.inr rfl), i_shr, ap_sbL, Res.sbL, ap_ssL, Res.ssL, hx, hm, next_ap, zun, n1, n1.symm, hi.1, hi.2, hl, lz80]
  repeat (first | with_reducible refine post_fin ?_ | with_reducible refine post_seq ?_)
  refine bd_post (fill_sp (bar:=bar) (N:=c.N + prt c.R c.ms (some i)) (R:=c.R - prt c.R c.ms (some i)) (k:=c.k) (cl:=false) (stM c.ms 1 (some i)) ⟨lw, lb, ne, mb, low + prt c.R c.ms (some i), cache, held, ?_, ?_, winv_step I (by lia) (by lia) (by lia)⟩ (by lia) (by lia)) ?_ fun _ _ h => h
  ·simp [zus, zun, n1.symm, wf]
  ·simp [zun, ne.symm, n2.symm, e2]
  rintro v s' ⟨rfl, W, f⟩
  simp only [Zq56, Zq63, post_ok]
  refine ⟨trivial, fin _ _ _ s' (by simp [stN]) (by simp [stR]) W ?_ (zus _ _ _) ⟨rfl, f.2.1, f.2.2⟩⟩
  repeat' first | exact MFr.refl | (refine MFr.own ?_ (.head _)) | (refine MFr.own ?_ (.tail _ (.head _))) | (refine MFr.own ?_ (.tail _ (.tail _ (.head _)))) | (refine MFr.new ?_ (by lia))
theorem forL_inv {tgt : PV -> M Unit} {body : S} {E : Nat -> AS -> Prop} {Qr : PV -> AS -> Prop} {vs : List PV} (I : Nat -> AS -> Prop)
  (hstep : ∀ j s v, vs[j]? = some v -> I j s -> ((tgt v s).bd fun _ s => body s).post (fun f s' => match f with | .nx => I (j + 1) s' | .rt v => Qr v s') E) :
  ∀ (r : List PV) (j : Nat) (s : AS), vs.drop j = r -> j <= vs.length -> I j s -> (forL tgt body r s).post (fun f s' => match f with | .nx => I vs.length s' | .rt v => Qr v s') E
 | [], j, s, hr, hj, h => by
  have : j = vs.length:=drop_nil_len hr hj
  subst this
  exact h
 | v :: r, j, s, hr, hj, h => by
  have hlt : j < vs.length:=drop_cons_lt hr
  have e:=List.drop_eq_getElem_cons hlt
  rw [hr] at e
  injection e with e1 e2
  have hv : vs[j]? = some v:=by rw [yI hlt, e1]
  have ap : forL tgt body (v :: r) s = ((tgt v s).bd fun _ s => body s).sq (forL tgt body r):=by
   show bnd (tgt v) _ s = _
   rw [bnd_ap]
   cases tgt v s with
   | ok u s1 =>
    show bnd body _ s1 = _
    rw [bnd_ap]
    show Res.bd _ _ = Res.sq (body s1) _
    cases body s1 with
    | ok f s2 => cases f <;> rfl
    | exc => rfl
    | stuck => rfl
   | exc => rfl
   | stuck => rfl
  rw [ap]
  refine post_sq (post_mono (hstep j s v hv h) (fun f s' h' => ?_) fun _ _ h => h)
  cases f with
  | nx => exact forL_inv I hstep r (j + 1) s' e2.symm hlt h'
  | rt v => exact h'
theorem forL_post {tgt : PV -> M Unit} {body : S} {E : Nat -> AS -> Prop} {Qr : PV -> AS -> Prop} {vs : List PV} {s : AS} (I : Nat -> AS -> Prop) (h : I 0 s)
  (hstep : ∀ j s v, vs[j]? = some v -> I j s -> ((tgt v s).bd fun _ s => body s).post (fun f s' => match f with | .nx => I (j + 1) s' | .rt v => Qr v s') E)
  {Q : Fl -> AS -> Prop} (hq : ∀ s', I vs.length s' -> Q .nx s') (hr : ∀ v s', Qr v s' -> Q (.rt v) s') : (forL tgt body vs s).post Q E :=
 post_mono (forL_inv I hstep vs 0 s rfl (Nat.zero_le _) h) (fun f s' h' => by cases f with | nx => exact hq _ h' | rt v => exact hr _ _ h') fun _ _ h => h
theorem rangeK1 {b : Int} {n : Nat} (h : b = n) (hn : n <= 100000) : rangeK [.int b] = some (0, 1, (List.range n).map fun (k : Nat) => (k : Int)):=by
 subst h
 have e : rangeL 0 (n : Int) 1 = (List.range n).map fun (k : Nat) => (k : Int):=by
  unfold rangeL; simp
 have L : zLs = 1048576:=by decide
 unfold rangeK
 dsimp only
 rw [if_pos]
 ·rw [e]
 ·rw [e]
  simp [smallI, dcd_iff, L]
  lia
theorem rangeK2 {a b : Int} {x n : Nat} (ha : a = x) (hb : b = x + n) (hn : n <= 100000) (hx : x <= 100000) : rangeK [.int a, .int b] = some ((x : Int), 1, (List.range n).map fun (k : Nat) => (x : Int) + k):=by
 subst ha hb
 have e : rangeL (x : Int) ((x : Int) + n) 1 = (List.range n).map fun (k : Nat) => (x : Int) + k:=by
  have : ((x : Int) + n - x).toNat = n:=by lia
  unfold rangeL; simp [this]
 have L : zLs = 1048576:=by decide
 unfold rangeK
 dsimp only
 rw [if_pos]
 ·rw [e]
 ·rw [e]
  simp [smallI, dcd_iff, L]
  lia
theorem rangeK3 {a : Int} {n : Nat} (ha : a = (n : Int) - 1) (hn : n <= 100000) : rangeK [.int a, .int (-1), .int (-1)] = some (a, -1, (List.range n).map fun (k : Nat) => (n : Int) - 1 - k):=by
 subst ha
 have e : rangeL ((n : Int) - 1) (-1) (-1) = (List.range n).map fun (k : Nat) => (n : Int) - 1 - k:=by
  have : ((n : Int) - 1 - -1).toNat = n:=by lia
  unfold rangeL; simp
 have L : zLs = 1048576:=by decide
 unfold rangeK
 dsimp only
 rw [if_pos]
 ·rw [e]
 ·rw [e]
  simp [smallI, dcd_iff, L]
  lia
theorem range_get {n j : Nat} {f : Nat -> PV} {v : PV} (h : ((List.range n).map f)[j]? = some v) : j < n /\ v = f j:=by
 rw [List.getElem?_map] at h
 by_cases q : j < n
 ·rw [List.getElem?_range q] at h
  cases h
  exact ⟨q, rfl⟩
 ·rw [List.getElem?_eq_none (by simpa using q)] at h
  cases h
inductive WjExX (w : Nat) (bar : Nat) (md : Nat) (a : Act) (c : C) (bs : List Int) (j : Nat) (node : Int) (s : AS) : Prop where
 | mk (c' : _) (h0 : Ws w bar md c' false s) (h1 : Gd c') (h2 : c'.k <= c.k + j) (h3 : runB a c' node (bs.drop j) = runB a c 1 bs) : WjExX w bar md a c bs j node s
structure Wj (w bar md : Nat) (a : Act) (c : C) (bs : List Int) (j : Nat) (n0 : Nat) (m0 : Nat -> AO) (node : Int) (s : AS) : Prop where
 ex : WjExX w bar md a c bs j node s
 fr : MFr [w, bar, md] n0 m0 s.mem
 nx : n0 <= s.nxt
theorem bits_at {bs : List Int} (h : Bits bs) {j : Nat} (hj : j < bs.length) : Bit (bs.getD j 0) /\ bs.drop j = bs.getD j 0 :: bs.drop (j + 1):=by
 rw [yJ, yI hj]
 exact ⟨h _ (List.getElem_mem hj), List.drop_eq_getElem_cons hj⟩
theorem lv_tree {bs : List Int} (hb : Bits bs) {cnt j : Nat} (hc : cnt = bs.length) (hj : j < cnt) : ∃ X, intOp .shr (lv bs.reverse) ((cnt : Int) - 1 - j) = some X /\ X % 2 = bs.getD j 0:=by
 have hbr : Bits bs.reverse:=fun b hb' => hb b (List.mem_reverse.mp hb')
 refine ⟨_, i_shr (Int.sub_nonneg_of_le (Int.le_sub_one_of_lt (Int.ofNat_lt.mpr hj))), ?_⟩
 rw [tnI hj, lv_get hbr _ (by rw [List.length_reverse]; exact rvL hc hj), yJ, yJ, List.getElem?_reverse (rvL hc hj)]
 congr 2
 exact rvN hc hj
inductive DirI (w bar md : Nat) (a : Act) (c : C) (bs : List Int) (n : Nat) (m : Nat -> AO) (j : Nat) (s : AS) : Prop where
 | mk (node : _) (x : _) (h0 : Wj w bar md a c bs j n m node s) (h1 : s.loc = [some (.ref w), some (.int a.cnt), some (.int (lv bs.reverse)), x]) : DirI w bar md a c bs n m j s
theorem direct_sp {w bar md : Nat} {c : C} {s : AS} {a : Act} {bs : List Int} (h : Ws w bar md c false s) (g : Gd c) (hk : c.k <= 800) (hb : Bits bs) (hc : a.cnt = bs.length) (ha : a.way = 1) (h12 : a.cnt <= 12) :
  (F_RangeWriter_direct [.ref w, .int a.cnt, .int (lv bs.reverse)] s).post (fun v s' => v = .none /\ Ws w bar md (runB a c 1 bs) false s' /\ Fr [w, bar, md] s s') NoE:=by
 obtain ⟨l, m, n⟩:=s
 refine yN fun hgl => ?_
 obtain ⟨⟨lw, lb, ne, mb, low, cache, held, e1, e2, I⟩, lm, n1, n2, em⟩:=id h
 refine hgl ?_; clear hgl
 dsimp only at lw lb e1 e2 lm em
 have hbr : Bits bs.reverse:=fun b hb' => hb b (List.mem_reverse.mp hb')
 have hbd:=lv_bd hbr
 rw [List.length_reverse] at hbd
 have hv:=need_value_ap (v:=lv bs.reverse) (c:=(a.cnt : Int)) (Int.natCast_nonneg _) (Int.ofNat_le.mpr (yL h12 (by decide))) hbd.1 (by simpa [hc] using hbd.2)
 have ho:=fun (l : List (Option PV)) (n : Nat) => need_open_ap (l:=l) (n:=n) e1
 have hr:=rangeK3 (a:=(a.cnt : Int) - 1) (n:=a.cnt) rfl (by lia)
 unfold F_RangeWriter_direct B_RangeWriter_direct
 simp [Zq2, Zg0, Zg1, Zg2, Zq3, Zq4, Zq5, Zq6, Zq7, Zq8, Zq9, Zq10, Zq34, Zq35, Zq36, Zq37, Zq57, Zq58, Zq62, Zq63, Zq95, Zq96, Zq97, Zq98, Zh283, bd_ok, ofI_some, ap_binI, rg_some, i_sub, fnM_ap, Nat.reduceSub, Nat.reduceAdd, hv, ho, hr, wf, e1]
 repeat (first | with_reducible refine post_fin ?_ | with_reducible refine post_seq ?_)
 refine forL_post (Qr:=fun _ _ => False) (DirI w bar md a c bs n m) ⟨1, none, ⟨⟨c, ⟨⟨lw, lb, ne, mb, low, cache, held, e1, e2, I⟩, lm, n1, n2, em⟩, g, yM _, rfl⟩, .refl, yM _⟩, rfl⟩ ?_ ?_ (fun _ _ h => h.elim)
 ·intro j hz1 v hv hz4
  refine yN fun hgl => ?_
  obtain ⟨l', m', n'⟩:=hz1
  obtain ⟨node, x, ⟨⟨c', ⟨⟨lw', lb', _, mb', low', cache', held', e1', e2', I'⟩, lm', _, _, em'⟩, g', hk', hrun⟩, fr, nx⟩, hloc⟩:=hz4
  refine hgl ?_; clear hgl
  obtain ⟨hj, rfl⟩ : j < a.cnt /\ v = .int ((a.cnt : Int) - 1 - j):=range_get hv
  dsimp only at lw' lb' e1' e2' lm' em' fr nx hloc
  subst hloc
  obtain ⟨hbj, hdr⟩:=bits_at hb (hc ▸ hj)
  have hX:=lv_tree hb hc hj
  refine yN fun hgl => ?_
  obtain ⟨X, hX1, hX2⟩:=hX
  refine hgl ?_; clear hgl
  rw [hdr] at hrun
  generalize bs.getD j 0 = b at *
  have hsp : spt a node = none:=if_pos ha
  have hrun' : runB a (goC c' none b) (2 * node + b) (bs.drop (j + 1)) = runB a c 1 bs:=by rw [<- hrun]; show _ = runB a (goC c' (spt a node) b) _ _; rw [hsp]
  have g2:=gd_go g' (sp:=none) trivial hbj
  have gk:=go_k c' none b
  have gR:=g'.R1
  have hshr : intOp .shr c'.R 1 = some (c'.R / 2):=by rw [i_shr (by decide)]; rfl
  have fin : ∀ (d : Int) (mem1 : Nat -> AO) (s' : AS), prt c'.R c'.ms none * b = d -> Wr w bar (nrm (c'.N + d) (c'.R / 2) c'.k c'.ms).R (nrm (c'.N + d) (c'.R / 2) c'.k c'.ms).N (nrm (c'.N + d) (c'.R / 2) c'.k c'.ms).R (nrm (c'.N + d) (c'.R / 2) c'.k c'.ms).k false s' ->
   MFr [w, bar, md] n' m' mem1 -> mem1 md = .list (c'.ms.map .int) -> Fr [w, bar] ⟨[some (.ref w), some (.int a.cnt), some (.int (lv bs.reverse)), some (.int ((a.cnt : Int) - 1 - j))], mem1, n'⟩ s' ->
   DirI w bar md a c bs n m (j + 1) s':=fun d mem1 s' a1 W f1 f2 f => by
   have e : goC c' none b = nrm (c'.N + d) (c'.R / 2) c'.k c'.ms:=by rw [<- a1]; rfl
   have ems : (nrm (c'.N + d) (c'.R / 2) c'.k c'.ms).ms = c'.ms:=by unfold nrm; split <;> rfl
   refine ⟨2 * node + b, _, ⟨⟨goC c' none b, ⟨by rw [e]; exact W, yK lm' f.2.1, n1, n2, ?_⟩, g2, leOr hk' gk, hrun'⟩, fr.trans nx (f1.trans (yM _) (f.m sub2)), yL nx f.2.1⟩, f.1⟩
   rw [e, ems]
   exact (f.2.2 md lm' (by simp [n1, n2])).trans f2
  rcases hbj with rfl | rfl
  ·simp [Zq2, Zg0, Zg2, Zg3, Zu3, Zq3, Zq7, Zq8, Zq11, Zq12, Zq35, Zq36, Zq37, Zq43, Zq50, Zq51, Zq52, Zq53, Zq54, Zq55, Zq56, Zq57, Zq58, Zq62, Za283_2, Zb283_2, Zh283, Zcm1, bd_ok, ofI_some, ap_binI, ap_cmpI, ap_attr, ap_setAttr, zus, i_band, ifK_f, wf, e1', hX1, hX2, band1, hshr]
   repeat (first | with_reducible refine post_fin ?_ | with_reducible refine post_seq ?_)
   refine bd_post (fill_sp (bar:=bar) (N:=c'.N + 0) (R:=c'.R / 2) (k:=c'.k) (cl:=false) c'.ms ⟨lw', lb', ne, mb', low' + 0, cache', held', ?_, ?_, winv_step I' (by lia) (by lia) (by lia)⟩ (by lia) (by lia)) ?_ fun _ _ h => h
   ·simp [zus, wf]
   ·simp [zun, ne.symm, e2']
   rintro v s' ⟨rfl, W, f⟩
   simp only [Zq56, Zq63, post_ok]
   refine fin 0 _ s' (by simp) W ?_ ((zun n1).trans em') f
   repeat' first | exact MFr.refl | (refine MFr.own ?_ (.head _)) | (refine MFr.own ?_ (.tail _ (.head _))) | (refine MFr.own ?_ (.tail _ (.tail _ (.head _)))) | (refine MFr.new ?_ (by lia))
  ·simp [Zq2, Zg0, Zg2, Zg3, Zu3, Zq3, Zq7, Zq8, Zq11, Zq12, Zq35, Zq36, Zq37, Zq41, Zq43, Zq50, Zq51, Zq52, Zq53, Zq54, Zq55, Zq56, Zq57, Zq58, Zq62, Za283_1, Zb283_1, Za283_2, Zb283_2, Zh283, Zcm1, bd_ok, ofI_some, ap_binI, ap_cmpI, ap_attr, ap_setAttr, zus, i_add, i_band, ifK_t, wf, e1', hX1, hX2, band1, hshr]
   repeat (first | with_reducible refine post_fin ?_ | with_reducible refine post_seq ?_)
   refine bd_post (fill_sp (bar:=bar) (N:=c'.N + c'.R / 2) (R:=c'.R / 2) (k:=c'.k) (cl:=false) c'.ms ⟨lw', lb', ne, mb', low' + c'.R / 2, cache', held', ?_, ?_, winv_step I' (by lia) (by lia) (by lia)⟩ (by lia) (by lia)) ?_ fun _ _ h => h
   ·simp [zus, wf]
   ·simp [zun, ne.symm, e2']
   rintro v s' ⟨rfl, W, f⟩
   simp only [Zq56, Zq63, post_ok]
   refine fin _ _ s' (Int.mul_one _) W ?_ ?_ f
   ·repeat' first | exact MFr.refl | (refine MFr.own ?_ (.head _)) | (refine MFr.own ?_ (.tail _ (.head _))) | (refine MFr.own ?_ (.tail _ (.tail _ (.head _)))) | (refine MFr.new ?_ (by lia))
   ·simp [zun, n1, em']
 ·intro s' hz1
  refine yN fun hgl => ?_
  obtain ⟨node, x, ⟨⟨c', W, g', hk', hrun⟩, fr, nx⟩, hloc⟩:=hz1
  refine hgl ?_; clear hgl
  simp only [yG, List.length_range] at hrun
  rw [hc, List.drop_length] at hrun
  have e : c' = runB a c 1 bs:=hrun
  rw [<- e]
  exact ⟨rfl, ⟨⟨W.wr.lw, W.wr.lb, W.wr.ne, W.wr.ex⟩, W.lm, W.n1, W.n2, W.em⟩, rfl, nx, fr⟩
inductive TreeI (w bar md : Nat) (a : Act) (c : C) (bs : List Int) (n : Nat) (m : Nat -> AO) (V : Int) (j : Nat) (s : AS) : Prop where
 | mk (node : _) (x : _) (y : _) (h0 : (1 <= node /\ node < 2 ^ (j + 1))) (h1 : Wj w bar md a c bs j n m node s) (h2 : s.loc = [some (.ref w), some (.ref md), some (.int a.at'), some (.int a.cnt), some (.int V), some (.int node), x, y]) : TreeI w bar md a c bs n m V j s
theorem bor_bit {node b : Int} (h : 1 <= node) (hb : Bit b) : Builtin.bitOr (node * 2) b = 2 * node + b:=by
 have:=bor_add (a:=node) (b:=b) (n:=1) (by omega) (by rcases hb with rfl | rfl <;> decide) (by rcases hb with rfl | rfl <;> decide)
 rw [show node * 2 = node * 2 ^ 1 by simp, this]
 lia
theorem pow_node {node b : Int} {j : Nat} (h : 1 <= node /\ node < 2 ^ (j + 1)) (hb : Bit b) : 1 <= 2 * node + b /\ 2 * node + b < 2 ^ (j + 1 + 1):=by
 have : (2 : Int) ^ (j + 1 + 1) = 2 ^ (j + 1) * 2:=Int.pow_succ _ _
 rcases hb with rfl | rfl <;> omega
theorem pow_small {node : Int} {j : Nat} (h : node < 2 ^ (j + 1)) (hj : j <= 20) : node < 10000000:=by
 have : ∀ j : Nat, j <= 20 -> (2 : Int) ^ (j + 1) <= 2097152:=by decide
 have:=this j hj
 omega
theorem tree_step {w bar md : Nat} {a : Act} {c : C} {bs : List Int} {n : Nat} {m : Nat -> AO} {V p : Int} {j : Nat} {s : AS} (ha : ActOk a) (hw : 2 <= a.way) (hk : c.k <= 800) (hb : Bits bs) (hc : a.cnt = bs.length) (hj : j < a.cnt)
  (hX : ∃ X, intOp .shr V p = some X /\ X % 2 = bs.getD j 0) (h : TreeI w bar md a c bs n m V j s) :
  ((setL 6 (.int p) s).bd fun _ s => sSeq [sAsg 7 (eBin .band (eBin .shr (eL 4) (eL 6)) (eK (.int 1))),
  sExp (eMeth 283 F_RangeWriter_bit (eL 0) [(eL 1), (eBin .add (eL 2) (eL 5)), (eL 7)]),
  sAsg 5 (eBin .bor (eBin .shl (eL 5) (eK (.int 1))) (eL 7))] s).post (fun f s' => match f with | .nx => TreeI w bar md a c bs n m V (j + 1) s' | .rt _ => False) NoE:=by
 obtain ⟨l', m', n'⟩:=s
 refine yN fun hgl => ?_
 obtain ⟨node, x, y, hnode, ⟨⟨c', W, g', hk', hrun⟩, fr, nx⟩, hloc⟩:=h
 refine hgl ?_; clear hgl
 dsimp only at fr nx hloc
 subst hloc
 obtain ⟨hbj, hdr⟩:=bits_at hb (hc ▸ hj)
 refine yN fun hgl => ?_
 obtain ⟨X, hX1, hX2⟩:=hX
 refine hgl ?_; clear hgl
 rw [hdr] at hrun
 generalize bs.getD j 0 = b at *
 have hsp : spt a node = some (a.at' + node):=by unfold spt; rw [if_neg (by omega), if_pos (by omega), Int.mul_one]
 have hso:=spt_ok ha hnode.1 hnode.2 hj
 rw [hsp] at hso
 have hrun' : runB a (goC c' (some (a.at' + node)) b) (2 * node + b) (bs.drop (j + 1)) = runB a c 1 bs:=by rw [<- hrun]; show _ = runB a (goC c' (spt a node) b) _ _; rw [hsp]
 have g2:=gd_go g' (sp:=some (a.at' + node)) hso hbj
 have gk:=go_k c' (some (a.at' + node)) b
 have h12:=ha.c.2
 have hsm:=pow_small hnode.2 (by lia)
 have hshl : intOp .shl node 1 = some (node * 2):=by rw [i_shl (by decide) (by decide) (nab (by omega) (by omega))]; rfl
 have em:=W.wr.ex
 obtain ⟨mb, low, cache, held, e1, e2, I⟩:=em
 dsimp only at e1
 simp [Zq2, Zg0, Zg1, Zg2, Zg4, Zg5, Zg6, Zg7, Zt7, Zu6, Zq3, Zq4, Zq5, Zq6, Zq7, Zq8, Zq35, Zq36, Zq37, Zq42, Zq57, Zq58, Zq62, Zh283, bd_ok, ofI_some, ap_binI, i_add, i_band, wf, e1, hX1, hX2, band1]
 repeat (first | with_reducible refine post_fin ?_ | with_reducible refine post_seq ?_)
 refine bd_post (bit_sp (c:=c') (bar:=bar) ⟨⟨W.wr.lw, W.wr.lb, W.wr.ne, W.wr.ex⟩, W.lm, W.n1, W.n2, W.em⟩ g' (by lia) hso hbj) ?_ fun _ _ h => h
 rintro v ⟨l2, m2, n2⟩ ⟨rfl, W2, f⟩
 obtain ⟨f1, f2, f3⟩:=f
 dsimp only at f1 f2 f3
 subst f1
 simp [Zq2, Zg5, Zg7, Zt5, Zq7, Zq8, Zq42, Zq56, Zq57, Zq58, Zq63, bd_ok, ofI_some, ap_binI, i_bor, post_ok, hshl, bor_bit hnode.1 hbj]
 exact ⟨_, _, _, pow_node hnode hbj, ⟨⟨_, ⟨⟨W2.wr.lw, W2.wr.lb, W2.wr.ne, W2.wr.ex⟩, W2.lm, W2.n1, W2.n2, W2.em⟩, g2, leOr hk' (go_k _ _ _), hrun'⟩, fr.trans nx f3, yL nx f2⟩, rfl⟩
theorem lv_rev {bs : List Int} (hb : Bits bs) {j : Nat} (hj : j < bs.length) : ∃ X, intOp .shr (lv bs) (j : Int) = some X /\ X % 2 = bs.getD j 0:=by
 refine ⟨_, i_shr (by lia), ?_⟩
 have e : (j : Int).toNat = j:=rfl
 rw [e, lv_get hb _ hj]
theorem tree_sp {w bar md : Nat} {c : C} {s : AS} {a : Act} {bs : List Int} (h : Ws w bar md c false s) (g : Gd c) (hk : c.k <= 800) (hb : Bits bs) (hc : a.cnt = bs.length) (ha : ActOk a) (hw : 2 <= a.way) :
  (F_RangeWriter_tree [.ref w, .ref md, .int a.at', .int a.cnt, .int (lv bs.reverse)] s).post (fun v s' => v = .none /\ Ws w bar md (runB a c 1 bs) false s' /\ Fr [w, bar, md] s s') NoE:=by
 obtain ⟨l, m, n⟩:=s
 have hbr : Bits bs.reverse:=fun b hb' => hb b (List.mem_reverse.mp hb')
 have hbd:=lv_bd hbr
 rw [List.length_reverse] at hbd
 have h12:=ha.c
 have hv:=need_value_ap (v:=lv bs.reverse) (c:=(a.cnt : Int)) (Int.natCast_nonneg _) (Int.ofNat_le.mpr (yL ha.c.2 (by decide))) hbd.1 (by simpa [hc] using hbd.2)
 have hr:=rangeK3 (a:=(a.cnt : Int) - 1) (n:=a.cnt) rfl (by omega)
 unfold F_RangeWriter_tree B_RangeWriter_tree
 simp [Zq2, Zg3, Zg4, Zt5, Zq3, Zq4, Zq5, Zq6, Zq7, Zq8, Zq9, Zq10, Zq34, Zq42, Zq57, Zq58, Zq62, Zq63, Zq95, Zq96, Zq97, Zq98, bd_ok, ofI_some, ap_binI, rg_some, i_sub, fnM_ap, List.replicate, Nat.reduceSub, Nat.reduceAdd, hv, hr]
 repeat (first | with_reducible refine post_fin ?_ | with_reducible refine post_seq ?_)
 refine forL_post (Qr:=fun _ _ => False) (TreeI w bar md a c bs n m (lv bs.reverse)) ?_ ?_ ?_ (fun _ _ h => h.elim)
 ·exact ⟨1, none, none, by decide, ⟨⟨c, ⟨⟨h.wr.lw, h.wr.lb, h.wr.ne, h.wr.ex⟩, h.lm, h.n1, h.n2, h.em⟩, g, yM _, rfl⟩, .refl, yM _⟩, rfl⟩
 ·intro j s v hv hI
  obtain ⟨hj, rfl⟩ : j < a.cnt /\ v = .int ((a.cnt : Int) - 1 - j):=range_get hv
  exact tree_step ha hw hk hb hc hj (lv_tree hb hc hj) hI
 ·intro s' hz1
  refine yN fun hgl => ?_
  obtain ⟨node, x, y, _, ⟨⟨c', W, g', hk', hrun⟩, fr, nx⟩, hloc⟩:=hz1
  refine hgl ?_; clear hgl
  simp only [yG, List.length_range] at hrun
  rw [hc, List.drop_length] at hrun
  have e : c' = runB a c 1 bs:=hrun
  rw [<- e]
  exact ⟨rfl, ⟨⟨W.wr.lw, W.wr.lb, W.wr.ne, W.wr.ex⟩, W.lm, W.n1, W.n2, W.em⟩, rfl, nx, fr⟩
theorem reverse_sp {w bar md : Nat} {c : C} {s : AS} {a : Act} {bs : List Int} (h : Ws w bar md c false s) (g : Gd c) (hk : c.k <= 800) (hb : Bits bs) (hc : a.cnt = bs.length) (ha : ActOk a) (hw : 2 <= a.way) :
  (F_RangeWriter_reverse [.ref w, .ref md, .int a.at', .int a.cnt, .int (lv bs)] s).post (fun v s' => v = .none /\ Ws w bar md (runB a c 1 bs) false s' /\ Fr [w, bar, md] s s') NoE:=by
 refine yN fun hgl => ?_
 obtain ⟨l, m, n⟩:=s
 refine hgl ?_; clear hgl
 have hbd:=lv_bd hb
 have h12:=ha.c
 have hv:=need_value_ap (v:=lv bs) (c:=(a.cnt : Int)) (Int.natCast_nonneg _) (Int.ofNat_le.mpr (yL ha.c.2 (by decide))) hbd.1 (by simpa [hc] using hbd.2)
 have hr:=rangeK1 (b:=(a.cnt : Int)) (n:=a.cnt) rfl (by omega)
 unfold F_RangeWriter_reverse B_RangeWriter_reverse
 simp [Zq2, Zg3, Zg4, Zt5, Zq3, Zq4, Zq5, Zq6, Zq34, Zq42, Zq57, Zq58, Zq62, Zq63, Zq95, Zq96, Zq97, Zq98, bd_ok, rg_some, fnM_ap, List.replicate, Nat.reduceSub, Nat.reduceAdd, hv, hr]
 repeat (first | with_reducible refine post_fin ?_ | with_reducible refine post_seq ?_)
 refine forL_post (Qr:=fun _ _ => False) (TreeI w bar md a c bs n m (lv bs)) ?_ ?_ ?_ (fun _ _ h => h.elim)
 ·exact ⟨1, none, none, by decide, ⟨⟨c, ⟨⟨h.wr.lw, h.wr.lb, h.wr.ne, h.wr.ex⟩, h.lm, h.n1, h.n2, h.em⟩, g, yM _, rfl⟩, .refl, yM _⟩, rfl⟩
 ·intro j s v hv hI
  obtain ⟨hj, rfl⟩ : j < a.cnt /\ v = .int (j : Int):=range_get hv
  exact tree_step ha hw hk hb hc hj (lv_rev hb (by lia)) hI
 ·rintro s' ⟨node, x, y, _, ⟨⟨c', W, g', hk', hrun⟩, fr, nx⟩, hloc⟩
  simp only [yG, List.length_range] at hrun
  rw [hc, List.drop_length] at hrun
  have e : c' = runB a c 1 bs:=hrun
  rw [<- e]
  exact ⟨rfl, ⟨⟨W.wr.lw, W.wr.lb, W.wr.ne, W.wr.ex⟩, W.lm, W.n1, W.n2, W.em⟩, rfl, nx, fr⟩
noncomputable def amtV : Option Int -> PV
 | none => .none
 | some v => .int v
noncomputable def actV (a : Act) : PV:=.tup [.int a.way, .int a.at', .int a.cnt, amtV a.amt]
noncomputable def Res.itT (o : Option PV) (s : AS) : Res PV:=match o with
 | some v => .ok v s
 | none => .stuck "tuple item"
theorem ap_sbT (s : AS) (vs : List PV) (k : Int) : subM (.tup vs) (.int k) s = Res.itT (idx vs k) s:=rfl
theorem it_some (v : PV) (s : AS) : Res.itT (some v) s = .ok v s:=rfl
theorem idx_0 {α : Type} (a : α) (r : List α) : idx (a :: r) 0 = some a:=rfl
theorem idx_1 {α : Type} (a b : α) (r : List α) : idx (a :: b :: r) 1 = some b:=rfl
theorem idx_2 {α : Type} (a b c : α) (r : List α) : idx (a :: b :: c :: r) 2 = some c:=rfl
theorem write_sp {w bar md : Nat} {c : C} {s : AS} {a : Act} {bs : List Int} (h : Ws w bar md c false s) (g : Gd c) (hk : c.k <= 800) (hb : Bits bs) (hc : a.cnt = bs.length) (ha : ActOk a) :
  (F_law_write [.ref w, .ref md, actV a, .int (numOf a bs)] s).post (fun v s' => v = .none /\ Ws w bar md (runB a c 1 bs) false s' /\ Fr [w, bar, md] s s') NoE:=by
 obtain ⟨l, m, n⟩:=s
 obtain ⟨mb, low, cache, held, e1, e2, I⟩:=h.wr.ex
 dsimp only at e1
 have hW : ∀ l, Ws w bar md c false ⟨l, m, n⟩:=fun l => ⟨⟨h.wr.lw, h.wr.lb, h.wr.ne, h.wr.ex⟩, h.lm, h.n1, h.n2, h.em⟩
 have out : ∀ (v : PV) (s' : AS) (l' : List (Option PV)), (v = .none /\ Ws w bar md (runB a c 1 bs) false s' /\ Fr [w, bar, md] ⟨l', m, n⟩ s') -> v = .none /\ (Ws w bar md (runB a c 1 bs) false ⟨l, s'.mem, s'.nxt⟩ /\ Fr [w, bar, md] ⟨l, m, n⟩ ⟨l, s'.mem, s'.nxt⟩):=fun v s' l' ⟨a1, W, f⟩ =>
  ⟨a1, ⟨⟨W.wr.lw, W.wr.lb, W.wr.ne, W.wr.ex⟩, W.lm, W.n1, W.n2, W.em⟩, rfl, f.2.1, f.2.2⟩
 have hw:=ha.w
 unfold F_law_write B_law_write actV numOf
 have w4:=way4 hw
 rcases w4 with q | q | q | q
 ·have hc1 : bs.length = 1:=by rw [<- hc]; exact ha.c0 q
  obtain ⟨b, rfl⟩:=List.length_eq_one_iff.mp hc1
  have hbb:=hb b (.head _)
  simp [Zq2, Zg0, Zg1, Zg2, Zg3, Zq3, Zq4, Zq5, Zq6, Zq11, Zq12, Zq35, Zq36, Zq37, Zq55, Zq57, Zq62, Zq65, Zq66, Zh283, Zcm1, bd_ok, ap_cmpI, fnM_ap, ifK_t, Nat.reduceAdd, ap_sbT, it_some, idx_0, idx_1, q, e1, wf, lv]
  repeat (first | with_reducible refine post_fin ?_ | with_reducible refine post_seq ?_)
  refine bd_post (bit_sp (hW _) g (by lia) (i:=a.at') ⟨ha.a0, by have:=ha.a1 q; lia⟩ hbb) ?_ fun _ _ h => h
  intro v s' h'
  have hr : goC c (some a.at') b = runB a c 1 [b]:=by
   show _ = goC c (spt a 1) b
   unfold spt
   rw [if_neg (by lia), if_neg (by lia), Int.mul_zero, Int.add_zero]
  rw [hr] at h'
  obtain ⟨rfl, o⟩:=out v s' _ h'
  exact ⟨rfl, o⟩
 ·simp [Zq2, Zg0, Zg2, Zg3, Zq3, Zq4, Zq5, Zq6, Zq11, Zq12, Zq35, Zq36, Zq37, Zq55, Zq57, Zq62, Zq65, Zq66, Zh283, Zcm1, bd_ok, ap_cmpI, fnM_ap, ifK_t, ifK_f, Nat.reduceAdd, ap_sbT, it_some, idx_0, idx_2, q, e1, wf]
  repeat (first | with_reducible refine post_fin ?_ | with_reducible refine post_seq ?_)
  refine bd_post (direct_sp (hW _) g hk hb hc q ha.c.2) ?_ fun _ _ h => h
  intro v s' h'
  obtain ⟨rfl, o⟩:=out v s' _ h'
  exact ⟨rfl, o⟩
 ·simp [Zq2, Zg0, Zg1, Zg2, Zg3, Zq3, Zq4, Zq5, Zq6, Zq11, Zq12, Zq35, Zq36, Zq37, Zq55, Zq57, Zq62, Zq65, Zq66, Zh283, Zcm1, bd_ok, ap_cmpI, fnM_ap, ifK_t, ifK_f, Nat.reduceAdd, ap_sbT, it_some, idx_0, idx_1, idx_2, q, e1, wf]
  repeat (first | with_reducible refine post_fin ?_ | with_reducible refine post_seq ?_)
  refine bd_post (tree_sp (hW _) g hk hb hc ha (by lia)) ?_ fun _ _ h => h
  intro v s' h'
  obtain ⟨rfl, o⟩:=out v s' _ h'
  exact ⟨rfl, o⟩
 ·simp [Zq2, Zg0, Zg1, Zg2, Zg3, Zq3, Zq4, Zq5, Zq6, Zq11, Zq12, Zq35, Zq36, Zq37, Zq55, Zq57, Zq62, Zq65, Zq66, Zh283, Zcm1, bd_ok, ap_cmpI, fnM_ap, ifK_f, Nat.reduceAdd, ap_sbT, it_some, idx_0, idx_1, idx_2, q, e1, wf]
  repeat (first | with_reducible refine post_fin ?_ | with_reducible refine post_seq ?_)
  refine bd_post (reverse_sp (hW _) g hk hb hc ha (by lia)) ?_ fun _ _ h => h
  intro v s' h'
  obtain ⟨rfl, o⟩:=out v s' _ h'
  exact ⟨rfl, o⟩
noncomputable def rowV (way at' cnt x : Int) : PV:=.tup [.tup [.int way, .int at', .int cnt], .int x]
theorem fresh_ap (s : AS) : F_fresh_models [.int 80] s = .ok (.ref (s.nxt + 1)) ⟨s.loc, upd (upd s.mem s.nxt (.list [.int 1024])) (s.nxt + 1) (.list (List.replicate 80 (.int 1024))), s.nxt + 2⟩:=by
 obtain ⟨l, m, n⟩:=s
 unfold F_fresh_models B_fresh_models
 have hb : ∀ l', binM .mul (.ref n) (.int 80) ⟨l', upd m n (.list [.int 1024]), n + 1⟩ = .ok (.ref (n + 1)) ⟨l', upd (upd m n (.list [.int 1024])) (n + 1) (.list (List.replicate 80 (.int 1024))), n + 2⟩:=fun l' => by
  unfold binM
  dsimp only
  rw [zus]
  dsimp only
  rw [if_pos (by decide)]
  rfl
 simp [Zq2, Zg0, Zq3, Zq4, Zq5, Zq6, Zq7, Zq8, Zq57, Zq59, Zq60, Zq61, Zq69, Zq70, bd_ok, fnM_ap, fin_rt, List.replicate, hb]
noncomputable def c0 : C:=⟨0, 4294967295, 0, List.replicate 80 1024⟩
theorem gd_c0 : Gd c0:=⟨by decide, by decide, by decide, by decide, ⟨by decide, fun x hx => by
 have:=List.eq_of_mem_replicate hx
 subst this; decide⟩⟩
theorem winit_sp {s : AS} {w : Nat} (hw : w < s.nxt) (hi : s.mem w = .inst 283 []) : (F_RangeWriter_init [.ref w] s).post (fun v s' => v = .none /\ Wr w s.nxt 4294967295 0 4294967295 0 false s' /\ Fr [w] s s') NoE:=by
 obtain ⟨l, m, n⟩:=s
 dsimp only at hw hi
 have hn : w ≠ n:=Nat.ne_of_lt hw
 unfold F_RangeWriter_init B_RangeWriter_init
 simp [Zq2, Zg0, Zq43, Zq44, Zq45, Zq46, Zq56, Zq57, Zq58, Zc283_0, Zc283_1, Zc283_2, Zc283_3, Zc283_4, Zc283_5, bd_ok, ap_setAttr, ap_eBarr, zus, fnM_ap, fin_nx, post_ok, ne_eq, not_false_eq_true, hi, zun, hn]
 refine ⟨⟨lt_up hw, Nat.lt_succ_self _, hn, [], 0, 0, 1, ?_, ?_, ?_⟩, MFr.fr ?_ (by lia)⟩
 ·simp [zus, wf]
 ·simp [zun, hn.symm, zus]
 ·exact ⟨by decide, by decide, by decide, by decide, by decide, by decide, by decide, by decide⟩
 repeat' first | exact MFr.refl | (refine MFr.own ?_ (.head _)) | (refine MFr.own ?_ (.tail _ (.head _))) | (refine MFr.own ?_ (.tail _ (.tail _ (.head _)))) | (refine MFr.new ?_ (by lia))
theorem size_ap {w bar : Nat} {sp N R : Int} {k : Nat} {s : AS} (h : Wr w bar sp N R k false s) (hk : k <= 1000) : F_RangeWriter_size [.ref w] s = .ok (.int (k + 5)) s:=by
 obtain ⟨l, m, n⟩:=s
 obtain ⟨lw, lb, ne, mb, low, cache, held, e1, e2, I⟩:=h
 dsimp only at e1 e2
 have L : zLs = 1048576:=by decide
 have hl:=I.len
 have hh:=I.h
 have hb : mb.length <= zLs:=by lia
 have e : (mb.length : Int) + (held + 5 - 1) = k + 5:=by lia
 unfold F_RangeWriter_size B_RangeWriter_size
 simp [Zq2, Zg0, Zq7, Zq8, Zq17, Zq26, Zq41, Zq57, Zq59, Zq60, Zq61, Za283_0, Za283_4, Za283_5, bd_ok, ofI_some, ap_binI, ap_truthB, ap_attr, ap_eLen, i_add, i_sub, fnM_ap, fin_rt, ifK_f, e1, e2, wf, ap_lnR, Res.lnB, hb, e]
theorem size_cl {w bar : Nat} {low sp cache held : Int} {mb : List UInt8} {l : List (Option PV)} {m : Nat -> AO} {n : Nat} (e1 : m w = .inst 283 (wf bar low sp cache held true)) (e2 : m bar = .barr mb) (hb : mb.length <= zLs) :
  F_RangeWriter_size [.ref w] ⟨l, m, n⟩ = .ok (.int mb.length) ⟨l, m, n⟩:=by
 unfold F_RangeWriter_size B_RangeWriter_size
 simp [Zq2, Zg0, Zq7, Zq8, Zq17, Zq26, Zq41, Zq57, Zq59, Zq60, Zq61, Za283_0, Za283_5, bd_ok, ofI_some, ap_binI, ap_truthB, ap_attr, ap_eLen, i_add, fnM_ap, fin_rt, ifK_t, e1, e2, wf, ap_lnR, Res.lnB, hb]
inductive WcExX (w : Nat) (bar : Nat) (mb : List UInt8) (mm : Nat -> AO) : Prop where
 | mk (low : _) (sp : _) (cache : _) (held : _) (h0 : mm w = .inst 283 (wf bar low sp cache held true)) (h1 : mm bar = .barr mb) : WcExX w bar mb mm
structure Wc (w bar : Nat) (mb : List UInt8) (s : AS) : Prop where
 lw : w < s.nxt
 lb : bar < s.nxt
 ne : w ≠ bar
 ex : WcExX w bar mb s.mem
inductive DoneI (w bar : Nat) (sp N : Int) (k n : Nat) (m : Nat -> AO) (j : Nat) (s : AS) : Prop where
 | mk (x : _) (mb : _) (low : _) (cache : _) (held : _) (h0 : s.mem w = .inst 283 (wf bar low sp cache held false)) (h1 : s.mem bar = .barr mb) (h2 : WInv (N * 256 ^ j) 1 (k + j) mb low cache held) (h3 : (j <= 4 -> low % 256 ^ j = 0)) (h4 : (1 <= j -> low < 4294967296)) (h5 : (5 <= j -> low = 0 /\ held = 1 /\ cache = 0)) (h6 : MFr [w, bar] n m s.mem) (h7 : n <= s.nxt) (h8 : s.loc = [some (.ref w), x]) : DoneI w bar sp N k n m j s
theorem done_sp {w bar : Nat} {sp N R : Int} {k : Nat} {s : AS} (h : Wr w bar sp N R k false s) (hk : k <= 900) :
  (F_RangeWriter_done [.ref w] s).post (fun v s' => ∃ mb, v = .byt mb /\ vb mb = N /\ mb.length = k + 5 /\ Wc w bar mb s' /\ Fr [w, bar] s s') NoE:=by
 obtain ⟨l, m, n⟩:=s
 obtain ⟨lw, lb, ne, mb, low, cache, held, e1, e2, I⟩:=h
 dsimp only at lw lb e1 e2
 have hr:=rangeK1 (b:=5) (n:=5) rfl (by lia)
 unfold F_RangeWriter_done B_RangeWriter_done
 simp [Zq2, Zg0, Zq3, Zq4, Zq5, Zq6, Zq17, Zq18, Zq19, Zq41, Zq55, Zq57, Zq95, Zq96, Zq97, Zq98, Za283_5, bd_ok, ap_truthB, ap_attr, rg_some, fnM_ap, ifK_t, e1, wf, hr]
 repeat (first | with_reducible refine post_fin ?_ | with_reducible refine post_seq ?_)
 refine forL_post (Qr:=fun _ _ => False) (DoneI w bar sp N k n m) ?_ ?_ ?_ (fun _ _ h => h.elim)
 ·refine ⟨none, mb, low, cache, held, e1, e2, ?_, fun _ => Int.emod_one _, fun q => absurd q (by lia), fun q => absurd q (by lia), .refl, yM _, rfl⟩
  have:=I.mono (R':=1) I.pos (by lia)
  simpa using this
 ·rintro j ⟨l', m', n'⟩ v hv ⟨x, mb', low', cache', held', a1, a2, I', b1, b2, b3, fr, nx, hloc⟩
  obtain ⟨hj, rfl⟩ : j < 5 /\ v = .int (j : Int):=range_get hv
  dsimp only at a1 a2 fr nx hloc
  subst hloc
  have hl:=I'.l
  simp [Zg0, Zu1, Zq3, Zq35, Zq36, Zq37, Zq57, Zq62, Zh283, bd_ok, a1, wf]
  repeat (first | with_reducible refine post_fin ?_ | with_reducible refine post_seq ?_)
  refine bd_post (shift_ex (w:=w) (bar:=bar) (yK lw nx) (yK lb nx) ne a1 a2 I' (by lia) (by lia)) ?_ fun _ _ h => h
  rintro v ⟨l2, m2, n2⟩ ⟨rfl, ⟨mb2, cache2, held2, c1, c2, c3, c4⟩, f⟩
  obtain ⟨f1, f2, f3⟩:=f
  dsimp only at f1 f2 f3 c1 c2
  subst f1
  simp only [Zq56, Zq63, post_ok]
  have hp : N * 256 ^ (j + 1) = N * 256 ^ j * 256:=by rw [Int.pow_succ, Int.mul_assoc]
  refine ⟨_, mb2, _, cache2, held2, c1, c2, ?_, fun q => ?_, fun _ => by lia, fun q => ?_, fr.trans nx f3, yL nx f2, rfl⟩
  ·rw [hp]
   exact c3.mono (by lia) (by lia)
  ·have:=b1 (by lia)
   have hj4 : j = 0 \/ j = 1 \/ j = 2 \/ j = 3:=by lia
   rcases hj4 with rfl | rfl | rfl | rfl <;> simp at this ⊢ <;> lia
  ·have hj4 : j = 4:=by lia
   subst hj4
   have:=b1 (by lia)
   have:=b2 (by lia)
   have h0 : low' = 0:=by simp at *; lia
   subst h0
   obtain ⟨d1, d2⟩:=c4 (by decide)
   exact ⟨by decide, d1, by rw [d2]; decide⟩
 ·rintro ⟨l', m', n'⟩ ⟨x, mb', low', cache', held', a1, a2, I', b1, b2, b3, fr, nx, hloc⟩
  dsimp only at a1 a2 fr nx hloc
  subst hloc
  refine yN fun hgl => ?_
  obtain ⟨rfl, rfl, rfl⟩:=b3 (by simp)
  refine hgl ?_; clear hgl
  have L : zLs = 1048576:=by decide
  have hlen:=I'.len
  simp only [yG, List.length_range] at hlen I'
  have hl2 : mb'.length = k + 5:=by lia
  have hlz : mb'.length <= zLs:=by lia
  have hval:=I'.val
  have hlz2 : k + 5 <= zLs:=by lia
  have e5 : N = vb mb':=by
   simp at hval
   lia
  simp [Zq2, Zg0, Zq41, Zq43, Zq44, Zq45, Zq46, Zq56, Zq57, Zq58, Zq59, Zq60, Zq61, Za283_0, Zb283_5, bd_ok, ap_attr, ap_setAttr, ap_eBytes, zus, post_ok, ne_eq, not_false_eq_true, a1, a2, wf, ap_byB, Res.byB, zun, ne.symm, hlz2, hl2]
  refine ⟨e5.symm, ⟨yK lw nx, yK lb nx, ne, _, _, _, _, zus _ _ _, (zun ne.symm).trans a2⟩, MFr.fr ?_ nx⟩
  exact fr.own (.head _)
theorem done_cl {w bar : Nat} {mb : List UInt8} {s : AS} (h : Wc w bar mb s) (hb : mb.length <= zLs) : F_RangeWriter_done [.ref w] s = .ok (.byt mb) s:=by
 obtain ⟨l, m, n⟩:=s
 obtain ⟨lw, lb, ne, low, sp, cache, held, e1, e2⟩:=h
 dsimp only at e1 e2
 unfold F_RangeWriter_done B_RangeWriter_done
 simp [Zg0, Zq17, Zq18, Zq19, Zq41, Zq55, Zq56, Zq57, Zq58, Zq59, Zq60, Zq61, Za283_0, Za283_5, bd_ok, ap_truthB, ap_attr, ap_eBytes, fnM_ap, fin_rt, ifK_f, e1, e2, wf, ap_byB, Res.byB, hb]
theorem forL_cons (tgt : PV -> M Unit) (body : S) (v : PV) (r : List PV) (s : AS) : forL tgt body (v :: r) s = ((tgt v s).bd fun _ s => body s).sq (forL tgt body r):=by
 show bnd (tgt v) _ s = _
 rw [bnd_ap]
 cases tgt v s with
 | ok u s1 =>
  show bnd body _ s1 = _
  rw [bnd_ap]
  show Res.bd _ _ = Res.sq (body s1) _
  cases body s1 with
  | ok f s2 => cases f <;> rfl
  | exc => rfl
  | stuck => rfl
 | exc => rfl
 | stuck => rfl
theorem forLive_s {tgt : PV -> M Unit} {body : S} {vs : List PV} {i k j : Nat} {s : AS} {v : PV} (h1 : s.mem i = .list vs) (h2 : vs[j]? = some v) : forLive tgt body i (k + 1) j s = ((tgt v s).bd fun _ s => body s).sq (forLive tgt body i k (j + 1)):=by
 conv => lhs; unfold forLive
 simp only [h1, h2]
 show bnd (tgt v) _ s = _
 rw [bnd_ap]
 cases tgt v s with
 | ok u s1 =>
  show bnd body _ s1 = _
  rw [bnd_ap]
  show Res.bd _ _ = Res.sq (body s1) _
  cases body s1 with
  | ok f s2 => cases f <;> rfl
  | exc => rfl
  | stuck => rfl
 | exc => rfl
 | stuck => rfl
theorem mth_e {o : AO} {C : Nat} {fs : List (Nat × PV)} (e : o = .inst C fs) (r : Res PV) : Res.mth o C r = r:=by rw [e]; exact mth_inst _ _ _
theorem forLive_inv {tgt : PV -> M Unit} {body : S} {E : Nat -> AS -> Prop} {Qr : PV -> AS -> Prop} {vs : List PV} {i : Nat} (I : Nat -> AS -> Prop) (hm : ∀ j s, I j s -> s.mem i = .list vs)
  (hstep : ∀ j s v, vs[j]? = some v -> I j s -> ((tgt v s).bd fun _ s => body s).post (fun f s' => match f with | .nx => I (j + 1) s' | .rt v => Qr v s') E) :
  ∀ (r : List PV) (j : Nat) (s : AS), vs.drop j = r -> j <= vs.length -> I j s -> (forLive tgt body i (r.length + 1) j s).post (fun f s' => match f with | .nx => I vs.length s' | .rt v => Qr v s') E
 | [], j, s, hr, hj, h => by
  have : j = vs.length:=drop_nil_len hr hj
  subst this
  unfold forLive
  rw [hm _ _ h]
  dsimp only
  rw [List.getElem?_eq_none (yM _)]
  exact h
 | v :: r, j, s, hr, hj, h => by
  have hlt : j < vs.length:=drop_cons_lt hr
  have e:=List.drop_eq_getElem_cons hlt
  rw [hr] at e
  injection e with e1 e2
  have hv : vs[j]? = some v:=by rw [yI hlt, e1]
  have ap : forLive tgt body i ((v :: r).length + 1) j s = ((tgt v s).bd fun _ s => body s).sq (forLive tgt body i (r.length + 1) (j + 1)):=by
   exact forLive_s (hm _ _ h) hv
  rw [ap]
  refine post_sq (post_mono (hstep j s v hv h) (fun f s' h' => ?_) fun _ _ h => h)
  cases f with
  | nx => exact forLive_inv I hm hstep r (j + 1) s' e2.symm hlt h'
  | rt v => exact h'
theorem forV_post {tgt : PV -> M Unit} {body : S} {E : Nat -> AS -> Prop} {Qr : PV -> AS -> Prop} {vs : List PV} {i : Nat} {s : AS} (I : Nat -> AS -> Prop) (hl : vs.length <= zLs) (h : I 0 s) (hm : ∀ j s, I j s -> s.mem i = .list vs)
  (hstep : ∀ j s v, vs[j]? = some v -> I j s -> ((tgt v s).bd fun _ s => body s).post (fun f s' => match f with | .nx => I (j + 1) s' | .rt v => Qr v s') E)
  {Q : Fl -> AS -> Prop} (hq : ∀ s', I vs.length s' -> Q .nx s') (hr : ∀ v s', Qr v s' -> Q (.rt v) s') : (forVM tgt body (.ref i) s).post Q E:=by
 have e : forVM tgt body (.ref i) s = forLive tgt body i (vs.length + 1) 0 s:=by
  unfold forVM
  dsimp only
  rw [hm _ _ h]
  dsimp only
  rw [if_pos hl]
 rw [e]
 exact post_mono (forLive_inv I hm hstep vs 0 s rfl (Nat.zero_le _) h) (fun f s' h' => by cases f with | nx => exact hq _ h' | rt v => exact hr _ _ h') fun _ _ h => h
section
variable (l : List (Option PV)) (m : Nat -> AO) (n : Nat)
noncomputable def Res.loL (o : AO) (s : AS) : Res PV:=match o with
 | .list vs => if vs.length <= zLs then .ok (.ref s.nxt) ⟨s.loc, upd s.mem s.nxt (.list vs), s.nxt + 1⟩ else .stuck "list()"
 | _ => .stuck "list(): object"
theorem ap_loL (i : Nat) : listOfM (.ref i) ⟨l, m, n⟩ = Res.loL (m i) ⟨l, m, n⟩:=by
 unfold listOfM Res.loL
 dsimp only
 cases m i with
 | list vs => dsimp only; split <;> rfl
 | _ => rfl
theorem allInts_map : ∀ ns : List Int, allInts (ns.map .int) = some ns
 | [] => rfl
 | x :: r => by
  show (allInts (r.map .int)).map (x :: ·) = _
  rw [allInts_map r]; rfl
noncomputable def Res.cmL (c : Cm) (o o' : AO) (s : AS) : Res Bool:=match o, o' with
 | .list vs, .list us => match allInts vs, allInts us with
   | some ns, some ms => if ns.length <= zLs /\ ms.length <= zLs then (match c with
    | .eq => .ok (decide (ns = ms)) s
    | .ne => .ok (!decide (ns = ms)) s
    | _ => .stuck "list cmp") else .stuck "list cmp size"
   | _, _ => .stuck "list cmp: not ints"
 | _, _ => .stuck "ref cmp"
theorem ap_cmL (c : Cm) (i j : Nat) : cmpM c (.ref i) (.ref j) ⟨l, m, n⟩ = Res.cmL c (m i) (m j) ⟨l, m, n⟩:=rfl
theorem cmL_eq (s : AS) {ns ms : List Int} (h1 : ns.length <= zLs) (h2 : ms.length <= zLs) : Res.cmL .eq (.list (ns.map .int)) (.list (ms.map .int)) s = .ok (decide (ns = ms)) s:=by
 unfold Res.cmL
 dsimp only
 rw [allInts_map, allInts_map]
 exact if_pos ⟨h1, h2⟩
theorem cmL_ne (s : AS) {ns ms : List Int} (h1 : ns.length <= zLs) (h2 : ms.length <= zLs) : Res.cmL .ne (.list (ns.map .int)) (.list (ms.map .int)) s = .ok (!decide (ns = ms)) s:=by
 unfold Res.cmL
 dsimp only
 rw [allInts_map, allInts_map]
 exact if_pos ⟨h1, h2⟩
end
noncomputable def Res.tr (r : Res Fl) (hs : List (Nat × List S)) : Res Fl:=match r with
 | .exc C s' => if C = 52 \/ C = 64 \/ C = 76 \/ C = 88 then sTry.go C hs s' else .stuck "another exception"
 | r => r
theorem ap_sTry (b : List S) (hs : List (Nat × List S)) (s : AS) : sTry b hs s = (sSeq b s).tr hs:=by
 unfold sTry Res.tr; cases sSeq b s <;> rfl
theorem tr_88 (b : List S) (s : AS) : (Res.exc 88 s : Res Fl).tr [(88, b)] = sSeq b s:=rfl
theorem bit_no {w md : Nat} {i b : Int} (h : ¬ Bit b) (s : AS) : F_RangeWriter_bit [.ref w, .ref md, .int i, .int b] s = .exc 88 s:=by
 obtain ⟨l, m, n⟩:=s
 unfold F_RangeWriter_bit B_RangeWriter_bit
 simp [Zg3, Zq3, Zq4, Zq5, Zq6, Zq34, Zq57, Zq62, bd_ok, bd_exc, fnM_ap, fin_exc, List.replicate, Nat.reduceSub, Nat.reduceAdd, need_bit_no h]
theorem bit_no2 {w md bar : Nat} {i b low sp cache held : Int} (h : Bit b) {l : List (Option PV)} {m : Nat -> AO} {n : Nat} (e1 : m w = .inst 283 (wf bar low sp cache held true)) : F_RangeWriter_bit [.ref w, .ref md, .int i, .int b] ⟨l, m, n⟩ = .exc 88 ⟨l, m, n⟩:=by
 have ho:=fun (l : List (Option PV)) (n : Nat) => need_open_no (l:=l) (n:=n) e1
 unfold F_RangeWriter_bit B_RangeWriter_bit
 simp [Zg0, Zg3, Zq3, Zq4, Zq5, Zq6, Zq34, Zq35, Zq36, Zq37, Zq57, Zq58, Zq62, Zq63, Zh283, bd_ok, bd_exc, fnM_ap, fin_exc, List.replicate, Nat.reduceSub, Nat.reduceAdd, need_bit_ap h, e1, wf, ho]
theorem direct_no {w : Nat} {c x : Int} (h0 : 0 <= c) (h1 : c <= 1000) (h : x < 0 \/ 2 ^ c.toNat <= x) (s : AS) : F_RangeWriter_direct [.ref w, .int c, .int x] s = .exc 88 s:=by
 obtain ⟨l, m, n⟩:=s
 unfold F_RangeWriter_direct B_RangeWriter_direct
 simp [Zg1, Zg2, Zq3, Zq4, Zq5, Zq6, Zq34, Zq57, Zq62, bd_ok, bd_exc, fnM_ap, fin_exc, Nat.reduceSub, Nat.reduceAdd, need_value_no h0 h1 h]
theorem direct_no2 {w bar : Nat} {c x low sp cache held : Int} (h0 : 0 <= c) (h1 : c <= 1000) (h2 : 0 <= x) (h3 : x < 2 ^ c.toNat) {l : List (Option PV)} {m : Nat -> AO} {n : Nat} (e1 : m w = .inst 283 (wf bar low sp cache held true)) : F_RangeWriter_direct [.ref w, .int c, .int x] ⟨l, m, n⟩ = .exc 88 ⟨l, m, n⟩:=by
 have ho:=fun (l : List (Option PV)) (n : Nat) => need_open_no (l:=l) (n:=n) e1
 unfold F_RangeWriter_direct B_RangeWriter_direct
 simp [Zg0, Zg1, Zg2, Zq3, Zq4, Zq5, Zq6, Zq34, Zq35, Zq36, Zq37, Zq57, Zq58, Zq62, Zq63, Zh283, bd_ok, bd_exc, fnM_ap, fin_exc, Nat.reduceSub, Nat.reduceAdd, need_value_ap h0 h1 h2 h3, e1, wf, ho]
theorem tree_no {w md : Nat} {a c x : Int} (h0 : 0 <= c) (h1 : c <= 1000) (h : x < 0 \/ 2 ^ c.toNat <= x) (s : AS) : F_RangeWriter_tree [.ref w, .ref md, .int a, .int c, .int x] s = .exc 88 s:=by
 obtain ⟨l, m, n⟩:=s
 unfold F_RangeWriter_tree B_RangeWriter_tree
 simp [Zg3, Zg4, Zq3, Zq4, Zq5, Zq6, Zq34, Zq57, Zq62, bd_ok, bd_exc, fnM_ap, fin_exc, List.replicate, Nat.reduceSub, Nat.reduceAdd, need_value_no h0 h1 h]
theorem reverse_no {w md : Nat} {a c x : Int} (h0 : 0 <= c) (h1 : c <= 1000) (h : x < 0 \/ 2 ^ c.toNat <= x) (s : AS) : F_RangeWriter_reverse [.ref w, .ref md, .int a, .int c, .int x] s = .exc 88 s:=by
 obtain ⟨l, m, n⟩:=s
 unfold F_RangeWriter_reverse B_RangeWriter_reverse
 simp [Zg3, Zg4, Zq3, Zq4, Zq5, Zq6, Zq34, Zq57, Zq62, bd_ok, bd_exc, fnM_ap, fin_exc, List.replicate, Nat.reduceSub, Nat.reduceAdd, need_value_no h0 h1 h]
theorem tree_no2 {w md bar : Nat} {a low sp cache held : Int} {l : List (Option PV)} {m : Nat -> AO} {n : Nat} (e1 : m w = .inst 283 (wf bar low sp cache held true)) : F_RangeWriter_tree [.ref w, .ref md, .int a, .int 2, .int 1] ⟨l, m, n⟩ = .exc 88 ⟨l, m, n⟩:=by
 have hr:=rangeK3 (a:=1) (n:=2) rfl (by lia)
 have hb:=fun i l n => bit_no2 (w:=w) (md:=md) (i:=i) (b:=0) (l:=l) (n:=n) (.inl rfl) e1
 unfold F_RangeWriter_tree B_RangeWriter_tree
 simp [Zq2, Zg0, Zg1, Zg2, Zg3, Zg4, Zg5, Zg6, Zg7, Zt5, Zt7, Zu6, Zq3, Zq4, Zq5, Zq6, Zq7, Zq8, Zq9, Zq10, Zq34, Zq35, Zq36, Zq37, Zq42, Zq57, Zq58, Zq62, Zq63, Zq95, Zq96, Zq97, Zq98, Zh283, bd_ok, bd_exc, ofI_some, ap_binI, rg_some, i_add, i_sub, i_band, fnM_ap, fin_exc, sq_exc, List.replicate, Nat.reduceSub, Nat.reduceAdd, need_value_ap (v:=1) (c:=2) (by decide) (by decide) (by decide) (by decide), e1, wf, hr, List.range_succ, forL_cons, hb, i_shr, band1]
theorem reverse_no2 {w md bar : Nat} {a low sp cache held : Int} {l : List (Option PV)} {m : Nat -> AO} {n : Nat} (e1 : m w = .inst 283 (wf bar low sp cache held true)) : F_RangeWriter_reverse [.ref w, .ref md, .int a, .int 2, .int 3] ⟨l, m, n⟩ = .exc 88 ⟨l, m, n⟩:=by
 have hr:=rangeK1 (b:=2) (n:=2) rfl (by lia)
 have hb:=fun i l n => bit_no2 (w:=w) (md:=md) (i:=i) (b:=1) (l:=l) (n:=n) (.inr rfl) e1
 unfold F_RangeWriter_reverse B_RangeWriter_reverse
 simp [Zq2, Zg0, Zg1, Zg2, Zg3, Zg4, Zg5, Zg6, Zg7, Zt5, Zt7, Zu6, Zq3, Zq4, Zq5, Zq6, Zq7, Zq8, Zq34, Zq35, Zq36, Zq37, Zq42, Zq57, Zq58, Zq62, Zq63, Zq95, Zq96, Zq97, Zq98, Zh283, bd_ok, bd_exc, ofI_some, ap_binI, rg_some, i_add, i_band, fnM_ap, fin_exc, sq_exc, List.replicate, Nat.reduceSub, Nat.reduceAdd, need_value_ap (v:=3) (c:=2) (by decide) (by decide) (by decide) (by decide), e1, wf, hr, List.range_succ, forL_cons, hb, i_shr, band1]
inductive RowNo (w md : Nat) (m : Nat -> AO) (row : PV) : Prop where
 | mk (t : _) (x : _) (h0 : row = .tup [t, .int x]) (h1 : ∀ l n, F_law_write [.ref w, .ref md, t, .int x] ⟨l, m, n⟩ = .exc 88 ⟨l, m, n⟩) : RowNo w md m row
section
variable {w md bar : Nat} {m : Nat -> AO} {fs : List (Nat × PV)}
theorem row0 {a c x : Int} (e : m w = .inst 283 fs) (h : ¬ Bit x) : RowNo w md m (rowV 0 a c x):=by
 refine ⟨_, _, rfl, fun l n => ?_⟩
 unfold F_law_write B_law_write
 simp [Zq2, Zg0, Zg1, Zg2, Zg3, Zq3, Zq4, Zq5, Zq6, Zq11, Zq12, Zq35, Zq36, Zq37, Zq55, Zq57, Zq62, Zq65, Zq66, Zh283, Zcm1, bd_ok, bd_exc, ap_cmpI, fnM_ap, fin_exc, ifK_t, Nat.reduceAdd, ap_sbT, it_some, idx_0, idx_1, e, bit_no h]
theorem row1 {a c x : Int} (e : m w = .inst 283 fs) (h0 : 0 <= c) (h1 : c <= 1000) (h : x < 0 \/ 2 ^ c.toNat <= x) : RowNo w md m (rowV 1 a c x):=by
 refine ⟨_, _, rfl, fun l n => ?_⟩
 unfold F_law_write B_law_write
 simp [Zq2, Zg0, Zg2, Zg3, Zq3, Zq4, Zq5, Zq6, Zq11, Zq12, Zq35, Zq36, Zq37, Zq55, Zq57, Zq62, Zq65, Zq66, Zh283, Zcm1, bd_ok, bd_exc, ap_cmpI, fnM_ap, fin_exc, ifK_t, ifK_f, Nat.reduceAdd, ap_sbT, it_some, idx_0, idx_2, e, direct_no h0 h1 h]
theorem row2 {a c x : Int} (e : m w = .inst 283 fs) (h0 : 0 <= c) (h1 : c <= 1000) (h : x < 0 \/ 2 ^ c.toNat <= x) : RowNo w md m (rowV 2 a c x):=by
 refine ⟨_, _, rfl, fun l n => ?_⟩
 unfold F_law_write B_law_write
 simp [Zq2, Zg0, Zg1, Zg2, Zg3, Zq3, Zq4, Zq5, Zq6, Zq11, Zq12, Zq35, Zq36, Zq37, Zq55, Zq57, Zq62, Zq65, Zq66, Zh283, Zcm1, bd_ok, bd_exc, ap_cmpI, fnM_ap, fin_exc, ifK_t, ifK_f, Nat.reduceAdd, ap_sbT, it_some, idx_0, idx_1, idx_2, e, tree_no h0 h1 h]
theorem row3 {a c x : Int} (e : m w = .inst 283 fs) (h0 : 0 <= c) (h1 : c <= 1000) (h : x < 0 \/ 2 ^ c.toNat <= x) : RowNo w md m (rowV 3 a c x):=by
 refine ⟨_, _, rfl, fun l n => ?_⟩
 unfold F_law_write B_law_write
 simp [Zq2, Zg0, Zg1, Zg2, Zg3, Zq3, Zq4, Zq5, Zq6, Zq11, Zq12, Zq35, Zq36, Zq37, Zq55, Zq57, Zq62, Zq65, Zq66, Zh283, Zcm1, bd_ok, bd_exc, ap_cmpI, fnM_ap, fin_exc, ifK_f, Nat.reduceAdd, ap_sbT, it_some, idx_0, idx_1, idx_2, e, reverse_no h0 h1 h]
variable {low sp cache held : Int}
theorem row0c {a c x : Int} (e : m w = .inst 283 (wf bar low sp cache held true)) (h : Bit x) : RowNo w md m (rowV 0 a c x):=by
 refine ⟨_, _, rfl, fun l n => ?_⟩
 unfold F_law_write B_law_write
 simp [Zq2, Zg0, Zg1, Zg2, Zg3, Zq3, Zq4, Zq5, Zq6, Zq11, Zq12, Zq35, Zq36, Zq37, Zq55, Zq57, Zq62, Zq65, Zq66, Zcm1, bd_ok, bd_exc, ap_cmpI, fnM_ap, fin_exc, ifK_t, Nat.reduceAdd, ap_sbT, it_some, idx_0, idx_1, bit_no2 h e, mth_e e]
theorem row1c {a c x : Int} (e : m w = .inst 283 (wf bar low sp cache held true)) (h0 : 0 <= c) (h1 : c <= 1000) (h2 : 0 <= x) (h3 : x < 2 ^ c.toNat) : RowNo w md m (rowV 1 a c x):=by
 refine ⟨_, _, rfl, fun l n => ?_⟩
 unfold F_law_write B_law_write
 simp [Zq2, Zg0, Zg2, Zg3, Zq3, Zq4, Zq5, Zq6, Zq11, Zq12, Zq35, Zq36, Zq37, Zq55, Zq57, Zq62, Zq65, Zq66, Zcm1, bd_ok, bd_exc, ap_cmpI, fnM_ap, fin_exc, ifK_t, ifK_f, Nat.reduceAdd, ap_sbT, it_some, idx_0, idx_2, direct_no2 h0 h1 h2 h3 e, mth_e e]
theorem row2c {a : Int} (e : m w = .inst 283 (wf bar low sp cache held true)) : RowNo w md m (rowV 2 a 2 1):=by
 refine ⟨_, _, rfl, fun l n => ?_⟩
 unfold F_law_write B_law_write
 simp [Zq2, Zg0, Zg1, Zg2, Zg3, Zq3, Zq4, Zq5, Zq6, Zq11, Zq12, Zq35, Zq36, Zq37, Zq55, Zq57, Zq62, Zq65, Zq66, Zcm1, bd_ok, bd_exc, ap_cmpI, fnM_ap, fin_exc, ifK_t, ifK_f, Nat.reduceAdd, ap_sbT, it_some, idx_0, idx_1, idx_2, tree_no2 e, mth_e e]
theorem row3c {a : Int} (e : m w = .inst 283 (wf bar low sp cache held true)) : RowNo w md m (rowV 3 a 2 3):=by
 refine ⟨_, _, rfl, fun l n => ?_⟩
 unfold F_law_write B_law_write
 simp [Zq2, Zg0, Zg1, Zg2, Zg3, Zq3, Zq4, Zq5, Zq6, Zq11, Zq12, Zq35, Zq36, Zq37, Zq55, Zq57, Zq62, Zq65, Zq66, Zcm1, bd_ok, bd_exc, ap_cmpI, fnM_ap, fin_exc, ifK_f, Nat.reduceAdd, ap_sbT, it_some, idx_0, idx_1, idx_2, reverse_no2 e, mth_e e]
end
inductive RefI (w md rw : Nat) (z : Int) (n : Nat) (m : Nat -> AO) (s : AS) : Prop where
 | mk (x : _) (y : _) (h0 : s = ⟨[some (.ref w), some (.ref md), some (.ref rw), some (.ref n), some (.int z), x, y], m, n + 1⟩) : RefI w md rw z n m s
theorem refused_sp {w md rw : Nat} {z : Int} {ms : List Int} {rows : List PV} {s : AS} (hm : s.mem md = .list (ms.map .int)) (hmd : md < s.nxt) (hl : ms.length <= zLs) (hi : ∃ fs, s.mem w = .inst 283 fs) (hw : w < s.nxt) (hr : s.mem rw = .list rows) (hrl : rows.length <= zLs) (hrw : rw < s.nxt)
  (hrow : ∀ m', MFr [] s.nxt s.mem m' -> ∀ row ∈ rows, RowNo w md m' row) (hsz : ∀ l m' n', MFr [] s.nxt s.mem m' -> s.nxt <= n' -> F_RangeWriter_size [.ref w] ⟨l, m', n'⟩ = .ok (.int z) ⟨l, m', n'⟩) :
  (F_law_refused [.ref w, .ref md, .ref rw] s).post (fun v s' => v = .bool true /\ Fr [] s s') NoE:=by
 obtain ⟨l, m, n⟩:=s
 obtain ⟨fs, hi⟩:=hi
 dsimp only at hm hmd hi hw hr hrw hrow hsz
 have f1 : MFr [] n m (upd m n (.list (ms.map .int))):=MFr.refl.new (yM _)
 have hw' : w ≠ n:=Nat.ne_of_lt hw
 have hmd' : md ≠ n:=Nat.ne_of_lt hmd
 have hrw' : rw ≠ n:=Nat.ne_of_lt hrw
 have hs1:=fun l => hsz l _ (n + 1) f1 (by lia)
 unfold F_law_refused B_law_refused
 simp [Zg0, Zg1, Zg2, Zu3, Zu4, Zq3, Zq4, Zq5, Zq6, Zq35, Zq36, Zq37, Zq43, Zq57, Zq58, Zq88, Zq89, Zq90, Zq91, Zq92, Zh283, bd_ok, ap_eListOf, ap_sForV, fnM_ap, ne_eq, not_false_eq_true, List.replicate, Nat.reduceSub, Nat.reduceAdd, ap_loL, Res.loL, hm, hl, hi, hs1, zun, hw']
 repeat (first | with_reducible refine post_fin ?_ | with_reducible refine post_seq ?_)
 refine forV_post (vs:=rows) (Qr:=fun _ _ => False) (fun _ s => RefI w md rw z n (upd m n (.list (ms.map .int))) s) hrl ⟨_, _, rfl⟩ ?_ ?_ ?_ (fun _ _ h => h.elim)
 ·rintro j s ⟨x, y, rfl⟩
  exact (zun hrw').trans hr
 ·rintro j s v hv ⟨x, y, rfl⟩
  obtain ⟨t, x', rfl, ht⟩:=hrow _ f1 v (List.mem_of_getElem? hv)
  simp [Zq2, Zg0, Zg1, Zg4, Zg5, Zg6, Zt4, Zu5, Zu6, Zq3, Zq4, Zq5, Zq6, Zq7, Zq8, Zq34, Zq42, Zq56, Zq57, Zq58, Zq62, Zq90, Zq91, Zq92, bd_ok, bd_exc, ofI_some, ap_binI, ap_unpack, i_add, post_ok, Nat.reduceAdd, ap_sTry, ht, tr_88]
  exact ⟨_, _, rfl⟩
 ·rintro s' ⟨x, y, rfl⟩
  have f2 : MFr [] n m (upd (upd m n (.list (ms.map .int))) (n + 1) (.list (ms.map .int))):=f1.new (by lia)
  have hs2:=fun l => hsz l _ (n + 2) f2 (by lia)
  have hmd2 : md ≠ n + 1:=by lia
  have hw2 : w ≠ n + 1:=by lia
  have hn2 : n ≠ n + 1:=by lia
  simp [Zg0, Zg1, Zg3, Zg4, Zq3, Zq11, Zq12, Zq20, Zq22, Zq23, Zq35, Zq36, Zq37, Zq57, Zq59, Zq60, Zq61, Zh283, Zcm1, bd_ok, ap_cmpI, ap_eListOf, zus, post_ok, ifK_t, ne_eq, not_false_eq_true, decide_true, ap_loL, Res.loL, hm, hl, hi, hs2, zun, hw', hw2, hmd', ap_cmL, cmL_eq _ hl hl]
  exact MFr.fr f2 (by lia)
noncomputable def spV : Option Int -> PV
 | none => .none
 | some i => .int i
theorem spot_ap (a : Act) (node : Int) (s : AS) : F_law_spot [actV a, .int node] s = .ok (spV (spt a node)) s:=by
 obtain ⟨l, m, n⟩:=s
 unfold F_law_spot B_law_spot actV spt
 have hm : ∀ b : Int, (b = 1 \/ b = 0) -> intOp .mul node b = some (node * b):=fun b hb => i_mul (.inr (by rcases hb with rfl | rfl <;> decide))
 by_cases h : a.way = 1
 ·simp [Zq2, Zg0, Zq11, Zq12, Zq26, Zq57, Zq59, Zq60, Zq61, Zq65, Zq66, Zcm1, bd_ok, ap_cmpI, fnM_ap, fin_rt, ifK_t, Nat.reduceAdd, ap_sbT, it_some, idx_0, h, spV]
 ·by_cases h2 : 1 < a.way
  ·simp [Zq2, Zg0, Zg1, Zq7, Zq8, Zq11, Zq12, Zq24, Zq25, Zq26, Zq57, Zq59, Zq60, Zq61, Zq65, Zq66, Zcm1, Zcm5, bd_ok, ofI_some, ap_binI, ap_cmpI, i_add, fnM_ap, fin_rt, ifK_f, beq_eq_false_iff_ne, ne_eq, not_false_eq_true, Nat.reduceAdd, decide_true, ap_sbT, it_some, idx_0, idx_1, h, h2, hm 1 (.inl rfl), spV]
  ·simp [Zq2, Zg0, Zg1, Zq7, Zq8, Zq11, Zq12, Zq24, Zq25, Zq26, Zq57, Zq59, Zq60, Zq61, Zq65, Zq66, Zcm1, Zcm5, bd_ok, ofI_some, ap_binI, ap_cmpI, i_add, fnM_ap, fin_rt, ifK_f, beq_eq_false_iff_ne, ne_eq, not_false_eq_true, Nat.reduceAdd, decide_false, Bool.false_eq_true, ap_sbT, it_some, idx_0, idx_1, h, h2, hm 0 (.inr rfl), spV]
noncomputable def plV (c : C) : AO:=.list [.int c.N, .int c.R, .int c.k]
theorem i_fd {a b : Int} (h : 0 < b) (h2 : b < 2 ^ 64) : intOp .fdiv a b = some (a / b):=i_fdiv h (by
 have : b.natAbs < 2 ^ 64:=nab (Int.le_of_lt h) h2
 exact yK this (Nat.pow_le_pow_right (by decide) (by decide)))
theorem part_ap {pl md : Nat} {c : C} {sp : Option Int} {l : List (Option PV)} {m : Nat -> AO} {n : Nat} (h1 : m pl = plV c) (h2 : m md = .list (c.ms.map .int)) (g : Gd c) (hs : SpOk sp) :
  F_law_part [.ref pl, .ref md, spV sp] ⟨l, m, n⟩ = .ok (.int (prt c.R c.ms sp)) ⟨l, m, n⟩:=by
 unfold F_law_part B_law_part
 have hd : intOp .fdiv c.R 2 = some (c.R / 2):=i_fd (by decide) (by decide)
 have hd2 : intOp .fdiv c.R 2048 = some (c.R / 2048):=i_fd (by decide) (by decide)
 cases sp with
 | none => simp [Zq2, Zg0, Zg2, Zq7, Zq8, Zq13, Zq14, Zq26, Zq57, Zq59, Zq60, Zq61, Zq65, Zq66, Zn1, bd_ok, ofI_some, ap_binI, fnM_ap, fin_rt, ifK_t, Nat.reduceAdd, ap_sbL, Res.sbL, h1, plV, idx_1, spV, hd, prt]
 | some i =>
  have hm : intOp .mul (c.R / 2048) (gm c.ms i) = some (c.R / 2048 * gm c.ms i):=i_mul (.inr (nab (by have:=gm_ok g.ms hs; lia) (by have:=gm_ok g.ms hs; lia)))
  simp [Zq2, Zg0, Zg1, Zg2, Zq7, Zq8, Zq13, Zq14, Zq26, Zq57, Zq59, Zq60, Zq61, Zq65, Zq66, Zn2, bd_ok, ofI_some, ap_binI, fnM_ap, fin_rt, ifK_f, Nat.reduceAdd, ap_sbL, Res.sbL, h1, h2, plV, idx_1, spV, hd2, hm, prt, idx_ms g.ms hs]
section
variable (s : AS) (l : List (Option PV)) (m : Nat -> AO) (n : Nat)
noncomputable def sts1 (r : List (M PV × M PV)) (vs : List PV) (_ : Unit) : M Unit:=setSubs r vs
noncomputable def sts3 (r : List (M PV × M PV)) (vs : List PV) (v x y : PV) : M Unit:=fun s => (setSubM x y v s).bd (sts1 r vs)
noncomputable def sts2 (b : M PV) (r : List (M PV × M PV)) (v : PV) (vs : List PV) (x : PV) : M Unit:=fun s => (b s).bd (sts3 r vs v x)
noncomputable def sbsK (ts : List (M PV × M PV)) (vs : List PV) : S:=fun s => (setSubs ts vs s).bd nxK
theorem ap_sAsgSs (ts : List (M PV × M PV)) (es : List (M PV)) : sAsgSs ts es s = (evs es s).bd (sbsK ts):=rfl
theorem Zy1 (ts : List (M PV × M PV)) (vs : List PV) : sbsK ts vs s = (setSubs ts vs s).bd nxK:=rfl
theorem Zy2 : setSubs [] [] s = .ok () s:=rfl
theorem Zy3 (a b : M PV) (r : List (M PV × M PV)) (v : PV) (vs : List PV) : setSubs ((a, b) :: r) (v :: vs) s = (a s).bd (sts2 b r v vs):=rfl
theorem Zy4 (b : M PV) (r : List (M PV × M PV)) (v : PV) (vs : List PV) (x : PV) : sts2 b r v vs x s = (b s).bd (sts3 r vs v x):=rfl
theorem Zy5 (r : List (M PV × M PV)) (vs : List PV) (v x y : PV) : sts3 r vs v x y s = (setSubM x y v s).bd (sts1 r vs):=rfl
theorem Zy6 (r : List (M PV × M PV)) (vs : List PV) (u : Unit) : sts1 r vs u s = setSubs r vs s:=rfl
theorem Zl0 {a : PV} {r : List PV} : Res.sbL (.list (a :: r)) 0 s = .ok a s:=rfl
theorem Zl1 {a b : PV} {r : List PV} : Res.sbL (.list (a :: b :: r)) 1 s = .ok b s:=rfl
theorem Zl2 {a b c : PV} {r : List PV} : Res.sbL (.list (a :: b :: c :: r)) 2 s = .ok c s:=rfl
theorem Zm0 {a b c v : PV} {i : Nat} : Res.ssL (.list [a, b, c]) i 0 v ⟨l, m, n⟩ = .ok () ⟨l, upd m i (.list [v, b, c]), n⟩:=rfl
theorem Zm1 {a b c v : PV} {i : Nat} : Res.ssL (.list [a, b, c]) i 1 v ⟨l, m, n⟩ = .ok () ⟨l, upd m i (.list [a, v, c]), n⟩:=rfl
theorem Zm2 {a b c v : PV} {i : Nat} : Res.ssL (.list [a, b, c]) i 2 v ⟨l, m, n⟩ = .ok () ⟨l, upd m i (.list [a, b, v]), n⟩:=rfl
end
noncomputable def GoQ (pl md : Nat) (c' : C) (s s' : AS) : Prop:=s'.mem pl = plV c' /\ s'.mem md = .list (c'.ms.map .int) /\ Fr [pl, md] s s'
noncomputable def gs1 : S:=sAsgS (eL 0) (eK (.int 0)) (eBin .add (eSub (eL 0) (eK (.int 0))) (eBin .mul (eL 3) (eL 4)))
noncomputable def gs2 : S:=sAsgS (eL 0) (eK (.int 1)) (eIf (tOr (tCmp .eq (eL 4) (eK (.int 0))) (tIsNone (eL 2))) (eL 3) (eBin .sub (eSub (eL 0) (eK (.int 1))) (eL 3)))
noncomputable def gs3 : S:=sIf (tNot (tIsNone (eL 2))) [sAsgS (eL 1) (eL 2) (eIf (tCmp .eq (eL 4) (eK (.int 1))) (eBin .sub (eSub (eL 1) (eL 2)) (eBin .fdiv (eSub (eL 1) (eL 2)) (eK (.int 32)))) (eBin .add (eSub (eL 1) (eL 2)) (eBin .fdiv (eBin .sub (eK (.int 2048)) (eSub (eL 1) (eL 2))) (eK (.int 32)))))] []
noncomputable def gs4 : S:=sWhile (tCmp .lt (eSub (eL 0) (eK (.int 1))) (eBin .pow (eK (.int 2)) (eK (.int 24)))) [sAsgSs [((eL 0), (eK (.int 0))), ((eL 0), (eK (.int 1))), ((eL 0), (eK (.int 2)))] [(eBin .mul (eSub (eL 0) (eK (.int 0))) (eK (.int 256))), (eBin .mul (eSub (eL 0) (eK (.int 1))) (eK (.int 256))), (eBin .add (eSub (eL 0) (eK (.int 2))) (eK (.int 1)))]] 8
theorem goes_eq : B_law_goes = [gs1, gs2, gs3, gs4]:=rfl
section
variable {pl md : Nat} {sv : PV} {p b N R k : Int} {m : Nat -> AO} {n : Nat}
theorem go1 (h : m pl = .list [.int N, .int R, .int k]) (hm : intOp .mul p b = some (p * b)) :
  gs1 ⟨[some (.ref pl), some (.ref md), some sv, some (.int p), some (.int b)], m, n⟩ = .ok .nx ⟨[some (.ref pl), some (.ref md), some sv, some (.int p), some (.int b)], upd m pl (.list [.int (N + p * b), .int R, .int k]), n⟩:=by
 unfold gs1
 simp only [Zq2, Zg0, Zg3, Zg4, Zq7, Zq8, Zq43, Zq65, Zq66, Zq71, Zq72, Zq73, Zq74, bd_ok, ofI_some, ap_binI, i_add, ap_sbL, ap_ssL, Zl0, Zm0, h, hm]
theorem go2 {d : Bool} {R' : Int} (h : m pl = .list [.int N, .int R, .int k]) (hd : (b == 0 || isN sv) = d) (h1 : d = true -> R' = p) (h2 : d = false -> R' = R - p) :
  gs2 ⟨[some (.ref pl), some (.ref md), some sv, some (.int p), some (.int b)], m, n⟩ = .ok .nx ⟨[some (.ref pl), some (.ref md), some sv, some (.int p), some (.int b)], upd m pl (.list [.int N, .int R', .int k]), n⟩:=by
 have ht3 : ifK (ret true) (tIsNone (eL 2)) (b == 0) ⟨[some (.ref pl), some (.ref md), some sv, some (.int p), some (.int b)], m, n⟩ = .ok d ⟨[some (.ref pl), some (.ref md), some sv, some (.int p), some (.int b)], m, n⟩:=by subst hd; cases b == 0 <;> rfl
 unfold gs2
 cases d with
 | true => rw [h1 rfl]; simp only [Zq2, Zg0, Zg3, Zg4, Zq11, Zq12, Zq21, Zq26, Zq43, Zq71, Zq72, Zq73, Zq74, Zcm1, bd_ok, ap_cmpI, ifK_t, ap_ssL, Zm1, h, ht3]
 | false => rw [h2 rfl]; simp only [Zq2, Zg0, Zg3, Zg4, Zq7, Zq8, Zq11, Zq12, Zq21, Zq26, Zq43, Zq65, Zq66, Zq71, Zq72, Zq73, Zq74, Zcm1, bd_ok, ofI_some, ap_binI, ap_cmpI, i_sub, ifK_f, ap_sbL, ap_ssL, Zl1, Zm1, h, ht3]
theorem go3 {ms : List Int} {sp : Option Int} (h : m md = .list (ms.map .int)) (g : MsOk ms) (hs : SpOk sp) (hb : Bit b) :
  ∃ m', gs3 ⟨[some (.ref pl), some (.ref md), some (spV sp), some (.int p), some (.int b)], m, n⟩ = .ok .nx ⟨[some (.ref pl), some (.ref md), some (spV sp), some (.int p), some (.int b)], m', n⟩ /\ m' md = .list ((stM ms b sp).map .int) /\ ∀ i, i ≠ md -> m' i = m i:=by
 have hl:=g.len
 have lz80 : 80 <= zLs:=by decide
 have h32 : ∀ x : Int, intOp .fdiv x 32 = some (x / 32):=fun x => i_fd (by decide) (by decide)
 unfold gs3
 cases sp with
 | none =>
  refine ⟨m, ?_, h, fun _ _ => rfl⟩
  simp only [Zg2, Zq13, Zq14, Zq18, Zq19, Zq55, Zq56, Zn1, bd_ok, ifK_f, spV, Bool.not_true]
 | some i =>
  have hx:=idx_ms g hs
  refine ⟨_, ?_, zus _ _ (.list ((ms.map .int).set i.toNat (.int (nxI (gm ms i) b)))) |>.trans (congrArg _ List.map_set.symm), fun j hj => zun hj⟩
  have hv : ifK (eBin .sub (eSub (eL 1) (eL 2)) (eBin .fdiv (eSub (eL 1) (eL 2)) (eK (.int 32)))) (eBin .add (eSub (eL 1) (eL 2)) (eBin .fdiv (eBin .sub (eK (.int 2048)) (eSub (eL 1) (eL 2))) (eK (.int 32)))) (b == 1) ⟨[some (.ref pl), some (.ref md), some (.int i), some (.int p), some (.int b)], m, n⟩ = .ok (.int (nxI (gm ms i) b)) ⟨[some (.ref pl), some (.ref md), some (.int i), some (.int p), some (.int b)], m, n⟩:=by
   rcases hb with rfl | rfl
   ·show (eBin .add (eSub (eL 1) (eL 2)) (eBin .fdiv (eBin .sub (eK (.int 2048)) (eSub (eL 1) (eL 2))) (eK (.int 32)))) _ = _
    simp only [Zq2, Zg1, Zg2, Zq7, Zq8, Zq65, Zq66, bd_ok, ofI_some, ap_binI, i_add, i_sub, ap_sbL, Res.sbL, h, hx, h32]; rfl
   ·show (eBin .sub (eSub (eL 1) (eL 2)) (eBin .fdiv (eSub (eL 1) (eL 2)) (eK (.int 32)))) _ = _
    simp only [Zq2, Zg1, Zg2, Zq7, Zq8, Zq65, Zq66, bd_ok, ofI_some, ap_binI, i_sub, ap_sbL, Res.sbL, h, hx, h32]; rfl
  simp only [Zq2, Zg1, Zg2, Zg4, Zq11, Zq12, Zq13, Zq14, Zq18, Zq19, Zq26, Zq55, Zq57, Zq71, Zq72, Zq73, Zq74, Zn2, Zcm1, bd_ok, ap_cmpI, ifK_t, spV, Bool.not_false, hv, ap_ssL, Res.ssL, h]
  rw [if_pos ⟨hs.1, by rw [yG, hl]; exact hs.2, by rw [yG, hl]; exact lz80⟩]
  rfl
theorem go4 {c : C} (h : m pl = plV c) (h1 : 65536 <= c.R) :
  ∃ m', gs4 ⟨[some (.ref pl), some (.ref md), some sv, some (.int p), some (.int b)], m, n⟩ = .ok .nx ⟨[some (.ref pl), some (.ref md), some sv, some (.int p), some (.int b)], m', n⟩ /\ m' pl = plV (nrm c.N c.R c.k c.ms) /\ ∀ i, i ≠ pl -> m' i = m i:=by
 have hm2 : ∀ x : Int, intOp .mul x 256 = some (x * 256):=fun x => i_mul (.inr (by decide))
 have hp : intOp .pow 2 24 = some 16777216:=i_powc (by decide) rfl
 unfold plV at h
 unfold gs4 nrm
 by_cases hc : c.R < 16777216
 ·have hc2 : ¬ c.R * 256 < 16777216:=by lia
  rw [if_pos hc]
  refine ⟨upd (upd (upd m pl (.list [.int (c.N * 256), .int c.R, .int c.k])) pl (.list [.int (c.N * 256), .int (c.R * 256), .int c.k])) pl (.list [.int (c.N * 256), .int (c.R * 256), .int (c.k + 1)]), ?_, zus _ _ _, fun i hi => (zun hi).trans ((zun hi).trans (zun hi))⟩
  simp only [Zq2, Zg0, Zq3, Zq4, Zq5, Zq6, Zq7, Zq8, Zq11, Zq12, Zq43, Zq56, Zq57, Zq58, Zq65, Zq66, Zq99, Zq100, Zq101, Zq102, Zcm3, bd_ok, ofI_some, ap_binI, ap_cmpI, zus, i_add, ifK_t, ifK_f, decide_true, decide_false, ap_sbL, ap_ssL, ap_sAsgSs, Zy1, Zy2, Zy3, Zy4, Zy5, Zy6, Zl0, Zl1, Zl2, Zm0, Zm1, Zm2, h, hm2, hp, hc, hc2]
 ·rw [if_neg hc]
  refine ⟨m, ?_, h, fun _ _ => rfl⟩
  simp only [Zq2, Zg0, Zq7, Zq8, Zq11, Zq12, Zq65, Zq66, Zq99, Zq102, Zcm3, bd_ok, ofI_some, ap_binI, ap_cmpI, ifK_f, decide_false, ap_sbL, Zl1, h, hp, hc]
end
theorem stR_t {c : C} {b : Int} {sp : Option Int} (hb : Bit b) (h : (b == 0 || isN (spV sp)) = true) : stR c b sp = prt c.R c.ms sp:=by
 cases sp with
 | none => rfl
 | some i => rcases hb with rfl | rfl <;> first | rfl | cases h
theorem stR_f {c : C} {b : Int} {sp : Option Int} (hb : Bit b) (h : (b == 0 || isN (spV sp)) = false) : stR c b sp = c.R - prt c.R c.ms sp:=by
 cases sp with
 | none => rcases hb with rfl | rfl <;> cases h
 | some i => rcases hb with rfl | rfl <;> first | rfl | cases h
theorem goes_sp {pl md : Nat} {c : C} {sp : Option Int} {b : Int} {l : List (Option PV)} {m : Nat -> AO} {n : Nat} (h1 : m pl = plV c) (h2 : m md = .list (c.ms.map .int)) (hne : pl ≠ md) (g : Gd c) (hs : SpOk sp) (hb : Bit b) :
  (F_law_goes [.ref pl, .ref md, spV sp, .int (prt c.R c.ms sp), .int b] ⟨l, m, n⟩).post (fun v s' => v = .none /\ GoQ pl md (goC c sp b) ⟨l, m, n⟩ s') NoE:=by
 have hmul : intOp .mul (prt c.R c.ms sp) b = some (prt c.R c.ms sp * b):=i_mul (.inr (by rcases hb with rfl | rfl <;> decide))
 have hR : 65536 <= stR c b sp:=by
  obtain ⟨s1, s2, _, _⟩:=st_in g hs hb
  exact by lia
 refine yN fun hgl => ?_
 obtain ⟨m3, e3, q3, f3⟩:=go3 (pl:=pl) (p:=prt c.R c.ms sp) (m:=upd (upd m pl (.list [.int (c.N + prt c.R c.ms sp * b), .int c.R, .int c.k])) pl (.list [.int (c.N + prt c.R c.ms sp * b), .int (stR c b sp), .int c.k])) (n:=n) ((zun hne.symm).trans ((zun hne.symm).trans h2)) g.ms hs hb
 refine hgl ?_; clear hgl
 refine yN fun hgl => ?_
 obtain ⟨m4, e4, q4, f4⟩:=go4 (md:=md) (sv:=spV sp) (p:=prt c.R c.ms sp) (b:=b) (n:=n) (c:=⟨stN c sp b, stR c b sp, c.k, stM c.ms b sp⟩) ((f3 pl hne).trans (zus _ _ _)) hR
 refine hgl ?_; clear hgl
 have e2 : ∀ m n, m pl = .list [.int (c.N + prt c.R c.ms sp * b), .int c.R, .int c.k] -> gs2 ⟨[some (.ref pl), some (.ref md), some (spV sp), some (.int (prt c.R c.ms sp)), some (.int b)], m, n⟩ = .ok .nx ⟨[some (.ref pl), some (.ref md), some (spV sp), some (.int (prt c.R c.ms sp)), some (.int b)], upd m pl (.list [.int (c.N + prt c.R c.ms sp * b), .int (stR c b sp), .int c.k]), n⟩:=fun m n h => go2 h rfl (stR_t hb) (stR_f hb)
 unfold F_law_goes
 rw [goes_eq]
 simp only [fnM_ap, yC, yD, yA, yB, List.append_nil, Nat.reduceAdd, Nat.reduceSub, List.replicate, go1 h1 hmul, e2 _ _ (zus _ _ _), e3, e4, Zq56, Zq57, Zq58, bd_ok, fin_nx, post_ok]
 have ems : (goC c sp b).ms = stM c.ms b sp:=by unfold goC nrm; split <;> rfl
 refine ⟨trivial, q4, by rw [ems]; exact (f4 md hne.symm).trans q3, rfl, yM _, fun i _ hi => ?_⟩
 have i1 : i ≠ pl:=fun q => hi (by rw [q]; exact .head _)
 have i2 : i ≠ md:=fun q => hi (by rw [q]; exact .tail _ (.head _))
 exact (f4 i i1).trans ((f3 i i2).trans ((zun i1).trans (zun i1)))
section
variable (l : List (Option PV)) (m : Nat -> AO) (n : Nat)
noncomputable def Res.rvL (o : AO) (s : AS) : Res PV:=match o with
 | .list vs => if vs.length <= zLs then .ok (.ref s.nxt) ⟨s.loc, upd s.mem s.nxt (.list vs.reverse), s.nxt + 1⟩ else .stuck "reverse"
 | _ => .stuck "reverse: object"
theorem ap_rvL (i : Nat) : revM (.ref i) ⟨l, m, n⟩ = Res.rvL (m i) ⟨l, m, n⟩:=by
 unfold revM Res.rvL
 dsimp only
 cases m i with
 | list vs => dsimp only; split <;> rfl
 | _ => rfl
noncomputable def Res.smL (o : AO) (s : AS) : Res PV:=match o with
 | .list vs => match allInts vs with
   | some ns => if ns.length <= zLs then .ok (.int ns.sum) s else .stuck "sum: long"
   | none => .stuck "sum: not ints"
 | _ => .stuck "sum: object"
theorem ap_smL (i : Nat) : sumM (.ref i) ⟨l, m, n⟩ = Res.smL (m i) ⟨l, m, n⟩:=rfl
theorem smL_ints (s : AS) {ns : List Int} (h : ns.length <= zLs) : Res.smL (.list (ns.map .int)) s = .ok (.int ns.sum) s:=by
 unfold Res.smL
 dsimp only
 rw [allInts_map]
 exact if_pos h
theorem ap_eCompZ (as : List (M PV)) (elt : PV -> P) (s : AS) : eCompZ as elt s = (rangeM as s).bd (compRM elt):=bnd_ap _ _ _
theorem ap_eCompI (e : M PV) (elt : PV -> P) (s : AS) : eCompI e elt s = (e s).bd (compIM elt):=bnd_ap _ _ _
end
theorem comp_ints {elt : PV -> P} {s : AS} {g : Int -> Int} : ∀ (ks : List Int), (∀ k ∈ ks, elt (.int k) s = some (.int (g k))) -> comp elt s (ks.map .int) = some ((ks.map g).map .int)
 | [], _ => rfl
 | k :: r, h => by
  show (match elt (.int k) s, comp elt s (r.map .int) with | some u, some us => some (u :: us) | _, _ => none) = _
  rw [h k (.head _), comp_ints r fun k hk => h k (.tail _ hk)]
  rfl
theorem compR_ap {elt : PV -> P} {l : List (Option PV)} {m : Nat -> AO} {n : Nat} {g : Int -> Int} (ks : List Int) (h : ∀ k ∈ ks, elt (.int k) ⟨l, m, n⟩ = some (.int (g k))) : compRM elt ks ⟨l, m, n⟩ = .ok (.ref n) ⟨l, upd m n (.list ((ks.map g).map .int)), n + 1⟩:=by
 unfold compRM compZ
 rw [comp_ints ks h]
 dsimp only
 rw [allInts_map]
 rfl
theorem pSub_at {a b : P} {s : AS} {i : Nat} {k : Int} {vs : List PV} {v : PV} (h1 : a s = some (.ref i)) (h2 : b s = some (.int k)) (h3 : s.mem i = .list vs) (h4 : idx vs k = some v) : pSub a b s = some v:=by
 unfold pSub
 rw [h1, h2]
 simp only [h3, h4]
theorem pBin_at {op : Op} {a b : P} {s : AS} {x y z : Int} (h1 : a s = some (.int x)) (h2 : b s = some (.int y)) (h3 : intOp op x y = some z) : pBin op a b s = some (.int z):=by
 unfold pBin
 rw [h1, h2]
 simp only [h3, Option.map_some]
theorem pL_at {i : Nat} {l : List (Option PV)} {m : Nat -> AO} {n : Nat} {v : PV} (h : l[i]? = some (some v)) : pL i ⟨l, m, n⟩ = some v:=by
 unfold pL
 simp only [h]
theorem idx_int {bs : List Int} {j : Nat} (h : j < bs.length) (hl : bs.length <= zLs) : idx (bs.map PV.int) (j : Int) = some (.int (bs.getD j 0)):=by
 rw [idx_eq]
 rw [if_pos ⟨by lia, by lia⟩, List.getElem?_map, show ((j : Int)).toNat = j by lia, yJ, yI h]
 rfl
theorem lv_sum : ∀ bs : List Int, ((List.range bs.length).map fun j => bs.getD j 0 * 2 ^ j).sum = lv bs
 | [] => rfl
 | b :: r => by
  rw [yA, List.range_succ_eq_map, yC, List.sum_cons, List.map_map]
  have e : (List.range r.length).map ((fun j => (b :: r).getD j 0 * 2 ^ j) ∘ Nat.succ) = (List.range r.length).map fun j => 2 * (r.getD j 0 * 2 ^ j):=by
   refine List.map_congr_left fun j _ => ?_
   show r.getD j 0 * 2 ^ (j + 1) = 2 * (r.getD j 0 * 2 ^ j)
   rw [Int.pow_succ, <- Int.mul_assoc, Int.mul_comm 2]
  have e2 : ∀ (L : List Nat) (f : Nat -> Int), (L.map fun j => 2 * f j).sum = 2 * (L.map f).sum:=fun L f => by
   induction L with
   | nil => rfl
   | cons x L ih => rw [yC, yC, List.sum_cons, List.sum_cons, ih]; lia
  rw [e, e2, lv_sum r]
  show b * 1 + 2 * lv r = b + 2 * lv r
  lia
theorem number_sp {a : Act} {bl : Nat} {bs : List Int} {l : List (Option PV)} {m : Nat -> AO} {n : Nat} (hm : m bl = .list (bs.map .int)) (hl : bs.length <= 1000) (hbl : bl < n) (hb : Bits bs) :
  (F_law_number [actV a, .ref bl] ⟨l, m, n⟩).post (fun v s' => v = .int (numOf a bs) /\ Fr [] ⟨l, m, n⟩ s') NoE:=by
 have L : zLs = 1048576:=by decide
 have hl' : bs.length <= zLs:=by lia
 unfold F_law_number B_law_number numOf actV
 have key : ∀ (row : List Int) (l' : List (Option PV)) (m' : Nat -> AO) (n' i : Nat), row.length = bs.length -> Bits row -> m' i = .list (row.map .int) -> l'[2]? = some (some (.ref i)) ->
   compRM (fun x => pBin .mul (pSub (pL 2) (pK x)) (pBin .pow (pK (.int 2)) (pK x))) ((List.range bs.length).map fun (k : Nat) => (k : Int)) ⟨l', m', n'⟩ = .ok (.ref n') ⟨l', upd m' n' (.list ((((List.range bs.length).map fun (k : Nat) => (k : Int)).map fun k => row.getD k.toNat 0 * 2 ^ k.toNat).map .int)), n' + 1⟩:=fun row l' m' n' i hr hbr hm' hloc =>
  compR_ap _ fun k hk => by
   obtain ⟨j, hj, rfl⟩:=List.mem_map.mp hk
   have hj:=List.mem_range.mp hj
   refine pBin_at (pSub_at (pL_at hloc) rfl hm' (idx_int (by lia) (by lia))) (pBin_at rfl rfl (i_pow (by lia) (by lia) (by decide))) ?_
   rw [show ((j : Int)).toNat = j by lia]
   have hbj:=(bits_at hbr (j:=j) (by lia)).1
   exact i_mul (.inl (by rcases hbj with e | e <;> rw [e] <;> decide))
 have sum : ∀ row : List Int, row.length = bs.length -> (((List.range bs.length).map fun (k : Nat) => (k : Int)).map fun k => row.getD k.toNat 0 * 2 ^ k.toNat).sum = lv row:=fun row hr => by
  rw [<- lv_sum row, hr, List.map_map]
  rfl
 have hll : ∀ row : List Int, (((List.range bs.length).map fun (k : Nat) => (k : Int)).map fun k => row.getD k.toNat 0 * 2 ^ k.toNat).length <= zLs:=fun row => by
  rw [yG, yG, List.length_range]; exact hl'
 have hr1:=rangeK1 (b:=(bs.length : Int)) (n:=bs.length) rfl (by lia)
 by_cases hw : a.way = 3
 ·simp [Zq2, Zg0, Zg1, Zg2, Zt2, Zq3, Zq4, Zq5, Zq6, Zq11, Zq12, Zq26, Zq42, Zq57, Zq58, Zq60, Zq65, Zq66, Zq95, Zq96, Zcm1, bd_ok, ap_cmpI, ap_eLen, ap_eSum, rg_some, fnM_ap, ifK_t, Nat.reduceSub, Nat.reduceAdd, ap_sbT, it_some, idx_0, hw, ap_lnR, Res.lnB, hm, hl', hr1, ap_eCompZ]
  rw [key bs _ m n bl rfl hb hm rfl]
  simp only [Zq59, Zq61, bd_ok, zus, fin_rt, post_ok, ap_smL, smL_ints _ (hll bs), sum bs rfl]
  exact ⟨trivial, MFr.fr (by repeat' first | exact MFr.refl | (refine MFr.own ?_ (.head _)) | (refine MFr.own ?_ (.tail _ (.head _))) | (refine MFr.own ?_ (.tail _ (.tail _ (.head _)))) | (refine MFr.new ?_ (by lia))) (by lia)⟩
 ·have hbr : Bits bs.reverse:=fun b hb' => hb b (List.mem_reverse.mp hb')
  have hrl : bs.reverse.length = bs.length:=List.length_reverse
  simp [Zq2, Zg0, Zg1, Zg2, Zt2, Zq3, Zq4, Zq5, Zq6, Zq11, Zq12, Zq26, Zq42, Zq57, Zq58, Zq60, Zq65, Zq66, Zq95, Zq96, Zcm1, bd_ok, ap_cmpI, ap_eLen, ap_eSum, ap_eRev, rg_some, zus, fnM_ap, ifK_f, beq_eq_false_iff_ne, ne_eq, not_false_eq_true, Nat.reduceSub, Nat.reduceAdd, ap_sbT, it_some, idx_0, hw, ap_lnR, Res.lnB, hm, hl', hr1, ap_eCompZ, ap_rvL, Res.rvL]
  rw [key bs.reverse _ _ (n + 1) n hrl hbr (by rw [zus, List.map_reverse]) rfl]
  simp only [Zq59, Zq61, bd_ok, zus, fin_rt, post_ok, ap_smL, smL_ints _ (hll bs.reverse), sum bs.reverse hrl]
  exact ⟨trivial, MFr.fr (by repeat' first | exact MFr.refl | (refine MFr.own ?_ (.head _)) | (refine MFr.own ?_ (.tail _ (.head _))) | (refine MFr.own ?_ (.tail _ (.tail _ (.head _)))) | (refine MFr.new ?_ (by lia))) (by lia)⟩
noncomputable def nodeOf (bs : List Int) : Int:=bs.foldl (fun n b => 2 * n + b) 1
theorem runB_snoc (a : Act) (b : Int) : ∀ (bs : List Int) (c : C) (n : Int), runB a c n (bs ++ [b]) = goC (runB a c n bs) (spt a (bs.foldl (fun n b => 2 * n + b) n)) b
 | [], _, _ => rfl
 | x :: r, c, n => runB_snoc a b r _ _
theorem nodeOf_snoc (bs : List Int) (b : Int) : nodeOf (bs ++ [b]) = 2 * nodeOf bs + b:=by unfold nodeOf; rw [List.foldl_append]; rfl
theorem nodeOf_lv : ∀ (bs : List Int), nodeOf bs = 2 ^ bs.length + lv bs.reverse:=fun bs => by
 have : ∀ (bs : List Int) (n : Int), bs.foldl (fun n b => 2 * n + b) n = n * 2 ^ bs.length + lv bs.reverse:=fun bs => by
  induction bs with
  | nil => intro n; simp [lv]
  | cons x r ih =>
   intro n
   rw [List.foldl_cons, ih, List.reverse_cons, lv_append, List.length_reverse, yA, Int.pow_succ, Int.add_mul, Int.mul_comm 2 n, Int.mul_assoc, Int.mul_comm 2]
   lia
 unfold nodeOf
 rw [this, Int.one_mul]
theorem nodeOf_bd {bs : List Int} (h : Bits bs) : 1 <= nodeOf bs /\ nodeOf bs < 2 ^ (bs.length + 1):=by
 have hbr : Bits bs.reverse:=fun b hb' => h b (List.mem_reverse.mp hb')
 have:=lv_bd hbr
 rw [List.length_reverse] at this
 have hp : (0 : Int) < 2 ^ bs.length:=Int.pow_pos (by decide)
 rw [nodeOf_lv, Int.pow_succ]
 lia
theorem bits_snoc {bs : List Int} {b : Int} (h : Bits bs) (hb : Bit b) : Bits (bs ++ [b]):=fun x hx => by
 rcases List.mem_append.mp hx with h1 | h1
 ·exact h x h1
 ·rw [List.mem_singleton.mp h1]; exact hb
theorem sSeqc (a : S) (r : List S) : sSeq (a :: r) = fun s => (a s).sq (sSeq r):=funext fun s => zsc a r s
theorem act_0 (a : Act) (s : AS) : subM (actV a) (.int 0) s = .ok (.int a.way) s:=rfl
theorem act_1 (a : Act) (s : AS) : subM (actV a) (.int 1) s = .ok (.int a.at') s:=rfl
theorem act_2 (a : Act) (s : AS) : subM (actV a) (.int 2) s = .ok (.int a.cnt) s:=rfl
theorem act_3 (a : Act) (s : AS) : subM (actV a) (.int 3) s = .ok (amtV a.amt) s:=rfl
section
variable (l : List (Option PV)) (m : Nat -> AO) (n : Nat)
noncomputable def Res.isL (o : AO) (s : AS) : Res Unit:=match o with
 | .list _ => .ok () s
 | _ => .stuck "a method of no list"
theorem ap_isL (i : Nat) : isListM (.ref i) ⟨l, m, n⟩ = Res.isL (m i) ⟨l, m, n⟩:=rfl
noncomputable def Res.apL (o : AO) (i : Nat) (y : PV) (s : AS) : Res PV:=match o with
 | .list vs => if vs.length < zLs then .ok .none ⟨s.loc, upd s.mem i (.list (vs ++ [y])), s.nxt⟩ else .stuck "append"
 | _ => .stuck "append: object"
theorem ap_apL (i : Nat) (y : PV) : appendLM (.ref i) y ⟨l, m, n⟩ = Res.apL (m i) i y ⟨l, m, n⟩:=by
 unfold appendLM Res.apL
 dsimp only
 cases m i <;> rfl
end
inductive InILocX (ar : Nat) (pl : Nat) (md : Nat) (nl : Nat) (bl : Nat) (border : Int) (a : Act) (bs : List Int) (ll : List (Option PV)) : Prop where
 | mk (x1 : _) (x2 : _) (x3 : _) (x4 : _) (h0 : ll = [some (.ref ar), some (.int border), some (.ref pl), some (.ref md), some (.ref nl), some (actV a), some (.int (nodeOf bs)), some (.ref bl), x1, x2, x3, x4]) : InILocX ar pl md nl bl border a bs ll
structure InI (ar pl md nl bl : Nat) (border : Int) (a : Act) (c : C) (n0 : Nat) (m0 : Nat -> AO) (bs : List Int) (s : AS) : Prop where
 bits : Bits bs
 epl : s.mem pl = plV (runB a c 1 bs)
 emd : s.mem md = .list ((runB a c 1 bs).ms.map .int)
 ebl : s.mem bl = .list (bs.map .int)
 g : Gd (runB a c 1 bs)
 k : (runB a c 1 bs).k <= c.k + bs.length
 fr : MFr [pl, md, bl] n0 m0 s.mem
 nx : n0 <= s.nxt
 loc : InILocX ar pl md nl bl border a bs s.loc
theorem wr_tail {ar pl md nl bl : Nat} {border : Int} {a : Act} {c : C} {n0 : Nat} {m0 : Nat -> AO} {bs : List Int} {m : Nat -> AO} {n : Nat} {x : Option PV} {b : Int}
  (ha : ActOk a) (hbits : Bits bs) (epl : m pl = plV (runB a c 1 bs)) (emd : m md = .list ((runB a c 1 bs).ms.map .int)) (ebl : m bl = .list (bs.map .int)) (g : Gd (runB a c 1 bs)) (hk : (runB a c 1 bs).k <= c.k + bs.length)
  (fr : MFr [pl, md, bl] n0 m0 m) (nx : n0 <= n) (n1 : pl ≠ md) (n2 : bl ≠ pl) (n3 : bl ≠ md) (hbl : bl < n) (hlt : bs.length < a.cnt) (hb : Bit b) :
  (sSeq [sExp (eCall F_law_goes [(eL 2), (eL 3), (eL 9), (eL 10), (eL 11)]), sExp (eAppendL (eL 7) (eL 11)), sAsg 6 (eBin .add (eBin .mul (eK (.int 2)) (eL 6)) (eL 11))]
   ⟨[some (.ref ar), some (.int border), some (.ref pl), some (.ref md), some (.ref nl), some (actV a), some (.int (nodeOf bs)), some (.ref bl), x, some (spV (spt a (nodeOf bs))), some (.int (prt (runB a c 1 bs).R (runB a c 1 bs).ms (spt a (nodeOf bs)))), some (.int b)], m, n⟩).post
   (fun f s' => f = .nx /\ InI ar pl md nl bl border a c n0 m0 (bs ++ [b]) s') NoE:=by
 have hnd:=nodeOf_bd hbits
 have hso:=spt_ok ha hnd.1 hnd.2 hlt
 have h12:=ha.c.2
 have L : zLs = 1048576:=by decide
 have hbl2 : bs.length < zLs:=by lia
 have hm2 : ∀ x : Int, intOp .mul 2 x = some (2 * x):=fun x => i_mul (.inl (by decide))
 have hrun : goC (runB a c 1 bs) (spt a (nodeOf bs)) b = runB a c 1 (bs ++ [b]):=(runB_snoc a b bs c 1).symm
 have gk:=go_k (runB a c 1 bs) (spt a (nodeOf bs)) b
 have g2:=gd_go g hso hb
 rw [hrun] at gk g2
 simp [Zg2, Zg3, Zg9, Zg10, Zg11, Zq3, Zq4, Zq5, Zq6, Zq34, Zq57, Zq62, bd_ok]
 repeat (first | with_reducible refine post_fin ?_ | with_reducible refine post_seq ?_)
 refine bd_post (goes_sp epl emd n1 g hso hb) ?_ fun _ _ h => h
 rintro v ⟨l2, m2, n'⟩ ⟨rfl, q1, q2, q3, q4, q5⟩
 dsimp only at q1 q2 q3 q4 q5
 subst q3
 rw [hrun] at q1 q2
 have q6 : m2 bl = .list (bs.map .int):=(q5 bl hbl (by simp [n2, n3])).trans ebl
 simp [Zq2, Zg6, Zg7, Zg11, Zt6, Zq7, Zq8, Zq42, Zq56, Zq57, Zq58, Zq62, Zq63, Zq75, Zq76, Zq77, bd_ok, ofI_some, ap_binI, i_add, post_ok, ap_isL, Res.isL, ap_apL, Res.apL, q6, hbl2, hm2]
 refine ⟨bits_snoc hbits hb, (zun n2.symm).trans q1, (zun n3.symm).trans q2, (zus _ _ _).trans (by simp), g2, by rw [yH]; exact leOr hk gk, ?_, yL nx q4, _, _, _, _, by rw [nodeOf_snoc]⟩
 exact (fr.trans nx (MFr.own (fun i hi hn => q5 i hi fun q => hn (sub2 i q)) (.tail _ (.tail _ (.head _)))))
theorem i_mod2 (a : Int) : intOp .mod a 2 = some (a % 2):=i_mod (by decide)
theorem wr_step {ar pl md nl bl : Nat} {border : Int} {a : Act} {c : C} {n0 : Nat} {m0 : Nat -> AO} {bs : List Int} {s : AS}
  (ha : ActOk a) (hbo : 0 <= border /\ border <= 1000) (hck : c.k <= 800) (n1 : pl ≠ md) (n2 : bl ≠ pl) (n3 : bl ≠ md) (hbl : bl < n0) (hlt : bs.length < a.cnt) (h : InI ar pl md nl bl border a c n0 m0 bs s) :
  ((setL 8 (.int bs.length) s).bd fun _ s => sSeq [sAsg 9 (eCall F_law_spot [(eL 5), (eL 6)]),
  sAsg 10 (eCall F_law_part [(eL 2), (eL 3), (eL 9)]),
  sIf (tIsNone (eSub (eL 5) (eK (.int 3)))) [sAsg 11 (eIntB (tCmp .ge (eBin .mul (eBin .mul (eL 1) (eBin .pow (eK (.int 2)) (eK (.int 24)))) (eBin .pow (eK (.int 256)) (eSub (eL 2) (eK (.int 2))))) (eBin .add (eSub (eL 2) (eK (.int 0))) (eL 10))))] [sAsg 11 (eBin .mod (eBin .fdiv (eSub (eL 5) (eK (.int 3))) (eBin .pow (eK (.int 2)) (eIf (tCmp .eq (eSub (eL 5) (eK (.int 0))) (eK (.int 3))) (eL 8) (eBin .sub (eBin .sub (eSub (eL 5) (eK (.int 2))) (eK (.int 1))) (eL 8))))) (eK (.int 2)))],
  sExp (eCall F_law_goes [(eL 2), (eL 3), (eL 9), (eL 10), (eL 11)]),
  sExp (eAppendL (eL 7) (eL 11)),
  sAsg 6 (eBin .add (eBin .mul (eK (.int 2)) (eL 6)) (eL 11))] s).post (fun f s' => f = .nx /\ ∃ b, InI ar pl md nl bl border a c n0 m0 (bs ++ [b]) s') NoE:=by
 obtain ⟨l, m, n⟩:=s
 obtain ⟨hbits, epl, emd, ebl, g, hk, fr, nx, x1, x2, x3, x4, hloc⟩:=h
 dsimp only at epl emd ebl fr nx hloc
 subst hloc
 have hnd:=nodeOf_bd hbits
 have hso:=spt_ok ha hnd.1 hnd.2 hlt
 have h12:=ha.c.2
 have hpart:=fun l n => part_ap (l:=l) (n:=n) epl emd g hso
 have tail:=fun (b : Int) (hb : Bit b) (x : Option PV) => wr_tail (ar:=ar) (nl:=nl) (border:=border) (x:=x) ha hbits epl emd ebl g hk fr nx n1 n2 n3 (yK hbl nx) hlt hb
 rw [sSeqc, sSeqc, sSeqc]
 generalize sSeq [sExp (eCall F_law_goes [(eL 2), (eL 3), (eL 9), (eL 10), (eL 11)]), sExp (eAppendL (eL 7) (eL 11)), sAsg 6 (eBin .add (eBin .mul (eK (.int 2)) (eL 6)) (eL 11))] = T at *
 have hp24 : intOp .pow 2 24 = some 16777216:=i_powc (by decide) rfl
 have hm1 : intOp .mul border 16777216 = some (border * 16777216):=i_mul (.inr (by decide))
 have hpk : intOp .pow 256 ((runB a c 1 bs).k : Int) = some (256 ^ (runB a c 1 bs).k):=by rw [i_pow (by lia) (by lia) (by decide)]; simp
 have hm3 : ∀ y : Int, intOp .mul (border * 16777216) y = some (border * 16777216 * y):=fun y => i_mul (.inl (nab (by lia) (by lia)))
 have epl':=epl
 unfold plV at epl'
 cases ham : a.amt with
 | none =>
  simp [Zq2, Zg1, Zg2, Zg3, Zg5, Zg6, Zg9, Zg10, Zt9, Zt10, Zt11, Zu8, Zq3, Zq4, Zq5, Zq6, Zq7, Zq8, Zq11, Zq12, Zq13, Zq14, Zq24, Zq25, Zq34, Zq42, Zq55, Zq56, Zq57, Zq58, Zq65, Zq66, Zn1, Zcm6, bd_ok, ofI_some, ap_binI, ap_cmpI, i_add, sq_nx, ifK_t, decide_eq_true_eq, spot_ap, hpart, act_3, ham, amtV, ap_sbL, Res.sbL, epl', idx_0, idx_2, hp24, hm1, hpk, hm3]
  refine post_mono (tail _ ?_ _) (fun f s' h => ⟨h.1, _, h.2⟩) fun _ _ h => h
  split
  ·exact .inr rfl
  ·exact .inl rfl
 | some v =>
  have hd : ∀ e : Int, 0 <= e -> e <= 12 -> ∃ p : Int, intOp .pow 2 e = some p /\ intOp .fdiv v p = some (v / p):=fun e h0 h1 => by
   refine ⟨2 ^ e.toNat, i_pow h0 (by lia) (by decide), i_fd (Int.pow_pos (by decide)) ?_⟩
   have : ∀ j : Nat, j <= 12 -> (2 : Int) ^ j < 2 ^ 64:=by decide
   exact this _ (by lia)
  by_cases hw : a.way = 3
  ·obtain ⟨p, d1, d2⟩:=hd (bs.length : Int) (by lia) (by lia)
   simp [Zq2, Zg2, Zg3, Zg5, Zg6, Zg8, Zg9, Zt9, Zt10, Zt11, Zu8, Zq3, Zq4, Zq5, Zq6, Zq7, Zq8, Zq11, Zq12, Zq13, Zq14, Zq26, Zq34, Zq42, Zq55, Zq56, Zq57, Zq58, Zq65, Zq66, Zn2, Zcm1, bd_ok, ofI_some, ap_binI, ap_cmpI, sq_nx, ifK_t, ifK_f, spot_ap, hpart, act_0, act_3, ham, amtV, hw, d1, d2, i_mod2]
   refine post_mono (tail _ ?_ _) (fun f s' h => ⟨h.1, _, h.2⟩) fun _ _ h => h
   unfold Bit
   lia
  ·obtain ⟨p, d1, d2⟩:=hd ((a.cnt : Int) - 1 - bs.length) (by lia) (by lia)
   simp [Zq2, Zg2, Zg3, Zg5, Zg6, Zg8, Zg9, Zt9, Zt10, Zt11, Zu8, Zq3, Zq4, Zq5, Zq6, Zq7, Zq8, Zq11, Zq12, Zq13, Zq14, Zq26, Zq34, Zq42, Zq55, Zq56, Zq57, Zq58, Zq65, Zq66, Zn2, Zcm1, bd_ok, ofI_some, ap_binI, ap_cmpI, i_sub, sq_nx, ifK_f, beq_eq_false_iff_ne, ne_eq, not_false_eq_true, spot_ap, hpart, act_0, act_2, act_3, ham, amtV, hw, d1, d2, i_mod2]
   refine post_mono (tail _ ?_ _) (fun f s' h => ⟨h.1, _, h.2⟩) fun _ _ h => h
   unfold Bit
   lia
theorem toBytes_map : ∀ (l : List Int), (∀ x ∈ l, 0 <= x /\ x < 256) -> toBytes (l.map .int) = some (l.map fun x => UInt8.ofNat x.toNat)
 | [], _ => rfl
 | x :: r, h => by
  show (if 0 <= x /\ x < 256 then (toBytes (r.map .int)).map (UInt8.ofNat x.toNat :: ·) else none) = _
  rw [if_pos (h x (.head _)), toBytes_map r fun y hy => h y (.tail _ hy)]
  rfl
theorem digs_list : ∀ (n : Nat) (N : Int), ((List.range n).map fun i => N / 256 ^ (n - 1 - i) % 256).map (fun x => UInt8.ofNat x.toNat) = digs N n
 | 0, _ => rfl
 | n + 1, N => by
  rw [List.range_succ, List.map_append, List.map_append]
  unfold digs
  rw [<- digs_list n (N / 256)]
  congr 1
  ·rw [List.map_map, List.map_map]
   refine List.map_congr_left fun i hi => ?_
   have hi:=List.mem_range.mp hi
   show UInt8.ofNat (N / 256 ^ (n + 1 - 1 - i) % 256).toNat = UInt8.ofNat (N / 256 / 256 ^ (n - 1 - i) % 256).toNat
   rw [Int.ediv_ediv_of_nonneg (by decide), show n + 1 - 1 - i = (n - 1 - i) + 1 from sb1 hi, Int.pow_succ, Int.mul_comm]
  ·simp
theorem runA_snoc (a : Act) (bs : List Int) : ∀ (ps : List (Act × List Int)) (c : C), runA c (ps ++ [(a, bs)]) = runB a (runA c ps) 1 bs
 | [], _ => rfl
 | (x, y) :: r, c => runA_snoc a bs r _
noncomputable def PairOk (p : Act × List Int) : Prop:=ActOk p.1 /\ Bits p.2 /\ p.2.length = p.1.cnt
noncomputable def numP (p : Act × List Int) : Int:=numOf p.1 p.2
inductive OutIExX (acts : List Act) (n0 : Nat) (j : Nat) (mm : Nat -> AO) : Prop where
 | mk (ps : List (Act × List Int)) (h0 : ps.map (·.1) = acts.take j) (h1 : (∀ p ∈ ps, PairOk p)) (h2 : mm n0 = plV (runA c0 ps)) (h3 : mm (n0 + 2) = .list ((runA c0 ps).ms.map .int)) (h4 : mm (n0 + 3) = .list ((ps.map numP).map .int)) (h5 : Gd (runA c0 ps)) (h6 : (runA c0 ps).k <= 12 * j) : OutIExX acts n0 j mm
inductive OutILocX (ar : Nat) (border : Int) (n0 : Nat) (ll : List (Option PV)) : Prop where
 | mk (x5 : _) (x6 : _) (x7 : _) (x8 : _) (x9 : _) (x10 : _) (x11 : _) (h0 : ll = [some (.ref ar), some (.int border), some (.ref n0), some (.ref (n0 + 2)), some (.ref (n0 + 3)), x5, x6, x7, x8, x9, x10, x11]) : OutILocX ar border n0 ll
structure OutI (ar : Nat) (border : Int) (acts : List Act) (n0 : Nat) (m0 : Nat -> AO) (j : Nat) (s : AS) : Prop where
 ex : OutIExX acts n0 j s.mem
 ear : s.mem ar = .list (acts.map actV)
 fr : MFr [] n0 m0 s.mem
 nx : n0 + 4 <= s.nxt
 loc : OutILocX ar border n0 s.loc
inductive InJ (ar pl md nl bl : Nat) (border : Int) (a : Act) (c : C) (n0 : Nat) (m0 : Nat -> AO) (j : Nat) (s : AS) : Prop where
 | mk (bs : _) (h0 : bs.length = j) (h1 : InI ar pl md nl bl border a c n0 m0 bs s) : InJ ar pl md nl bl border a c n0 m0 j s
theorem written_sp {ar : Nat} {border : Int} {acts : List Act} {s : AS} (hok : ∀ a ∈ acts, ActOk a) (hl : acts.length <= 10) (har : ar < s.nxt) (hm : s.mem ar = .list (acts.map actV)) (hbo : 0 <= border /\ border <= 1000) :
  (F_law_written [.ref ar, .int border] s).post (fun v s' => ∃ (ps : List (Act × List Int)) (nl md : Nat), v = .tup [.ref nl, .byt (digs (runA c0 ps).N ((runA c0 ps).k + 5)), .ref md] /\ ps.map (·.1) = acts /\ (∀ p ∈ ps, PairOk p) /\ Gd (runA c0 ps) /\ (runA c0 ps).k <= 120 /\
   s'.mem nl = .list ((ps.map numP).map .int) /\ s'.mem md = .list ((runA c0 ps).ms.map .int) /\ s.nxt <= nl /\ nl < s'.nxt /\ s.nxt <= md /\ md < s'.nxt /\ Fr [] s s') NoE:=by
 obtain ⟨l, m, n⟩:=s
 dsimp only at har hm
 have L : zLs = 1048576:=by decide
 have hb80 : ∀ (l' : List (Option PV)) (m' : Nat -> AO) (n' : Nat), m' n' = .list [.int 1024] -> binM .mul (.ref n') (.int 80) ⟨l', m', n' + 1⟩ = .ok (.ref (n' + 1)) ⟨l', upd m' (n' + 1) (.list (c0.ms.map .int)), n' + 2⟩:=fun l' m' n' h => by
  unfold binM
  dsimp only
  rw [h]
  dsimp only
  rw [if_pos (by decide)]
  rfl
 have hb80':=fun (l' : List (Option PV)) (m' : Nat -> AO) => hb80 l' (upd m' (n + 1) (.list [.int 1024])) (n + 1) (zus _ _ _)
 have hp32 : intOp .pow 2 32 = some 4294967296:=i_powc (by decide) rfl
 unfold F_law_written B_law_written
 simp only [Zq2, Zg0, Zu2, Zu3, Zu4, Zq3, Zq4, Zq5, Zq6, Zq7, Zq8, Zq43, Zq57, Zq58, Zq67, Zq68, Zq69, Zq70, Zq90, Zq91, Zq92, Zq93, Zq94, bd_ok, ofI_some, ap_binI, ap_unpack, ap_sForV, i_sub, fnM_ap, yC, yD, yA, yB, yE, yF, List.replicate, if_true, Nat.reduceSub, Nat.reduceAdd, hp32, hb80', Int.reduceSub]
 repeat (first | with_reducible refine post_fin ?_ | with_reducible refine post_seq ?_)
 refine forV_post (vs:=acts.map actV) (Qr:=fun _ _ => False) (OutI ar border acts n m) (by rw [yG]; lia) ?_ (fun _ _ h => h.ear) ?_ ?_ (fun _ _ h => h.elim)
 ·refine ⟨⟨[], rfl, fun _ h => (by cases h), ?_, ?_, ?_, gd_c0, yM _⟩, ?_, ?_, yM _, _, _, _, _, _, _, _, rfl⟩
  ·show upd _ _ _ n = _
   rw [zun (by lia), zun (by lia), zun (by lia), zus]
   rfl
  ·show upd _ _ _ (n + 2) = _
   rw [zun (by lia)]
   exact zus _ _ _
  ·exact zus _ _ _
  ·show upd _ _ _ ar = _
   rw [zun (by lia), zun (by lia), zun (by lia), zun (by lia)]
   exact hm
  ·repeat' first | exact MFr.refl | (refine MFr.own ?_ (.head _)) | (refine MFr.own ?_ (.tail _ (.head _))) | (refine MFr.own ?_ (.tail _ (.tail _ (.head _)))) | (refine MFr.new ?_ (by lia))
 ·rintro j ⟨l1, m1, n1⟩ v hv ⟨⟨ps, hps, hpk, epl, emd, enl, g, hk⟩, ear, fr, nx, x5, x6, x7, x8, x9, x10, x11, hloc⟩
  dsimp only at epl emd enl ear fr nx hloc
  subst hloc
  obtain ⟨a, haj, rfl⟩ : ∃ a, acts[j]? = some a /\ v = actV a:=by
   rw [List.getElem?_map] at hv
   obtain ⟨a, h1, h2⟩:=Option.map_eq_some_iff.mp hv
   exact ⟨a, h1, h2.symm⟩
  have hja : j < acts.length:=(List.getElem?_eq_some_iff.mp haj).1
  have ha:=hok a (List.mem_of_getElem? haj)
  have h12:=ha.c
  have hr:=rangeK1 (b:=(a.cnt : Int)) (n:=a.cnt) rfl (by lia)
  simp only [Zq2, Zg5, Zu5, Zu6, Zu7, Zq3, Zq4, Zq5, Zq6, Zq43, Zq57, Zq58, Zq65, Zq66, Zq69, Zq70, Zq88, Zq89, Zq90, Zq91, Zq92, Zq95, Zq96, Zq97, Zq98, bd_ok, rg_some, yE, yF, act_2, hr, List.reverse_cons, List.reverse_nil]
  repeat (first | with_reducible refine post_fin ?_ | with_reducible refine post_seq ?_)
  refine forL_post (Qr:=fun _ _ => False) (InJ ar n (n + 2) (n + 3) n1 border a (runA c0 ps) (n1 + 1) (upd m1 n1 (.list []))) ?_ ?_ ?_ (fun _ _ h => h.elim)
  ·exact ⟨[], rfl, fun _ h => (by cases h), (zun (by lia)).trans epl, (zun (by lia)).trans emd, zus _ _ _, g, yM _, .refl, yM _, _, _, _, _, rfl⟩
  ·rintro t s1 v1 hv1 ⟨bs, hbs, hI⟩
   rw [List.map_map] at hv1
   obtain ⟨ht, rfl⟩ : t < a.cnt /\ v1 = .int (t : Int):=range_get hv1
   subst hbs
   refine post_mono (wr_step ha hbo (by lia) (by lia) (by lia) (by lia) (by lia) ht hI) (fun f s' h => ?_) fun _ _ h => h
   obtain ⟨rfl, b, h⟩:=h
   exact ⟨bs ++ [b], by rw [yH]; rfl, h⟩
  ·rintro ⟨l2, m2, n2⟩ ⟨bs, hbs, hbits, epl2, emd2, ebl2, g2, hk2, fr2, nx2, y1, y2, y3, y4, hloc⟩
   dsimp only at epl2 emd2 ebl2 fr2 nx2 hloc
   subst hloc
   have hcn : bs.length = a.cnt:=by rw [hbs, yG, yG, List.length_range]
   have enl2 : m2 (n + 3) = .list ((ps.map numP).map .int):=by
    rw [fr2 (n + 3) (by lia) (by simp; lia), zun (by lia)]
    exact enl
   have ear2 : m2 ar = .list (acts.map actV):=by
    rw [fr2 ar (by lia) (by simp; lia), zun (by lia)]
    exact ear
   have hpl : ps.length <= 10:=by
    have:=congrArg List.length hps
    rw [yG, List.length_take] at this
    lia
   have hpl2 : ((ps.map numP).map PV.int).length < zLs:=by
    rw [yG, yG]; lia
   simp only [Zg4, Zg5, Zg7, Zq3, Zq4, Zq5, Zq6, Zq34, Zq57, Zq62, Zq75, Zq76, Zq77, bd_ok, ap_isL, Res.isL, enl2]
   repeat (first | with_reducible refine post_fin ?_ | with_reducible refine post_seq ?_)
   refine bd_post (bd_post (number_sp ebl2 (by lia) (by lia) hbits) ?_ fun _ _ h => h) (Q':=fun v s' => v = .none /\ s'.loc = [some (.ref ar), some (.int border), some (.ref n), some (.ref (n + 2)), some (.ref (n + 3)), some (actV a), some (.int (nodeOf bs)), some (.ref n1), y1, y2, y3, y4] /\ (∃ m3, MFr [] n2 m2 m3 /\ s'.mem = upd m3 (n + 3) (.list ((ps.map numP).map .int ++ [.int (numOf a bs)]))) /\ n2 <= s'.nxt) ?_ fun _ _ h => h
   ·rintro v ⟨l3, m3, n3⟩ ⟨rfl, q1, q2, q3⟩
    dsimp only at q1 q2 q3
    subst q1
    have : m3 (n + 3) = .list ((ps.map numP).map .int):=(q3 (n + 3) (by lia) (by simp)).trans enl2
    simp only [post_ok, if_true, ap_apL, Res.apL, this, hpl2]
    exact ⟨trivial, trivial, ⟨m3, q3, rfl⟩, q2⟩
   ·rintro v ⟨l3, m3, n3⟩ ⟨rfl, q1, ⟨m4, q3, q4⟩, q2⟩
    dsimp only at q1 q2 q3 q4
    subst q1 q4
    simp only [Zq56, Zq63, post_ok]
    have hr2 : runA c0 (ps ++ [(a, bs)]) = runB a (runA c0 ps) 1 bs:=runA_snoc _ _ _ _
    refine ⟨⟨ps ++ [(a, bs)], ?_, ?_, ?_, ?_, ?_, by rw [hr2]; exact g2, by rw [hr2]; lia⟩, ?_, ?_, (show n + 4 <= n3 by lia), _, _, _, _, _, _, _, rfl⟩
    ·rw [List.map_append, hps]
     show _ ++ [a] = _
     rw [List.take_add_one, haj]
     rfl
    ·intro p hp
     rcases List.mem_append.mp hp with h1 | h1
     ·exact hpk p h1
     ·rw [List.mem_singleton.mp h1]
      exact ⟨ha, hbits, hcn⟩
    ·rw [hr2]
     exact (zun (by lia)).trans ((q3 n (by lia) (by simp)).trans epl2)
    ·rw [hr2]
     exact (zun (by lia)).trans ((q3 (n + 2) (by lia) (by simp)).trans emd2)
    ·refine (zus _ _ _).trans ?_
     rw [List.map_append, List.map_append]
     rfl
    ·exact (zun (by lia)).trans ((q3 ar (by lia) (by simp)).trans ear2)
    ·refine MFr.new ?_ (by lia)
     intro i hi _
     rw [q3 i (by lia) (by simp), fr2 i (by lia) (by simp; lia), zun (by lia)]
     exact fr i hi (by simp)
 ·intro hz0 hz1
  refine yN fun hgl => ?_
  obtain ⟨l1, m1, n1⟩:=hz0
  obtain ⟨⟨ps, hps, hpk, epl, emd, enl, g, hk⟩, ear, fr, nx, x5, x6, x7, x8, x9, x10, x11, hloc⟩:=hz1
  refine hgl ?_; clear hgl
  dsimp only at epl emd enl ear fr nx hloc
  subst hloc
  rw [yG] at hps hk
  rw [List.take_length] at hps
  have hk' : (runA c0 ps).k <= 120:=by lia
  generalize hc : runA c0 ps = c at *
  have hr:=rangeK3 (a:=(c.k : Int) + 4) (n:=c.k + 5) (by lia) (by lia)
  have epl':=epl
  unfold plV at epl'
  have hg : ∀ k ∈ (List.range (c.k + 5)).map (fun (k : Nat) => ((c.k + 5 : Nat) : Int) - 1 - k), (fun x => pBin .mod (pBin .fdiv (pSub (pL 2) (pK (.int 0))) (pBin .pow (pK (.int 256)) (pK x))) (pK (.int 256))) (.int k) ⟨[some (.ref ar), some (.int border), some (.ref n), some (.ref (n + 2)), some (.ref (n + 3)), x5, x6, x7, x8, x9, x10, x11], m1, n1⟩ = some (.int (c.N / 256 ^ k.toNat % 256)):=fun k hk => by
   obtain ⟨j, hj, rfl⟩:=List.mem_map.mp hk
   have hj:=List.mem_range.mp hj
   refine pBin_at (pBin_at (pSub_at (pL_at rfl) rfl epl' (idx_0 _ _)) (pBin_at rfl rfl (i_pow (by lia) (by lia) (by decide))) (i_fdiv (pow_pos _) ?_)) rfl (i_mod (by decide))
   have e1 : ((256 : Int) ^ (((c.k + 5 : Nat) : Int) - 1 - j).toNat).natAbs = 256 ^ (((c.k + 5 : Nat) : Int) - 1 - j).toNat:=by rw [Int.natAbs_pow]; rfl
   rw [e1]
   have e2 : (256 : Nat) ^ (((c.k + 5 : Nat) : Int) - 1 - j).toNat <= 256 ^ 130:=Nat.pow_le_pow_right (by decide) (by lia)
   refine Nat.lt_of_le_of_lt e2 ?_
   have e3 : (256 : Nat) ^ 130 = 2 ^ 1040:=by rw [show (256 : Nat) = 2 ^ 8 from rfl, <- Nat.pow_mul]
   rw [e3]
   exact Nat.pow_lt_pow_right (by decide) (by decide)
  have hcm:=compR_ap (elt:=fun x => pBin .mod (pBin .fdiv (pSub (pL 2) (pK (.int 0))) (pBin .pow (pK (.int 256)) (pK x))) (pK (.int 256))) (l:=[some (.ref ar), some (.int border), some (.ref n), some (.ref (n + 2)), some (.ref (n + 3)), x5, x6, x7, x8, x9, x10, x11]) (m:=m1) (n:=n1) (g:=fun k => c.N / 256 ^ k.toNat % 256) _ hg
  have hdl : (((List.range (c.k + 5)).map (fun (k : Nat) => ((c.k + 5 : Nat) : Int) - 1 - k)).map fun k => c.N / 256 ^ k.toNat % 256).map (fun x => UInt8.ofNat x.toNat) = digs c.N (c.k + 5):=by
   rw [<- digs_list (c.k + 5) c.N]
   refine congrArg (List.map fun x : Int => UInt8.ofNat x.toNat) ?_
   rw [List.map_map]
   refine List.map_congr_left fun i hi => ?_
   have hi:=List.mem_range.mp hi
   show c.N / 256 ^ (((c.k + 5 : Nat) : Int) - 1 - i).toNat % 256 = _
   rw [show (((c.k + 5 : Nat) : Int) - 1 - i).toNat = c.k + 5 - 1 - i from tnI (by lia)]
  have htb:=toBytes_map (((List.range (c.k + 5)).map (fun (k : Nat) => ((c.k + 5 : Nat) : Int) - 1 - k)).map fun k => c.N / 256 ^ k.toNat % 256) (fun x hx => by
   obtain ⟨k, _, rfl⟩:=List.mem_map.mp hx
   exact m256 _)
  rw [hdl] at htb
  have hdg : (digs c.N (c.k + 5)).length <= zLs:=by rw [digs_len]; lia
  simp only [Zq2, Zg2, Zg3, Zg4, Zq3, Zq4, Zq5, Zq6, Zq7, Zq8, Zq9, Zq10, Zq57, Zq59, Zq60, Zq61, Zq65, Zq66, Zq67, Zq68, Zq95, Zq96, bd_ok, ofI_some, ap_binI, ap_eBytes, rg_some, zus, i_add, post_ok, if_true, ap_sbL, Res.sbL, epl', idx_2, hr, ap_eCompZ, hcm, ap_byB, Res.byB, htb, hdg]
  refine ⟨ps, n + 3, n + 2, ?_, hps, hpk, ?_, ?_, ?_, ?_, by lia, by lia, by lia, by lia, MFr.fr ?_ (by lia)⟩
  ·rw [hc]
  ·rw [hc]; exact g
  ·rw [hc]; exact hk'
  ·exact (zun (by lia)).trans enl
  ·rw [hc]; exact (zun (by lia)).trans emd
  ·exact fr.new (by lia)
theorem ap_eCut2 (a h : M PV) (s : AS) : eCut a none (some h) s = (a s).bd fun x s => (h s).bd fun v s => (match v with | .int i => cutM x none (some i) s | _ => .stuck "slice bound"):=by
 show bnd a _ s = _
 rw [bnd_ap]; congr 1; funext x s
 show bnd (ret none) _ s = _
 rw [bnd_ap]
 show bnd (optI (some h)) _ s = _
 rw [bnd_ap]
 show (bnd h _ s).bd _ = _
 rw [bnd_ap]
 cases h s with
 | ok v s' => cases v <;> rfl
 | exc => rfl
 | stuck => rfl
theorem ap_eCut1 (a h : M PV) (s : AS) : eCut a (some h) none s = (a s).bd fun x s => (h s).bd fun v s => (match v with | .int i => cutM x (some i) none s | _ => .stuck "slice bound"):=by
 show bnd a _ s = _
 rw [bnd_ap]; congr 1; funext x s
 show bnd (optI (some h)) _ s = _
 rw [bnd_ap]
 show (bnd h _ s).bd _ = _
 rw [bnd_ap]
 cases h s with
 | ok v s' => cases v <;> rfl
 | exc => rfl
 | stuck => rfl
theorem cut_ints {ns : List Int} (h : ns.length <= zLs) {l : List (Option PV)} {m : Nat -> AO} {n : Nat} : cutM (.ints ns) none (some 11) ⟨l, m, n⟩ = .ok (.ref n) ⟨l, upd m n (.list ((ns.take 11).map .int)), n + 1⟩:=by
 unfold cutM cutL
 dsimp only
 rw [if_pos (by simp [okBound, dcd_iff, h]; decide)]
 rfl
theorem cut_to {vs : List PV} {i : Nat} {k : Int} {l : List (Option PV)} {m : Nat -> AO} {n : Nat} (hm : m i = .list vs) (h : vs.length <= zLs) (h0 : 0 <= k) (h1 : k < zLs) : cutM (.ref i) none (some k) ⟨l, m, n⟩ = .ok (.ref n) ⟨l, upd m n (.list (vs.take k.toNat)), n + 1⟩:=by
 unfold cutM cutL
 dsimp only
 rw [hm]
 dsimp only
 rw [if_pos (by simp [okBound, dcd_iff, h, h0, h1])]
 rfl
theorem cut_from {vs : List PV} {i : Nat} {k : Int} {l : List (Option PV)} {m : Nat -> AO} {n : Nat} (hm : m i = .list vs) (h : vs.length <= zLs) (h0 : 0 <= k) (h1 : k < zLs) : cutM (.ref i) (some k) none ⟨l, m, n⟩ = .ok (.ref n) ⟨l, upd m n (.list (vs.drop k.toNat)), n + 1⟩:=by
 unfold cutM cutL
 dsimp only
 rw [hm]
 dsimp only
 rw [if_pos (by simp [okBound, dcd_iff, h, h0, h1])]
 rfl
theorem compI_ap {elt : PV -> P} {l : List (Option PV)} {m : Nat -> AO} {n i : Nat} {g : Int -> Int} {ks : List Int} (hm : m i = .list (ks.map .int)) (hl : ks.length <= zLs) (h : ∀ k ∈ ks, elt (.int k) ⟨l, m, n⟩ = some (.int (g k))) : compIM elt (.ref i) ⟨l, m, n⟩ = .ok (.ref n) ⟨l, upd m n (.list ((ks.map g).map .int)), n + 1⟩:=by
 unfold compIM compZ
 dsimp only
 rw [hm]
 dsimp only
 rw [allInts_map]
 dsimp only
 rw [if_pos hl, comp_ints ks h]
 dsimp only
 rw [allInts_map]
 rfl
theorem len_ints {ns : List Int} (h : ns.length <= zLs) (s : AS) : fLen (.ints ns) s = .ok (.int ns.length) s:=if_pos h
theorem ap_addL {i j : Nat} {vs us : List PV} {l : List (Option PV)} {m : Nat -> AO} {n : Nat} (h1 : m i = .list vs) (h2 : m j = .list us) (h : vs.length + us.length <= zLs) : binM .add (.ref i) (.ref j) ⟨l, m, n⟩ = .ok (.ref n) ⟨l, upd m n (.list (vs ++ us)), n + 1⟩:=by
 unfold binM
 dsimp only
 rw [h1, h2]
 dsimp only
 rw [if_pos h]
 rfl
structure NumsOk (xs : List Int) : Prop where
 l2 : 2 <= xs.length
 l11 : xs.length <= 11
 pos : ∀ x ∈ xs, 0 <= x
inductive ActI (xs : List Int) (sc : PV) (n0 : Nat) (m0 : Nat -> AO) (nr or ar : Nat) (j : Nat) (s : AS) : Prop where
 | mk (acts : List Act) (x5 x6 x7 x8 x9 x10 : Option PV) (h0 : acts.length = j) (h1 : (∀ a ∈ acts, ActOk a)) (h2 : s.mem ar = .list (acts.map actV)) (h3 : s.mem or = .list ((xs.drop 1).map .int)) (h4 : MFr [] n0 m0 s.mem) (h5 : n0 <= s.nxt) (h6 : ar < s.nxt) (h7 : or < s.nxt) (h8 : s.loc = [some sc, some (.ref nr), some (.int (xs.getD 0 0)), some (.ref or), some (.ref ar), x5, x6, x7, x8, x9, x10]) : ActI xs sc n0 m0 nr or ar j s
theorem actOk_of {w a : Int} {c : Nat} {amt : Option Int} (h : (w = 0 /\ c = 1 /\ 0 <= a /\ a < 4) \/ (w = 1 /\ 1 <= c /\ c <= 12 /\ a = 0) \/ (2 <= w /\ w <= 3 /\ 1 <= c /\ c <= 4 /\ 0 <= a /\ a <= 64)) (am : ∀ v, amt = some v -> 0 <= v) : ActOk ⟨w, a, c, amt⟩:=by
 rcases h with ⟨rfl, rfl, h1, h2⟩ | ⟨rfl, h1, h2, rfl⟩ | ⟨w1, w2, h1, h2, h3, h4⟩
 ·exact ⟨(by decide : (0 : Int) <= 0 /\ (0 : Int) <= 3), (by decide : 1 <= 1 /\ 1 <= 12), fun _ => rfl, fun h => absurd h (by decide : ¬ (2 : Int) <= 0), h1, fun _ => h2, fun h => absurd h (by decide : ¬ (2 : Int) <= 0), am⟩
 ·exact ⟨(by decide : (0 : Int) <= 1 /\ (1 : Int) <= 3), ⟨h1, h2⟩, fun h => absurd h (by decide : ¬ (1 : Int) = 0), fun h => absurd h (by decide : ¬ (2 : Int) <= 1), Int.le_refl 0, fun h => absurd h (by decide : ¬ (1 : Int) = 0), fun h => absurd h (by decide : ¬ (2 : Int) <= 1), am⟩
 ·have n0 : w ≠ 0:=fun q => by rw [q] at w1; exact absurd w1 (by decide)
  exact ⟨⟨Int.le_trans (by decide) w1, w2⟩, ⟨h1, yL h2 (by decide)⟩, fun h => absurd h n0, fun _ => h2, h3, fun h => absurd h n0, fun _ => h4, am⟩
theorem cntN (y : Int) {m : Nat} (h : 0 < m) : ∃ c : Nat, 1 + y % m = c /\ 1 <= c /\ c <= m:=by
 have h1:=Int.emod_nonneg y (Int.ne_of_gt (Int.natCast_pos.mpr h))
 have h2:=Int.emod_lt_of_pos y (Int.natCast_pos.mpr h)
 obtain ⟨r, hr⟩:=Int.eq_ofNat_of_zero_le h1
 rw [hr] at h2 ⊢
 exact ⟨1 + r, rfl, Nat.le_add_right _ _, by rw [Nat.add_comm]; exact Int.ofNat_lt.mp h2⟩
inductive Row4 (x : Int) : Prop where
 | mk (v4 v44 a : Int) (c : Nat) (h4 : idx [PV.int 4, PV.int 24] (x / 4 / 4 % 2) = some (.int v4)) (h44 : idx [PV.int 44, PV.int 64] (x / 4 / 4 % 2) = some (.int v44))
  (hc : idx [PV.int 1, .int (1 + x / 4 % 12), .int (1 + x / 4 % 4), .int (1 + x / 4 % 4)] (x % 4) = some (.int c)) (ha : idx [PV.int (x / 4 % 4), .int 0, .int v4, .int v44] (x % 4) = some (.int a))
  (ok : (x % 4 = 0 /\ c = 1 /\ 0 <= a /\ a < 4) \/ (x % 4 = 1 /\ 1 <= c /\ c <= 12 /\ a = 0) \/ (2 <= x % 4 /\ x % 4 <= 3 /\ 1 <= c /\ c <= 4 /\ 0 <= a /\ a <= 64)) : Row4 x
theorem row4 (x : Int) : Row4 x:=by
 obtain ⟨v4, v44, h4, h44, b4, b44⟩ : ∃ v4 v44 : Int, idx [PV.int 4, PV.int 24] (x / 4 / 4 % 2) = some (.int v4) /\ idx [PV.int 44, PV.int 64] (x / 4 / 4 % 2) = some (.int v44) /\ (0 <= v4 /\ v4 <= 64) /\ 0 <= v44 /\ v44 <= 64:=by
  rcases (by lia : x / 4 / 4 % 2 = 0 \/ x / 4 / 4 % 2 = 1) with e | e <;> rw [e]
  ·exact ⟨4, 44, rfl, rfl, by decide, by decide⟩
  ·exact ⟨24, 64, rfl, rfl, by decide, by decide⟩
 have hw:=way4 ⟨Int.emod_nonneg x (by decide : (4 : Int) ≠ 0), Int.le_of_lt_add_one (Int.emod_lt_of_pos x (by decide : (0 : Int) < 4))⟩
 obtain ⟨c1, e1, b1⟩:=cntN (x / 4) (m:=12) (by decide)
 obtain ⟨c2, e2, b2⟩:=cntN (x / 4) (m:=4) (by decide)
 rcases hw with q | q | q | q
 ·exact ⟨v4, v44, x / 4 % 4, 1, h4, h44, by rw [q]; rfl, by rw [q]; rfl, .inl ⟨q, rfl, Int.emod_nonneg _ (by decide), Int.emod_lt_of_pos _ (by decide)⟩⟩
 ·exact ⟨v4, v44, 0, c1, h4, h44, by rw [q, <- e1]; rfl, by rw [q]; rfl, .inr (.inl ⟨q, b1.1, b1.2, rfl⟩)⟩
 ·exact ⟨v4, v44, v4, c2, h4, h44, by rw [q, <- e2]; rfl, by rw [q]; rfl, .inr (.inr ⟨by rw [q]; decide, by rw [q]; decide, b2.1, b2.2, b4⟩)⟩
 ·exact ⟨v4, v44, v44, c2, h4, h44, by rw [q, <- e2]; rfl, by rw [q]; rfl, .inr (.inr ⟨by rw [q]; decide, by rw [q]; decide, b2.1, b2.2, b44⟩)⟩
theorem acts_step {xs : List Int} (hx : NumsOk xs) {sc : PV} {n0 : Nat} {m0 : Nat -> AO} {nr or ar j : Nat} {s : AS} (hj : j < 10) (har : n0 <= ar) (hne : or ≠ ar) (h : ActI xs sc n0 m0 nr or ar j s) :
  ((setL 5 (.int j) s).bd fun _ s => sSeq [sAsg 6 (eSub (eL 3) (eBin .mod (eL 5) (eLen (eL 3)))),
  sSwap [7, 8] [(eBin .mod (eL 6) (eK (.int 4))), (eBin .fdiv (eL 6) (eK (.int 4)))],
  sAsg 9 (eSub (eList [(eK (.int 1)), (eBin .add (eK (.int 1)) (eBin .mod (eL 8) (eK (.int 12)))), (eBin .add (eK (.int 1)) (eBin .mod (eL 8) (eK (.int 4)))), (eBin .add (eK (.int 1)) (eBin .mod (eL 8) (eK (.int 4))))]) (eL 7)),
  sAsg 10 (eSub (eList [(eBin .mod (eL 8) (eK (.int 4))), (eK (.int 0)), (eSub (eList [(eK (.int 4)), (eK (.int 24))]) (eBin .mod (eBin .fdiv (eL 8) (eK (.int 4))) (eK (.int 2)))), (eSub (eList [(eK (.int 44)), (eK (.int 64))]) (eBin .mod (eBin .fdiv (eL 8) (eK (.int 4))) (eK (.int 2))))]) (eL 7)),
  sExp (eAppendL (eL 4) (eTup [(eL 7), (eL 10), (eL 9), (eIf (tCmp .lt (eL 5) (eBin .mod (eL 2) (eK (.int 13)))) (eK .none) (eBin .mod (eBin .add (eBin .fdiv (eL 8) (eK (.int 12))) (eL 5)) (eBin .pow (eK (.int 2)) (eL 9))))]))] s).post
   (fun f s' => match f with | .nx => ActI xs sc n0 m0 nr or ar (j + 1) s' | .rt _ => False) NoE:=by
 obtain ⟨l, m, n⟩:=s
 obtain ⟨acts, x5, x6, x7, x8, x9, x10, hlen, hok, ear, eor, fr, nx, lar, lor, hloc⟩:=h
 dsimp only at ear eor fr nx lar lor hloc
 subst hloc
 have L : zLs = 1048576:=by decide
 have hx2:=hx.l2
 have hx11:=hx.l11
 have hdl : (xs.drop 1).length = xs.length - 1:=List.length_drop
 have hol : ((xs.drop 1).map PV.int).length <= zLs:=by rw [yG]; lia
 obtain ⟨x, r, hx0, hmod, hidx⟩ : ∃ x r : Int, 0 <= x /\ intOp .mod (j : Int) (((xs.drop 1).map PV.int).length : Int) = some r /\ idx ((xs.drop 1).map PV.int) r = some (.int x):=by
  have hpos : (0 : Int) < ((xs.drop 1).length : Int):=by lia
  have h1:=Int.emod_nonneg (j : Int) (Int.ne_of_gt hpos)
  have h2:=Int.emod_lt_of_pos (j : Int) hpos
  obtain ⟨q, hq⟩ : ∃ q : Nat, (j : Int) % ((xs.drop 1).length : Int) = q:=⟨_, (Int.toNat_of_nonneg h1).symm⟩
  refine ⟨(xs.drop 1).getD q 0, _, ?_, by rw [yG]; exact i_mod hpos, ?_⟩
  ·have hql : q < (xs.drop 1).length:=by lia
   rw [yJ, yI hql]
   exact hx.pos _ (List.mem_of_mem_drop (List.getElem_mem hql))
  ·rw [hq]
   exact idx_int (by lia) (by lia)
 have hm4 : ∀ y : Int, intOp .mod y 4 = some (y % 4):=fun y => i_mod (by decide)
 have hm12 : ∀ y : Int, intOp .mod y 12 = some (y % 12):=fun y => i_mod (by decide)
 have hm13 : ∀ y : Int, intOp .mod y 13 = some (y % 13):=fun y => i_mod (by decide)
 have hd4 : ∀ y : Int, intOp .fdiv y 4 = some (y / 4):=fun y => i_fd (by decide) (by decide)
 have hd12 : ∀ y : Int, intOp .fdiv y 12 = some (y / 12):=fun y => i_fd (by decide) (by decide)
 have hp2 : ∀ y : Int, 0 <= y -> y <= 100 -> intOp .pow 2 y = some (2 ^ y.toNat):=fun y h0 h1 => i_pow h0 (by lia) (by decide)
 have hmp : ∀ (a : Int) (e : Nat), intOp .mod a (2 ^ e) = some (a % 2 ^ e):=fun a e => i_mod (Int.pow_pos (by decide))
 have hal : acts.length < zLs:=by lia
 have no1 : or ≠ n:=by lia
 have na1 : ar ≠ n:=by lia
 have na2 : ar ≠ n + 1:=by lia
 have na3 : ar ≠ n + 2:=by lia
 have na4 : ar ≠ n + 3:=by lia
 have fin : ∀ (a : Act) (m' : Nat -> AO) (n' : Nat) (y5 y6 y7 y8 y9 y10 : Option PV), ActOk a -> MFr [ar] n m m' -> n <= n' -> m' ar = .list (acts.map actV ++ [actV a]) -> ActI xs sc n0 m0 nr or ar (j + 1) ⟨[some sc, some (.ref nr), some (.int (xs.getD 0 0)), some (.ref or), some (.ref ar), y5, y6, y7, y8, y9, y10], m', n'⟩:=fun a m' n' y5 y6 y7 y8 y9 y10 ha f hn e => by
  refine ⟨acts ++ [a], y5, y6, y7, y8, y9, y10, by rw [yH, hlen]; rfl, ?_, by rw [List.map_append]; exact e, (f or lor (by simp [hne])).trans eor, ?_, yL nx hn, yK lar hn, yK lor hn, rfl⟩
  ·intro b hb
   rcases List.mem_append.mp hb with h1 | h1
   ·exact hok b h1
   ·rw [List.mem_singleton.mp h1]; exact ha
  ·intro i hi hi'
   exact (f i (by lia) (by simp; lia)).trans (fr i hi hi')
 have powpos : ∀ e : Nat, (0 : Int) < 2 ^ e:=fun e => Int.pow_pos (by decide)
 generalize hfst : xs.getD 0 0 = fst at *
 generalize hos : List.map PV.int (List.drop 1 xs) = os at *
 obtain ⟨v4, v44, a, c, hv4, hv44, hrc, hra, hok4⟩:=row4 x
 have hpc : intOp .pow 2 (c : Int) = some (2 ^ c):=by rw [hp2 _ (Int.natCast_nonneg _) (Int.ofNat_le.mpr (yL (actOk_of (amt:=none) hok4 (fun _ h => nomatch h)).c.2 (by decide)))]; rfl
 obtain ⟨amt, hamt, ham⟩ : ∃ amt : Option Int, (∀ (y : M PV) (st : AS), y st = .ok (.int ((x / 4 / 12 + j) % 2 ^ c)) st -> ifK (eK .none) y (decide ((j : Int) < fst % 13)) st = .ok (amtV amt) st) /\ ∀ v, amt = some v -> 0 <= v:=by
  by_cases hcd : (j : Int) < fst % 13
  ·exact ⟨none, fun y st h => by rw [decide_eq_true hcd]; rfl, fun v hv => nomatch hv⟩
  ·exact ⟨some ((x / 4 / 12 + j) % 2 ^ c), fun y st h => by rw [decide_eq_false hcd]; exact h, fun v hv => by cases hv; exact Int.emod_nonneg _ (Int.ne_of_gt (powpos _))⟩
 simp [Zq2, Zg2, Zg3, Zg4, Zg5, Zg6, Zg7, Zg8, Zg9, Zg10, Zt6, Zt9, Zt10, Zu5, Zu7, Zu8, Zq3, Zq4, Zq5, Zq6, Zq7, Zq8, Zq11, Zq12, Zq26, Zq42, Zq43, Zq56, Zq57, Zq58, Zq62, Zq63, Zq65, Zq66, Zq67, Zq68, Zq69, Zq70, Zq75, Zq76, Zq77, Zq88, Zq89, Zq90, Zq91, Zq92, Zcm3, bd_ok, ofI_some, ap_binI, ap_cmpI, ap_eLen, zus, i_add, post_ok, ne_eq, not_false_eq_true, decide_true, hmod, ap_sbL, Res.sbL, eor, ap_lnR, Res.lnB, hol, hidx, hm4, hm12, hm13, hd4, i_mod2, ap_isL, Res.isL, ear, ap_apL, Res.apL, hal, zun, na1, na2, na3, na4, decide_false, hd12, hpc, hmp, hv4, hv44, hrc, hra, hpc, hmp, hamt]
 refine fin ⟨x % 4, a, c, amt⟩ _ _ _ _ _ _ _ _ (actOk_of hok4 ham) ?_ ?_ ?_
 ·repeat' first | exact MFr.refl | (refine MFr.own ?_ (.head _)) | (refine MFr.own ?_ (.tail _ (.head _))) | (refine MFr.own ?_ (.tail _ (.tail _ (.head _)))) | (refine MFr.new ?_ (by lia))
 ·lia
 ·simp [zus, actV]
theorem minM_int (i j : Int) (s : AS) : minM (.int i) (.int j) s = .ok (.int (if j < i then j else i)) s:=rfl
theorem maxM_int (i j : Int) (s : AS) : maxM (.int i) (.int j) s = .ok (.int (if i < j then j else i)) s:=rfl
inductive ActsQ (s : AS) (v : PV) (s' : AS) : Prop where
 | mk (acts : List Act) (ar : Nat) (border : Int) (h0 : v = .tup [.ref ar, .int border]) (h1 : (∀ a ∈ acts, ActOk a)) (h2 : acts.length <= 10) (h3 : 0 <= border) (h4 : border <= 1000) (h5 : s'.mem ar = .list (acts.map actV)) (h6 : s.nxt <= ar) (h7 : ar < s'.nxt) (h8 : Fr [] s s') : ActsQ s v s'
theorem acts_tail {xs : List Int} (hx : NumsOk xs) {script : List Int} (hsl : script.length <= 63) {l : List (Option PV)} {m0 : Nat -> AO} {n0 : Nat} {m : Nat -> AO} {n nr : Nat} (hnr : m nr = .list (xs.map .int)) (hnn : nr < n) (fr : MFr [] n0 m0 m) (nx : n0 <= n) :
  ((sSeq [sSwap [2, 3, 4] [(eSub (eL 1) (eK (.int 0))), (eCut (eL 1) (some (eK (.int 1))) none), (eList [])],
 sForR 5 [(eMin (eK (.int 10)) (eMax (eK (.int 3)) (eBin .mul (eK (.int 2)) (eLen (eL 0)))))] [sAsg 6 (eSub (eL 3) (eBin .mod (eL 5) (eLen (eL 3)))),
  sSwap [7, 8] [(eBin .mod (eL 6) (eK (.int 4))), (eBin .fdiv (eL 6) (eK (.int 4)))],
  sAsg 9 (eSub (eList [(eK (.int 1)), (eBin .add (eK (.int 1)) (eBin .mod (eL 8) (eK (.int 12)))), (eBin .add (eK (.int 1)) (eBin .mod (eL 8) (eK (.int 4)))), (eBin .add (eK (.int 1)) (eBin .mod (eL 8) (eK (.int 4))))]) (eL 7)),
  sAsg 10 (eSub (eList [(eBin .mod (eL 8) (eK (.int 4))), (eK (.int 0)), (eSub (eList [(eK (.int 4)), (eK (.int 24))]) (eBin .mod (eBin .fdiv (eL 8) (eK (.int 4))) (eK (.int 2)))), (eSub (eList [(eK (.int 44)), (eK (.int 64))]) (eBin .mod (eBin .fdiv (eL 8) (eK (.int 4))) (eK (.int 2))))]) (eL 7)),
  sExp (eAppendL (eL 4) (eTup [(eL 7), (eL 10), (eL 9), (eIf (tCmp .lt (eL 5) (eBin .mod (eL 2) (eK (.int 13)))) (eK .none) (eBin .mod (eBin .add (eBin .fdiv (eL 8) (eK (.int 12))) (eL 5)) (eBin .pow (eK (.int 2)) (eL 9))))]))],
 sRet (eTup [(eL 4), (eBin .add (eK (.int 1)) (eBin .mod (eBin .fdiv (eL 2) (eK (.int 13))) (eK (.int 254))))])]
  ⟨[some (.ints script), some (.ref nr), none, none, none, none, none, none, none, none, none], m, n⟩).fin l).post (ActsQ ⟨l, m0, n0⟩) NoE:=by
 have L : zLs = 1048576:=by decide
 have hx2:=hx.l2
 have hx11:=hx.l11
 have hl : (xs.map PV.int).length <= zLs:=by rw [yG]; lia
 have hi0 : idx (xs.map PV.int) 0 = some (.int (xs.getD 0 0)):=idx_int (j:=0) (by lia) (by lia)
 have hcut:=fun l => cut_from (k:=1) (l:=l) (n:=n) hnr hl (by decide) (by decide)
 have hsl' : script.length <= zLs:=by lia
 obtain ⟨N, hN, hN10⟩ : ∃ N : Nat, (if (if 3 < 2 * (script.length : Int) then 2 * (script.length : Int) else 3) < 10 then (if 3 < 2 * (script.length : Int) then 2 * (script.length : Int) else 3) else 10) = (N : Int) /\ N <= 10:=by
  refine ⟨(if (if 3 < 2 * (script.length : Int) then 2 * (script.length : Int) else 3) < 10 then (if 3 < 2 * (script.length : Int) then 2 * (script.length : Int) else 3) else 10 : Int).toNat, ?_, ?_⟩ <;> split <;> split at * <;> lia
 have hr:=rangeK1 (b:=(N : Int)) (n:=N) rfl (by lia)
 have hm2 : ∀ x : Int, intOp .mul 2 x = some (2 * x):=fun x => i_mul (.inl (by decide))
 have hd13 : ∀ y : Int, intOp .fdiv y 13 = some (y / 13):=fun y => i_fd (by decide) (by decide)
 have hm254 : ∀ y : Int, intOp .mod y 254 = some (y % 254):=fun y => i_mod (by decide)
 simp only [Zq2, Zg0, Zg1, Zu2, Zu3, Zu4, Zq3, Zq4, Zq5, Zq6, Zq7, Zq8, Zq43, Zq57, Zq58, Zq65, Zq66, Zq69, Zq70, Zq84, Zq85, Zq86, Zq87, Zq88, Zq89, Zq90, Zq91, Zq92, Zq95, Zq96, Zq97, Zq98, bd_ok, ofI_some, ap_binI, ap_eLen, rg_some, yE, yF, ap_sbL, Res.sbL, hnr, hi0, ap_eCut1, hcut, minM_int, maxM_int, hm2, len_ints hsl', hN, hr, List.reverse_cons, List.reverse_nil, Int.toNat_one]
 repeat (first | with_reducible refine post_fin ?_ | with_reducible refine post_seq ?_)
 refine forL_post (Qr:=fun _ _ => False) (ActI xs (.ints script) n0 m0 nr n (n + 1)) ?_ ?_ ?_ (fun _ _ h => h.elim)
 ·refine ⟨[], _, _, _, _, _, _, rfl, fun _ h => (by cases h), zus _ _ _, ?_, ?_, ?_, ?_, ?_, rfl⟩
  ·refine (zun (by lia)).trans ((zus _ _ _).trans ?_)
   rw [List.map_drop]
  ·intro i hi hw
   refine (zun (by lia)).trans ((zun (by lia)).trans (fr i hi hw))
  ·show n0 <= n + 1 + 1; lia
  ·show n + 1 < n + 1 + 1; lia
  ·show n < n + 1 + 1; lia
 ·intro j s v hv hI
  rw [List.map_map] at hv
  obtain ⟨hj, rfl⟩ : j < N /\ v = .int (j : Int):=range_get hv
  exact acts_step hx (by lia) (by lia) (by lia) hI
 ·rintro ⟨l1, m1, n1⟩ ⟨acts, x5, x6, x7, x8, x9, x10, hlen, hok, ear, eor, fr1, nx1, lar, lor, hloc⟩
  dsimp only at ear eor fr1 nx1 lar lor hloc
  subst hloc
  have hal : acts.length <= 10:=by rw [hlen, yG, yG, List.length_range]; exact hN10
  simp only [Zq2, Zg2, Zg4, Zq3, Zq4, Zq5, Zq6, Zq7, Zq8, Zq57, Zq59, Zq60, Zq61, Zq67, Zq68, bd_ok, ofI_some, ap_binI, i_add, post_ok, hd13, hm254]
  exact ⟨acts, n + 1, _, rfl, hok, hal, by lia, by lia, ear, by show n0 <= n + 1; lia, lar, MFr.fr fr1 nx1⟩
theorem acts_sp {script : List Int} (hsl : script.length <= 63) (s : AS) : (F_law_acts [.ints script] s).post (ActsQ s) NoE:=by
 obtain ⟨l, m, n⟩:=s
 have L : zLs = 1048576:=by decide
 have hsl' : script.length <= zLs:=by lia
 have htl : (script.take 11).length <= 11:=by rw [List.length_take]; exact Nat.min_le_left _ _
 have hcomp:=fun (l : List (Option PV)) => compI_ap (elt:=fun x => pBin .mod (pAbs (pK x)) (pBin .pow (pK (.int 10)) (pK (.int 9)))) (l:=l) (m:=upd m n (.list ((script.take 11).map .int))) (n:=n + 1) (i:=n) (g:=fun k => (k.natAbs : Int) % 1000000000) (ks:=script.take 11) (zus _ _ _) (by lia) (fun k _ => pBin_at (op:=.mod) rfl (pBin_at (op:=.pow) rfl rfl (i_powc (by decide) rfl)) (i_mod (by decide)))
 have hylen : ((script.take 11).map fun k : Int => (k.natAbs : Int) % 1000000000).length <= 11:=by rw [yG]; exact htl
 have hypos : ∀ x ∈ ((script.take 11).map fun k : Int => (k.natAbs : Int) % 1000000000), 0 <= x:=fun x hx => by
  obtain ⟨k, _, rfl⟩:=List.mem_map.mp hx
  lia
 generalize ((script.take 11).map fun k : Int => (k.natAbs : Int) % 1000000000) = ys at *
 have hyl : (ys.map PV.int).length <= zLs:=by rw [yG]; lia
 unfold F_law_acts B_law_acts
 rw [fnM_ap, sSeqc, sSeqc]
 have tail:=fun (xs : List Int) (hx : NumsOk xs) (m1 : Nat -> AO) (n1 nr : Nat) (a : m1 nr = .list (xs.map .int)) (b : nr < n1) (c : MFr [] n m m1) (d : n <= n1) => acts_tail hx hsl (l:=l) a b c d
 generalize sSeq [sSwap [2, 3, 4] [(eSub (eL 1) (eK (.int 0))), (eCut (eL 1) (some (eK (.int 1))) none), (eList [])], _, _] = T at *
 by_cases h2 : ys.length < 2
 ·have hy3 : (ys.map PV.int).length = ys.length:=yG _
  have e1 : n + 1 ≠ n + 1 + 1:=by lia
  have h2' : (((ys.map PV.int).length : Int) < 2) = True:=eq_true (by rw [yG]; lia)
  have hcut:=fun (l : List (Option PV)) (m' : Nat -> AO) (n' i : Nat) (hi : m' i = .list [.int 1656, .int 45, .int 86, .int 7, .int 49, .int 62]) => cut_from (k:=((ys.map PV.int).length : Int)) (l:=l) (n:=n') hi (by decide) (by lia) (by lia)
  have hcut':=fun (l : List (Option PV)) (m' : Nat -> AO) (n' i : Nat) => hcut l (upd m' i (.list [.int 1656, .int 45, .int 86, .int 7, .int 49, .int 62])) n' i (zus _ _ _)
  simp only [Zq2, Zg0, Zg1, Zt1, Zq3, Zq4, Zq5, Zq6, Zq7, Zq8, Zq11, Zq12, Zq42, Zq55, Zq57, Zq69, Zq70, Zcm3, bd_ok, ap_cmpI, ap_eLen, zus, sq_nx, ifK_t, decide_true, yC, yD, yA, yB, yE, yF, List.replicate, if_true, Nat.reduceSub, Nat.reduceAdd, ap_eCompI, ap_eCut2, cut_ints hsl', hcomp, ap_lnR, Res.lnB, hyl, h2', ap_eCut1, hcut', zun e1]
  rw [ap_addL (vs:=ys.map .int) (us:=([.int 1656, .int 45, .int 86, .int 7, .int 49, .int 62] : List PV).drop ((ys.map PV.int).length : Int).toNat) ?_ (zus _ _ _) (by rw [yG, List.length_drop]; simp; lia)]
  ·simp only [Zt1, Zq56, Zq58, bd_ok, sq_nx]
   refine tail (ys ++ ([1656, 45, 86, 7, 49, 62] : List Int).drop ys.length) ⟨?_, ?_, ?_⟩ _ _ _ ((zus _ _ _).trans ?_) (by lia) ?_ (by lia)
   ·rw [yH, List.length_drop]; simp; lia
   ·rw [yH, List.length_drop]; simp; lia
   ·intro x hx
    rcases List.mem_append.mp hx with h | h
    ·exact hypos x h
    ·have:=List.mem_of_mem_drop h
     simp at this
     lia
   ·rw [yG, Int.toNat_natCast, List.map_append, List.map_drop]
    rfl
   ·repeat' first | exact MFr.refl | (refine MFr.own ?_ (.head _)) | (refine MFr.own ?_ (.tail _ (.head _))) | (refine MFr.own ?_ (.tail _ (.tail _ (.head _)))) | (refine MFr.new ?_ (by lia))
  ·rw [zun (by lia), zun (by lia)]
   exact zus _ _ _
 ·have h2' : (((ys.map PV.int).length : Int) < 2) = False:=eq_false (by rw [yG]; lia)
  simp only [Zq2, Zg0, Zg1, Zt1, Zq11, Zq12, Zq42, Zq55, Zq56, Zcm3, bd_ok, ap_cmpI, ap_eLen, zus, sq_nx, ifK_f, decide_false, yC, yD, yA, yB, yE, yF, List.replicate, if_true, Nat.reduceSub, Nat.reduceAdd, ap_eCompI, ap_eCut2, cut_ints hsl', hcomp, ap_lnR, Res.lnB, hyl, h2']
  refine tail ys ⟨by lia, hylen, hypos⟩ _ _ _ (zus _ _ _) (by lia) ?_ (by lia)
  repeat' first | exact MFr.refl | (refine MFr.own ?_ (.head _)) | (refine MFr.own ?_ (.tail _ (.head _))) | (refine MFr.own ?_ (.tail _ (.tail _ (.head _)))) | (refine MFr.new ?_ (by lia))
structure TR where
 nums : List Int
 txt : Str
 ms : List Int
 fin : Option (Int × Bool)
noncomputable def wh (O : List UInt8) (c : C) : Int:=vb (O.take (c.k + 5))
noncomputable def tbit (O : List UInt8) (c : C) (sp : Option Int) : Int:=if prt c.R c.ms sp <= wh O c - c.N then 1 else 0
noncomputable abbrev tbad (O : List UInt8) (c : C) (sp : Option Int) : Prop:=sp = none /\ 2 * prt c.R c.ms sp <= wh O c - c.N
noncomputable def tellB (O : List UInt8) (a : Act) : Nat -> C -> List Int -> Except (Str × List Int) (C × List Int)
 | 0, c, bs => .ok (c, bs)
 | t + 1, c, bs =>
  if tbad O c (spt a (nodeOf bs)) then .error ("code", c.ms)
  else if (goC c (spt a (nodeOf bs)) (tbit O c (spt a (nodeOf bs)))).k = c.k + 1 /\ O.length <= c.k + 5 then .error ("short", (goC c (spt a (nodeOf bs)) (tbit O c (spt a (nodeOf bs)))).ms)
  else tellB O a t (goC c (spt a (nodeOf bs)) (tbit O c (spt a (nodeOf bs)))) (bs ++ [tbit O c (spt a (nodeOf bs))])
noncomputable def tellA (O : List UInt8) : List Act -> C -> List Int -> TR
 | [], c, ns => ⟨ns, "", c.ms, some ((c.k : Int) + 5, wh O c == c.N)⟩
 | a :: r, c, ns => match tellB O a a.cnt c [] with
  | .error e => ⟨ns, e.1, e.2, none⟩
  | .ok (c', bs) => tellA O r c' (ns ++ [numOf a bs])
noncomputable def tell (O : List UInt8) (acts : List Act) : TR :=
 if O = [] \/ ((O.getD 0 0).toNat = 0 /\ O.length < 5) then ⟨[], "short", c0.ms, none⟩
 else if (O.getD 0 0).toNat ≠ 0 then ⟨[], "header", c0.ms, none⟩
 else if vb (O.take 5) = 4294967295 then ⟨[], "code", c0.ms, none⟩
 else tellA O acts c0 []
structure Td (O : List UInt8) (c : C) : Prop where
 g : Gd c
 len : c.k + 5 <= O.length
 lo : c.N <= wh O c
 hi : wh O c < c.N + c.R
theorem tbit_bit (O : List UInt8) (c : C) (sp : Option Int) : Bit (tbit O c sp):=by
 unfold tbit; split
 ·exact .inr rfl
 ·exact .inl rfl
theorem td_mid {O : List UInt8} {c : C} (h : Td O c) {sp : Option Int} (hs : SpOk sp) (hb : ¬ tbad O c sp) : stN c sp (tbit O c sp) <= wh O c /\ wh O c < stN c sp (tbit O c sp) + stR c (tbit O c sp) sp:=by
 obtain ⟨p1, p2, p3⟩:=prt_ok h.g.R1 h.g.ms hs
 have hlo:=h.lo
 have hhi:=h.hi
 unfold tbad at hb
 unfold stN stR tbit
 cases sp with
 | none =>
  have hb : ¬ 2 * prt c.R c.ms none <= wh O c - c.N:=fun q => hb ⟨rfl, q⟩
  dsimp only
  split <;> simp <;> lia
 | some i =>
  dsimp only
  split <;> simp <;> lia
theorem td_step {O : List UInt8} {c : C} (h : Td O c) {sp : Option Int} (hs : SpOk sp) (hb : ¬ tbad O c sp) (hk : ¬ ((goC c sp (tbit O c sp)).k = c.k + 1 /\ O.length <= c.k + 5)) : Td O (goC c sp (tbit O c sp)):=by
 obtain ⟨m1, m2⟩:=td_mid h hs hb
 have g2:=gd_go h.g hs (tbit_bit O c sp)
 have hlen:=h.len
 refine ⟨g2, ?_, ?_, ?_⟩
 ·rcases go_k c sp (tbit O c sp) with e | e
  ·rw [e]; exact hlen
  ·rw [e]
   have : ¬ O.length <= c.k + 5:=fun q => hk ⟨e, q⟩
   lia
 all_goals
  revert hk
  unfold goC nrm wh at *
  intro hk
  split
  ·rename_i hc
   rw [if_pos hc] at hk
   have hl : c.k + 5 < O.length:=by
    have : ¬ O.length <= c.k + 5:=fun q => hk ⟨rfl, q⟩
    lia
   have e:=vb_take hl
   have hx:=(O[c.k + 5]).toNat_lt
   dsimp only
   rw [show c.k + 1 + 5 = c.k + 5 + 1 by lia, e]
   lia
  ·dsimp only
   omega
theorem tellB_s (O : List UInt8) (a : Act) (t : Nat) (c : C) (bs : List Int) : tellB O a (t + 1) c bs = if tbad O c (spt a (nodeOf bs)) then .error ("code", c.ms)
  else if (goC c (spt a (nodeOf bs)) (tbit O c (spt a (nodeOf bs)))).k = c.k + 1 /\ O.length <= c.k + 5 then .error ("short", (goC c (spt a (nodeOf bs)) (tbit O c (spt a (nodeOf bs)))).ms)
  else tellB O a t (goC c (spt a (nodeOf bs)) (tbit O c (spt a (nodeOf bs)))) (bs ++ [tbit O c (spt a (nodeOf bs))]):=rfl
theorem nest_runB {a : Act} (ha : ActOk a) : ∀ (bs pre : List Int) (c : C), Gd c -> Bits (pre ++ bs) -> pre.length + bs.length = a.cnt ->
  Gd (runB a c (nodeOf pre) bs) /\ Nest c.N c.R c.k (runB a c (nodeOf pre) bs).N (runB a c (nodeOf pre) bs).R (runB a c (nodeOf pre) bs).k
 | [], _, c, g, _, _ => ⟨g, .refl⟩
 | b :: bs, pre, c, g, hb, hl => by
  have hpre : Bits pre:=fun x hx => hb x (List.mem_append_left _ hx)
  have hbb : Bit b:=hb b (List.mem_append_right _ (.head _))
  have hnd:=nodeOf_bd hpre
  have hso:=spt_ok ha hnd.1 hnd.2 (by rw [yA] at hl; lia)
  have ih:=nest_runB ha bs (pre ++ [b]) (goC c (spt a (nodeOf pre)) b) (gd_go g hso hbb) (by rw [List.append_assoc]; exact hb) (by rw [yH]; simp at hl ⊢; lia)
  rw [nodeOf_snoc] at ih
  exact ⟨ih.1, (nest_go g hso hbb).trans ih.2⟩
theorem nest_runA : ∀ (ps : List (Act × List Int)) (c : C), Gd c -> (∀ p ∈ ps, PairOk p) -> Gd (runA c ps) /\ Nest c.N c.R c.k (runA c ps).N (runA c ps).R (runA c ps).k
 | [], c, g, _ => ⟨g, .refl⟩
 | (a, bs) :: r, c, g, h => by
  obtain ⟨h1, h2, h3⟩:=h _ (.head _)
  obtain ⟨g1, n1⟩:=nest_runB h1 bs [] c g h2 (by simpa using h3)
  obtain ⟨g2, n2⟩:=nest_runA r _ g1 fun p hp => h p (.tail _ hp)
  exact ⟨g2, n1.trans n2⟩
inductive Ends (O : List UInt8) (N R : Int) (k : Nat) : Prop where
 | mk (kf : Nat) (Rf : Int) (h0 : O.length = kf + 5) (h1 : 1 <= Rf) (h2 : Nest N R k (vb O) Rf kf) : Ends O N R k
theorem ends_wh {O : List UInt8} {N R : Int} {k : Nat} (h : Ends O N R k) : k + 5 <= O.length /\ N <= vb (O.take (k + 5)) /\ vb (O.take (k + 5)) < N + R:=by
 obtain ⟨kf, Rf, hl, hR, e, rfl, h1, h2⟩:=h
 refine ⟨by lia, ?_, ?_⟩
 ·rw [vb_div, show O.length - (k + 5) = e by rw [hl, Nat.add_right_comm, Nat.add_sub_cancel_left]]
  exact (Int.le_ediv_iff_mul_le (pow_pos e)).mpr h1
 ·rw [vb_div, show O.length - (k + 5) = e by rw [hl, Nat.add_right_comm, Nat.add_sub_cancel_left]]
  exact (Int.ediv_lt_iff_lt_mul (pow_pos e)).mpr (by lia)
theorem Ends.of {O : List UInt8} {N R N' R' : Int} {k k' : Nat} (h : Ends O N' R' k') (n : Nest N R k N' R' k') : Ends O N R k:=by
 obtain ⟨kf, Rf, hl, hR, hn⟩:=h
 exact ⟨kf, Rf, hl, hR, n.trans hn⟩
theorem own_bit {O : List UInt8} {c : C} (g : Gd c) {sp : Option Int} (hs : SpOk sp) {b : Int} (hb : Bit b) (h : Ends O (goC c sp b).N (goC c sp b).R (goC c sp b).k) :
  tbit O c sp = b /\ ¬ tbad O c sp /\ ¬ ((goC c sp b).k = c.k + 1 /\ O.length <= c.k + 5):=by
 have h1:=ends_wh (h.of (nest_nrm (stN c sp b) (stR c b sp) c.k (stM c.ms b sp)))
 have h2:=(ends_wh h).1
 obtain ⟨p1, p2, p3⟩:=prt_ok g.R1 g.ms hs
 refine ⟨?_, ?_, fun q => by lia⟩
 ·unfold tbit wh
  obtain ⟨_, h3, h4⟩:=h1
  unfold stN at h3
  unfold stN stR at h4
  rcases hb with rfl | rfl
  ·rw [if_neg]
   cases sp <;> simp at h3 h4 <;> lia
  ·rw [if_pos]
   cases sp <;> simp at h3 h4 <;> lia
 ·rintro ⟨rfl, q⟩
  unfold wh at q
  obtain ⟨_, h3, h4⟩:=h1
  unfold stN at h3
  unfold stN stR at h4
  rcases hb with rfl | rfl <;> simp at h3 h4 <;> lia
theorem own_tellB {O : List UInt8} {a : Act} (ha : ActOk a) : ∀ (bs pre : List Int) (c : C), Gd c -> Bits (pre ++ bs) -> pre.length + bs.length = a.cnt -> Ends O (runB a c (nodeOf pre) bs).N (runB a c (nodeOf pre) bs).R (runB a c (nodeOf pre) bs).k ->
  tellB O a bs.length c pre = .ok (runB a c (nodeOf pre) bs, pre ++ bs)
 | [], pre, c, _, _, _, _ => by rw [List.append_nil]; rfl
 | b :: bs, pre, c, g, hb, hl, he => by
  have hpre : Bits pre:=fun x hx => hb x (List.mem_append_left _ hx)
  have hbb : Bit b:=hb b (List.mem_append_right _ (.head _))
  have hnd:=nodeOf_bd hpre
  have hso:=spt_ok ha hnd.1 hnd.2 (by rw [yA] at hl; lia)
  have g2:=gd_go g hso hbb
  have hb2 : Bits (pre ++ [b] ++ bs):=by rw [List.append_assoc]; exact hb
  have hl2 : (pre ++ [b]).length + bs.length = a.cnt:=by rw [yH]; simp at hl ⊢; lia
  have hn:=(nest_runB ha bs (pre ++ [b]) _ g2 hb2 hl2).2
  rw [nodeOf_snoc] at hn
  obtain ⟨e1, e2, e3⟩:=own_bit g hso hbb (he.of hn)
  rw [yA, tellB_s, if_neg e2, e1, if_neg e3]
  have ih:=own_tellB ha bs (pre ++ [b]) _ g2 hb2 hl2 (by rw [nodeOf_snoc]; exact he)
  rw [nodeOf_snoc, List.append_assoc] at ih
  exact ih
theorem own_tellA {O : List UInt8} : ∀ (ps : List (Act × List Int)) (c : C) (ns : List Int), Gd c -> (∀ p ∈ ps, PairOk p) -> O.length = (runA c ps).k + 5 -> vb O = (runA c ps).N ->
  tellA O (ps.map (·.1)) c ns = ⟨ns ++ ps.map numP, "", (runA c ps).ms, some (O.length, true)⟩
 | [], c, ns, g, _, hl, hv => by
  show TR.mk ns "" c.ms (some ((c.k : Int) + 5, wh O c == c.N)) = _
  have e : wh O c = c.N:=by
   unfold wh
   rw [List.take_of_length_le (by rw [hl]; exact yM _)]
   exact hv
  have hl' : O.length = c.k + 5:=hl
  rw [e, hl']
  simp
  rfl
 | (a, bs) :: r, c, ns, g, h, hl, hv => by
  obtain ⟨h1, h2, h3⟩:=h _ (.head _)
  obtain ⟨g1, n1⟩:=nest_runB h1 bs [] c g h2 (by simpa using h3)
  have g1' : Gd (runB a c 1 bs):=g1
  obtain ⟨g2, n2⟩:=nest_runA r _ g1' fun p hp => h p (.tail _ hp)
  have he : Ends O (runB a c 1 bs).N (runB a c 1 bs).R (runB a c 1 bs).k:=by
   refine Ends.of ⟨(runA (runB a c 1 bs) r).k, (runA (runB a c 1 bs) r).R, hl, by have:=g2.R1; lia, ?_⟩ n2
   rw [hv]
   exact .refl
  have ht:=own_tellB (O:=O) h1 bs [] c g h2 (by simpa using h3) he
  rw [show bs.length = a.cnt from h3] at ht
  have ht2 : tellA O (((a, bs) :: r).map (·.1)) c ns = tellA O (r.map (·.1)) (runB a c 1 bs) (ns ++ [numOf a bs]):=by
   show tellA O (a :: r.map (·.1)) c ns = _
   rw [tellA, ht]
   rfl
  rw [ht2]
  show tellA O (r.map (·.1)) (runB a c 1 bs) (ns ++ [numOf a bs]) = _
  rw [own_tellA r _ _ g1' (fun p hp => h p (.tail _ hp)) hl hv]
  show TR.mk _ _ _ _ = TR.mk (ns ++ numOf a bs :: r.map numP) _ _ _
  rw [List.append_assoc]
  rfl
theorem own_tell {O : List UInt8} {ps : List (Act × List Int)} (h : ∀ p ∈ ps, PairOk p) (hl : O.length = (runA c0 ps).k + 5) (hv : vb O = (runA c0 ps).N) : tell O (ps.map (·.1)) = ⟨ps.map numP, "", (runA c0 ps).ms, some (O.length, true)⟩:=by
 obtain ⟨g, n⟩:=nest_runA ps c0 gd_c0 h
 have he : Ends O c0.N c0.R c0.k:=by
  refine Ends.of ⟨(runA c0 ps).k, (runA c0 ps).R, hl, by have:=g.R1; lia, ?_⟩ n
  rw [hv]
  exact .refl
 obtain ⟨e1, e2, e3⟩:=ends_wh he
 have e3' : vb (O.take 5) < 4294967295:=e3
 have h5 : 5 <= O.length:=by lia
 have hz : (O.getD 0 0).toNat = 0:=by
  have h0 : 0 < O.length:=by lia
  have e4 : vb O = vb (O.take 1) * 256 ^ (O.length - 1) + vb (O.drop 1):=by
   conv => lhs; rw [<- List.take_append_drop 1 O, vb_append, List.length_drop]
  have e5 : O.take 1 = [O[0]]:=by
   rw [List.take_one]
   simp [List.head?_eq_getElem?, yI h0]
  have e6 : vb (O.take 1) = (O[0].toNat : Int):=by rw [e5]; simp [vb]
  have e7:=g.NR
  have e8:=g.R1
  have hp : (256 : Int) ^ (O.length - 1) = 256 ^ (runA c0 ps).k * 4294967296:=by
   rw [hl, show (runA c0 ps).k + 5 - 1 = (runA c0 ps).k + 4 by lia, Int.pow_add]
   rfl
  rw [hv, e6, hp] at e4
  have hd:=(vb_bd (O.drop 1)).1
  have hP:=pow_pos (runA c0 ps).k
  rw [yJ, yI h0]
  show O[0].toNat = 0
  by_cases q : O[0].toNat = 0
  ·exact q
  ·have q1 : (1 : Int) <= (O[0].toNat : Int):=by lia
   have:=Int.mul_le_mul_of_nonneg_right q1 (show (0 : Int) <= 256 ^ (runA c0 ps).k * 4294967296 by lia)
   lia
 unfold tell
 rw [if_neg (fun q => q.elim (fun q => by rw [q] at h5; simp at h5) fun q => by lia), if_neg (by simpa using hz), if_neg (by lia)]
 rw [own_tellA ps c0 [] gd_c0 h hl hv]
 rfl
theorem sbB_at {bs : List UInt8} {k : Nat} (hl : bs.length <= zLs) (h : k < bs.length) (s : AS) : subM (.byt bs) (.int k) s = .ok (.int (bs.getD k 0).toNat) s:=by
 have hi : idx bs (k : Int) = some (bs.getD k 0):=by
  rw [idx_eq]
  rw [if_pos ⟨by lia, by lia⟩, show ((k : Int)).toNat = k from rfl, yJ, yI h]
  rfl
 unfold subM
 dsimp only
 rw [if_pos hl, hi]
theorem len_byt {bs : List UInt8} (h : bs.length <= zLs) (s : AS) : fLen (.byt bs) s = .ok (.int bs.length) s:=if_pos h
theorem ap_cmB1 (x y : List UInt8) (s : AS) : cmpM .eq (.byt x) (.byt y) s = .ok (x == y) s:=rfl
theorem ap_cmB2 (x y : List UInt8) (s : AS) : cmpM .ne (.byt x) (.byt y) s = .ok (x != y) s:=rfl
noncomputable def finV : Option (Int × Bool) -> PV
 | none => .none
 | some (x, b) => .tup [.int x, .bool b]
inductive RetOk (tr : TR) (s : AS) (v : PV) (s' : AS) : Prop where
 | mk (nl : _) (md : _) (h0 : v = .tup [.ref nl, .str tr.txt, .ref md, finV tr.fin]) (h1 : s'.mem nl = .list (tr.nums.map .int)) (h2 : s'.mem md = .list (tr.ms.map .int)) (h3 : s.nxt <= nl) (h4 : nl < s'.nxt) (h5 : s.nxt <= md) (h6 : md < s'.nxt) (h7 : Fr [] s s') : RetOk tr s v s'
inductive TdSLocX (ar : Nat) (pl : Nat) (md : Nat) (nl : Nat) (bl : Nat) (O : List UInt8) (a : Act) (c : C) (bs : List Int) (ll : List (Option PV)) : Prop where
 | mk (x9 : _) (x10 : _) (x11 : _) (x12 : _) (x13 : _) (x14 : _) (h0 : ll = [some (.ref ar), some (.byt O), some (.ref md), some (.ref nl), some (.ref pl), some (.int (wh O c)), some (actV a), some (.int (nodeOf bs)), some (.ref bl), x9, x10, x11, x12, x13, x14]) : TdSLocX ar pl md nl bl O a c bs ll
structure TdS (ar pl md nl bl : Nat) (O : List UInt8) (a : Act) (kst : Nat) (n0 : Nat) (m0 : Nat -> AO) (c : C) (bs : List Int) (s : AS) : Prop where
 bits : Bits bs
 epl : s.mem pl = plV c
 emd : s.mem md = .list (c.ms.map .int)
 ebl : s.mem bl = .list (bs.map .int)
 td : Td O c
 k : c.k <= kst + bs.length
 fr : MFr [pl, md, bl] n0 m0 s.mem
 nx : n0 <= s.nxt
 loc : TdSLocX ar pl md nl bl O a c bs s.loc
noncomputable def TdE (pl md nl bl : Nat) (n0 : Nat) (m0 : Nat -> AO) (e : Str × List Int) (v : PV) (s : AS) : Prop :=
 v = .tup [.ref nl, .str e.1, .ref md, .none] /\ s.mem md = .list (e.2.map .int) /\ MFr [pl, md, bl] n0 m0 s.mem /\ n0 <= s.nxt
noncomputable def TdQ (ar pl md nl bl : Nat) (O : List UInt8) (a : Act) (kst : Nat) (n0 : Nat) (m0 : Nat -> AO) (c : C) (bs : List Int) (t : Nat) (f : Fl) (s : AS) : Prop:=match f with
 | .nx => ∃ c' b, tellB O a (t + 1) c bs = tellB O a t c' (bs ++ [b]) /\ TdS ar pl md nl bl O a kst n0 m0 c' (bs ++ [b]) s
 | .rt v => ∃ e, tellB O a (t + 1) c bs = .error e /\ TdE pl md nl bl n0 m0 e v s
theorem told_step {ar pl md nl bl : Nat} {O : List UInt8} {a : Act} {kst : Nat} {n0 : Nat} {m0 : Nat -> AO} {c : C} {bs : List Int} {s : AS} (t : Nat)
  (ha : ActOk a) (hO : O.length <= 50000) (n1 : pl ≠ md) (n2 : bl ≠ pl) (n3 : bl ≠ md) (hbl : bl < n0) (hlt : bs.length < a.cnt) (h : TdS ar pl md nl bl O a kst n0 m0 c bs s) :
  ((setL 9 (.int bs.length) s).bd fun _ s => sSeq [sAsg 10 (eCall F_law_spot [(eL 6), (eL 7)]),
  sSwap [11, 12] [(eCall F_law_part [(eL 4), (eL 2), (eL 10)]), (eSub (eL 4) (eK (.int 2)))],
  sAsg 13 (eIntB (tCmp .ge (eBin .sub (eL 5) (eSub (eL 4) (eK (.int 0)))) (eL 11))),
  sIf (tAnd (tIsNone (eL 10)) (tCmp .ge (eBin .sub (eL 5) (eSub (eL 4) (eK (.int 0)))) (eBin .mul (eK (.int 2)) (eL 11)))) [sRet (eTup [(eL 3), (eK (.str "code")), (eL 2), (eK .none)])] [],
  sExp (eCall F_law_goes [(eL 4), (eL 2), (eL 10), (eL 11), (eL 13)]),
  sExp (eAppendL (eL 8) (eL 13)),
  sAsg 7 (eBin .add (eBin .mul (eK (.int 2)) (eL 7)) (eL 13)),
  sForR 14 [(eBin .add (eL 12) (eK (.int 5))), (eBin .add (eSub (eL 4) (eK (.int 2))) (eK (.int 5)))] [sIf (tCmp .ge (eL 14) (eLen (eL 1))) [sRet (eTup [(eL 3), (eK (.str "short")), (eL 2), (eK .none)])] [],
   sAsg 5 (eBin .add (eBin .mul (eL 5) (eK (.int 256))) (eSub (eL 1) (eL 14)))]] s).post (TdQ ar pl md nl bl O a kst n0 m0 c bs t) NoE:=by
 obtain ⟨l, m, n⟩:=s
 obtain ⟨hbits, epl, emd, ebl, td, hk, fr, nx, x9, x10, x11, x12, x13, x14, hloc⟩:=h
 dsimp only at epl emd ebl fr nx hloc
 subst hloc
 have L : zLs = 1048576:=by decide
 have hnd:=nodeOf_bd hbits
 have hso:=spt_ok ha hnd.1 hnd.2 hlt
 have h12:=ha.c.2
 have g:=td.g
 have hpart:=fun l n => part_ap (l:=l) (n:=n) epl emd g hso
 have epl':=epl
 unfold plV at epl'
 have hm2 : ∀ x : Int, intOp .mul 2 x = some (2 * x):=fun x => i_mul (.inl (by decide))
 have hm256 : ∀ x : Int, intOp .mul x 256 = some (x * 256):=fun x => i_mul (.inr (by decide))
 have hbl2 : bs.length < zLs:=by lia
 have hbb:=tbit_bit O c (spt a (nodeOf bs))
 have hOl : O.length <= zLs:=by lia
 by_cases hbad : tbad O c (spt a (nodeOf bs))
 ·have ht : tellB O a (t + 1) c bs = .error ("code", c.ms):=by rw [tellB_s, if_pos hbad]
  obtain ⟨hb1, hb2⟩:=hbad
  rw [hb1] at hb2 hpart
  unfold spV at hpart
  dsimp only at hpart
  have hb2' : (2 * prt c.R c.ms none <= wh O c - c.N) = True:=eq_true hb2
  simp only [Zq2, Zg2, Zg3, Zg4, Zg5, Zg6, Zg7, Zg10, Zg11, Zt10, Zt13, Zu9, Zu11, Zu12, Zq3, Zq4, Zq5, Zq6, Zq7, Zq8, Zq11, Zq12, Zq13, Zq14, Zq20, Zq24, Zq25, Zq34, Zq42, Zq43, Zq55, Zq57, Zq58, Zq59, Zq60, Zq61, Zq65, Zq66, Zq67, Zq68, Zq88, Zq89, Zq90, Zq91, Zq92, Zn1, Zcm6, bd_ok, ofI_some, ap_binI, ap_cmpI, i_sub, post_ok, ifK_t, decide_eq_true_eq, decide_true, yE, yF, spot_ap, hb1, spV, hpart, ap_sbL, Res.sbL, epl', idx_0, idx_2, hm2, hb2', List.reverse_cons, List.reverse_nil]
  exact ⟨_, ht, rfl, emd, fr, nx⟩
 ·have hbv : (if prt c.R c.ms (spt a (nodeOf bs)) <= wh O c - c.N then (1 : Int) else 0) = tbit O c (spt a (nodeOf bs)):=by
   unfold tbit; simp
  have hnb : ∀ (y : M Bool) (st : AS), y st = Res.ok (decide (2 * prt c.R c.ms (spt a (nodeOf bs)) <= wh O c - c.N)) st -> ifK y (ret false) (isN (spV (spt a (nodeOf bs)))) st = Res.ok false st:=fun y st hy => by
   unfold tbad at hbad
   cases e : spt a (nodeOf bs) with
   | none =>
    rw [e] at hbad
    have : ¬ 2 * prt c.R c.ms none <= wh O c - c.N:=fun q => hbad ⟨rfl, q⟩
    rw [e] at hy
    exact hy.trans (by rw [decide_eq_false this])
   | some i => rfl
  simp only [Zq2, Zg2, Zg4, Zg5, Zg6, Zg7, Zg10, Zg11, Zg13, Zt10, Zt13, Zu9, Zu11, Zu12, Zq3, Zq4, Zq5, Zq6, Zq7, Zq8, Zq11, Zq12, Zq13, Zq14, Zq20, Zq24, Zq25, Zq34, Zq42, Zq43, Zq55, Zq56, Zq57, Zq58, Zq62, Zq65, Zq66, Zq88, Zq89, Zq90, Zq91, Zq92, Zcm6, bd_ok, ofI_some, ap_binI, ap_cmpI, i_sub, ifK_f, decide_eq_true_eq, yE, yF, spot_ap, hpart, ap_sbL, Res.sbL, epl', idx_0, idx_2, hm2, hbv, hnb, List.reverse_cons, List.reverse_nil]
  have hts:=tellB_s O a t c bs
  rw [if_neg hbad] at hts
  have gk:=go_k c (spt a (nodeOf bs)) (tbit O c (spt a (nodeOf bs)))
  have hstep:=td_step td hso hbad
  generalize tbit O c (spt a (nodeOf bs)) = b at *
  repeat (first | with_reducible refine post_fin ?_ | with_reducible refine post_seq ?_)
  refine bd_post (goes_sp epl emd n1 g hso hbb) ?_ fun _ _ h => h
  rintro v ⟨l2, m2, n'⟩ ⟨rfl, q1, q2, q3, q4, q5⟩
  dsimp only at q1 q2 q3 q4 q5
  subst q3
  generalize goC c (spt a (nodeOf bs)) b = c' at *
  have q6 : m2 bl = .list (bs.map .int):=(q5 bl (by lia) (by simp [n2, n3])).trans ebl
  have q1' : m2 pl = .list [.int c'.N, .int c'.R, .int c'.k]:=q1
  have hbl3 : (bs.map PV.int).length < zLs:=by rw [yG]; exact hbl2
  have fr2 : ∀ (o : AO), MFr [pl, md, bl] n0 m0 (upd m2 bl o):=fun o => fr.trans nx (MFr.own (fun i hi hn => q5 i hi fun q => hn (sub2 i q)) (.tail _ (.tail _ (.head _))))
  have e5 : ∀ y : Int, Res.ofI (intOp .add y 5) = fun s => Res.ok (.int (y + 5)) s:=fun y => rfl
  have hnode:=nodeOf_snoc bs b
  rcases gk with gk | gk
  ·have hr:=rangeK2 (a:=(c.k : Int) + 5) (b:=(c'.k : Int) + 5) (x:=c.k + 5) (n:=0) (by lia) (by lia) (by lia) (by have:=td.len; lia)
   rw [List.range_zero, yD] at hr
   simp only [Zq2, Zg4, Zg7, Zg8, Zg12, Zg13, Zt7, Zq3, Zq4, Zq5, Zq6, Zq7, Zq8, Zq42, Zq57, Zq58, Zq62, Zq63, Zq65, Zq66, Zq75, Zq76, Zq77, Zq95, Zq96, Zq97, Zq98, bd_ok, ofI_some, ap_binI, rg_some, i_add, post_ok, yD, if_true, ap_isL, Res.isL, ap_apL, Res.apL, q6, hbl3, hm2, ap_sbL, Res.sbL, zun n2.symm, q1', idx_2, hr]
   have hneg : ¬ (c'.k = c.k + 1 /\ O.length <= c.k + 5):=fun q => by lia
   rw [if_neg hneg] at hts
   have td':=hstep hneg
   have hwh : wh O c' = wh O c:=by unfold wh; rw [gk]
   refine ⟨c', b, hts, bits_snoc hbits hbb, (zun n2.symm).trans q1, (zun n3.symm).trans q2, (zus _ _ _).trans (by simp), td', by rw [yH]; simp; lia, fr2 _, yL nx q4, ?_⟩
   exact ⟨_, _, _, _, _, _, by rw [hwh, hnode]⟩
  ·have hr:=rangeK2 (a:=(c.k : Int) + 5) (b:=(c'.k : Int) + 5) (x:=c.k + 5) (n:=1) (by lia) (by lia) (by lia) (by have:=td.len; lia)
   rw [show List.range 1 = [0] from rfl, yC, yD] at hr
   have e7 : (((c.k + 5 : Nat) : Int) + ((0 : Nat) : Int)) = ((c.k + 5 : Nat) : Int):=by lia
   rw [e7] at hr
   by_cases hend : O.length <= c.k + 5
   ·have hend' : ((O.length : Int) <= ((c.k + 5 : Nat) : Int)) = True:=eq_true (by lia)
    simp only [Zq2, Zg1, Zg2, Zg3, Zg4, Zg7, Zg8, Zg12, Zg13, Zg14, Zt7, Zu14, Zq3, Zq4, Zq5, Zq6, Zq7, Zq8, Zq11, Zq12, Zq42, Zq55, Zq57, Zq58, Zq59, Zq60, Zq61, Zq62, Zq63, Zq65, Zq66, Zq67, Zq68, Zq75, Zq76, Zq77, Zq95, Zq96, Zq97, Zq98, Zcm6, bd_ok, ofI_some, ap_binI, ap_cmpI, ap_eLen, rg_some, i_add, post_ok, sq_rt, ifK_t, decide_true, yC, yD, if_true, ap_isL, Res.isL, ap_apL, Res.apL, q6, hbl3, hm2, ap_sbL, Res.sbL, zun n2.symm, q1', idx_2, hr, forL_cons, len_byt hOl, hend']
    rw [if_pos ⟨gk, hend⟩] at hts
    exact ⟨_, hts, rfl, (zun n3.symm).trans q2, fr2 _, yL nx q4⟩
   ·have hend' : ((O.length : Int) <= ((c.k + 5 : Nat) : Int)) = False:=eq_false (by lia)
    have hsb:=fun s => sbB_at (bs:=O) (k:=c.k + 5) hOl (by lia) s
    have hfn : ∀ s, forL (setL 14) (sSeq [sIf (tCmp .ge (eL 14) (eLen (eL 1))) [sRet (eTup [(eL 3), (eK (.str "short")), (eL 2), (eK .none)])] [],
     sAsg 5 (eBin .add (eBin .mul (eL 5) (eK (.int 256))) (eSub (eL 1) (eL 14)))]) [] s = .ok .nx s:=fun _ => rfl
    simp only [Zq2, Zg1, Zg4, Zg5, Zg7, Zg8, Zg12, Zg13, Zg14, Zt5, Zt7, Zu14, Zq3, Zq4, Zq5, Zq6, Zq7, Zq8, Zq11, Zq12, Zq42, Zq55, Zq56, Zq57, Zq58, Zq62, Zq63, Zq65, Zq66, Zq75, Zq76, Zq77, Zq95, Zq96, Zq97, Zq98, Zcm6, bd_ok, ofI_some, ap_binI, ap_cmpI, ap_eLen, rg_some, i_add, post_ok, sq_nx, ifK_f, decide_false, yC, yD, if_true, ap_isL, Res.isL, ap_apL, Res.apL, q6, hbl3, hm2, hm256, hsb, ap_sbL, Res.sbL, zun n2.symm, q1', idx_2, hr, forL_cons, hfn, len_byt hOl, hend']
    have hneg : ¬ (c'.k = c.k + 1 /\ O.length <= c.k + 5):=fun q => hend q.2
    rw [if_neg hneg] at hts
    have td':=hstep hneg
    have hl6 : c.k + 5 < O.length:=by lia
    have hwh : wh O c' = wh O c * 256 + ((O.getD (c.k + 5) 0).toNat : Int):=by
     unfold wh
     rw [gk, show c.k + 1 + 5 = c.k + 5 + 1 by lia, vb_take hl6, yJ, yI hl6]
     rfl
    refine ⟨c', b, hts, bits_snoc hbits hbb, (zun n2.symm).trans q1, (zun n3.symm).trans q2, (zus _ _ _).trans (by simp), td', by rw [yH]; simp; lia, fr2 _, yL nx q4, ?_⟩
    exact ⟨_, _, _, _, _, _, by rw [hwh, hnode]⟩
inductive OutTExX (ar : Nat) (O : List UInt8) (acts : List Act) (n0 : Nat) (R : TR) (j : Nat) (mm : Nat -> AO) (ll : List (Option PV)) : Prop where
 | mk (c : C) (ns : List Int) (h0 : tellA O (acts.drop j) c ns = R) (h1 : Td O c) (h2 : c.k <= 12 * j) (h3 : ns.length = j) (h4 : mm (n0 + 3) = plV c) (h5 : mm (n0 + 1) = .list (c.ms.map .int)) (h6 : mm (n0 + 2) = .list (ns.map .int)) (x6 x7 x8 x9 x10 x11 x12 x13 x14 : Option PV) (h7 : ll = [some (.ref ar), some (.byt O), some (.ref (n0 + 1)), some (.ref (n0 + 2)), some (.ref (n0 + 3)), some (.int (wh O c)), x6, x7, x8, x9, x10, x11, x12, x13, x14]) : OutTExX ar O acts n0 R j mm ll
structure OutT (ar : Nat) (O : List UInt8) (acts : List Act) (n0 : Nat) (m0 : Nat -> AO) (R : TR) (j : Nat) (s : AS) : Prop where
 ex : OutTExX ar O acts n0 R j s.mem s.loc
 ear : s.mem ar = .list (acts.map actV)
 fr : MFr [] n0 m0 s.mem
 nx : n0 + 4 <= s.nxt
inductive InT (ar pl md nl bl : Nat) (O : List UInt8) (a : Act) (kst : Nat) (n0 : Nat) (m0 : Nat -> AO) (R : Except (Str × List Int) (C × List Int)) (j : Nat) (s : AS) : Prop where
 | mk (c : _) (bs : _) (h0 : bs.length = j) (h1 : tellB O a (a.cnt - j) c bs = R) (h2 : TdS ar pl md nl bl O a kst n0 m0 c bs s) : InT ar pl md nl bl O a kst n0 m0 R j s
inductive InE (pl md nl bl : Nat) (n0 : Nat) (m0 : Nat -> AO) (R : Except (Str × List Int) (C × List Int)) (v : PV) (s : AS) : Prop where
 | mk (e : _) (h0 : R = .error e) (h1 : TdE pl md nl bl n0 m0 e v s) : InE pl md nl bl n0 m0 R v s
noncomputable def RetT (n0 : Nat) (m0 : Nat -> AO) (R : TR) (v : PV) (s : AS) : Prop:=RetOk R ⟨[], m0, n0⟩ v ⟨[], s.mem, s.nxt⟩
theorem told_acts {ar : Nat} {O : List UInt8} {acts : List Act} {n0 : Nat} {m0 : Nat -> AO} {R : TR} {s : AS} (hok : ∀ a ∈ acts, ActOk a) (hl : acts.length <= 10) (har : ar < n0) (hO : O.length <= 50000) (j : Nat) (hj : j < acts.length) (h : OutT ar O acts n0 m0 R j s) (v : PV) (hv : (acts.map actV)[j]? = some v) :
  ((setL 6 v s).bd fun _ s => sSeq [sSwap [7, 8] [(eK (.int 1)), (eList [])],
  sForR 9 [(eSub (eL 6) (eK (.int 2)))] [sAsg 10 (eCall F_law_spot [(eL 6), (eL 7)]),
  sSwap [11, 12] [(eCall F_law_part [(eL 4), (eL 2), (eL 10)]), (eSub (eL 4) (eK (.int 2)))],
  sAsg 13 (eIntB (tCmp .ge (eBin .sub (eL 5) (eSub (eL 4) (eK (.int 0)))) (eL 11))),
  sIf (tAnd (tIsNone (eL 10)) (tCmp .ge (eBin .sub (eL 5) (eSub (eL 4) (eK (.int 0)))) (eBin .mul (eK (.int 2)) (eL 11)))) [sRet (eTup [(eL 3), (eK (.str "code")), (eL 2), (eK .none)])] [],
  sExp (eCall F_law_goes [(eL 4), (eL 2), (eL 10), (eL 11), (eL 13)]),
  sExp (eAppendL (eL 8) (eL 13)),
  sAsg 7 (eBin .add (eBin .mul (eK (.int 2)) (eL 7)) (eL 13)),
  sForR 14 [(eBin .add (eL 12) (eK (.int 5))), (eBin .add (eSub (eL 4) (eK (.int 2))) (eK (.int 5)))] [sIf (tCmp .ge (eL 14) (eLen (eL 1))) [sRet (eTup [(eL 3), (eK (.str "short")), (eL 2), (eK .none)])] [],
   sAsg 5 (eBin .add (eBin .mul (eL 5) (eK (.int 256))) (eSub (eL 1) (eL 14)))]],
  sExp (eAppendL (eL 3) (eCall F_law_number [(eL 6), (eL 8)]))] s).post (fun f s' => match f with | .nx => OutT ar O acts n0 m0 R (j + 1) s' | .rt v => RetT n0 m0 R v s') NoE:=by
 obtain ⟨l1, m1, n1⟩:=s
 obtain ⟨⟨c, ns, hR, td, hk, hns, epl, emd, enl, x6, x7, x8, x9, x10, x11, x12, x13, x14, hloc⟩, ear, fr, nx⟩:=h
 dsimp only at epl emd enl ear fr nx hloc
 subst hloc
 have L : zLs = 1048576:=by decide
 obtain ⟨a, haj, rfl⟩ : ∃ a, acts[j]? = some a /\ v = actV a:=by
  rw [List.getElem?_map] at hv
  obtain ⟨a, h1, h2⟩:=Option.map_eq_some_iff.mp hv
  exact ⟨a, h1, h2.symm⟩
 have ha:=hok a (List.mem_of_getElem? haj)
 have h12:=ha.c
 have hr:=rangeK1 (b:=(a.cnt : Int)) (n:=a.cnt) rfl (by lia)
 have hdr : acts.drop j = a :: acts.drop (j + 1):=by
  have:=List.drop_eq_getElem_cons hj
  rw [yI hj] at haj
  rw [this, Option.some.inj haj]
 rw [hdr, tellA] at hR
 simp only [Zq2, Zg6, Zu6, Zu7, Zu8, Zq3, Zq4, Zq5, Zq6, Zq43, Zq57, Zq58, Zq65, Zq66, Zq69, Zq70, Zq88, Zq89, Zq90, Zq91, Zq92, Zq95, Zq96, Zq97, Zq98, bd_ok, rg_some, yE, yF, act_2, hr, List.reverse_cons, List.reverse_nil]
 repeat (first | with_reducible refine post_fin ?_ | with_reducible refine post_seq ?_)
 refine forL_post (Qr:=InE (n0 + 3) (n0 + 1) (n0 + 2) n1 (n1 + 1) (upd m1 n1 (.list [])) (tellB O a a.cnt c [])) (InT ar (n0 + 3) (n0 + 1) (n0 + 2) n1 O a c.k (n1 + 1) (upd m1 n1 (.list [])) (tellB O a a.cnt c [])) ?_ ?_ ?_ ?_
 ·exact ⟨c, [], rfl, rfl, fun _ h => (by cases h), (zun (by lia)).trans epl, (zun (by lia)).trans emd, zus _ _ _, td, yM _, .refl, yM _, _, _, _, _, _, _, rfl⟩
 ·rintro t s1 v1 hv1 ⟨c1, bs, hbs, hT, hI⟩
  rw [List.map_map] at hv1
  obtain ⟨ht, rfl⟩ : t < a.cnt /\ v1 = .int (t : Int):=range_get hv1
  subst hbs
  refine post_mono (told_step (a.cnt - (bs.length + 1)) ha hO (by lia) (by lia) (by lia) (by lia) ht hI) (fun f s' h => ?_) fun _ _ h => h
  have e : a.cnt - (bs.length + 1) + 1 = a.cnt - bs.length:=ss1 (by lia)
  cases f with
  | nx =>
   refine yN fun hgl => ?_
   obtain ⟨c2, b, h1, h2⟩:=h
   refine hgl ?_; clear hgl
   rw [e, hT] at h1
   exact ⟨c2, bs ++ [b], by rw [yH]; rfl, h1.symm, h2⟩
  | rt v2 =>
   obtain ⟨e2, h1, h2⟩:=h
   rw [e, hT] at h1
   exact ⟨e2, h1, h2⟩
 ·rintro ⟨l2, m2, n2⟩ ⟨c1, bs, hbs, hT, hbits, epl2, emd2, ebl2, td2, hk2, fr2, nx2, y9, y10, y11, y12, y13, y14, hloc⟩
  dsimp only at epl2 emd2 ebl2 fr2 nx2 hloc
  subst hloc
  have hcn : bs.length = a.cnt:=by rw [hbs, yG, yG, List.length_range]
  rw [hbs.symm, hcn, Nat.sub_self] at hT
  rw [<- hT] at hR
  have hR2 : tellA O (acts.drop (j + 1)) c1 (ns ++ [numOf a bs]) = R:=hR
  have enl2 : m2 (n0 + 2) = .list (ns.map .int):=by
   rw [fr2 (n0 + 2) (by lia) (by simp; lia), zun (by lia)]
   exact enl
  have ear2 : m2 ar = .list (acts.map actV):=by
   rw [fr2 ar (by lia) (by simp; lia), zun (by lia)]
   exact ear
  have hpl2 : (ns.map PV.int).length < zLs:=by rw [yG]; lia
  simp only [Zg3, Zg6, Zg8, Zq3, Zq4, Zq5, Zq6, Zq34, Zq57, Zq62, Zq75, Zq76, Zq77, bd_ok, ap_isL, Res.isL, enl2]
  repeat (first | with_reducible refine post_fin ?_ | with_reducible refine post_seq ?_)
  refine bd_post (bd_post (number_sp ebl2 (by lia) (by lia) hbits) ?_ fun _ _ h => h) (Q':=fun v s' => v = .none /\ s'.loc = [some (.ref ar), some (.byt O), some (.ref (n0 + 1)), some (.ref (n0 + 2)), some (.ref (n0 + 3)), some (.int (wh O c1)), some (actV a), some (.int (nodeOf bs)), some (.ref n1), y9, y10, y11, y12, y13, y14] /\ (∃ m3, MFr [] n2 m2 m3 /\ s'.mem = upd m3 (n0 + 2) (.list (ns.map .int ++ [.int (numOf a bs)]))) /\ n2 <= s'.nxt) ?_ fun _ _ h => h
  ·rintro v ⟨l3, m3, n3⟩ ⟨rfl, q1, q2, q3⟩
   dsimp only at q1 q2 q3
   subst q1
   have : m3 (n0 + 2) = .list (ns.map .int):=(q3 (n0 + 2) (by lia) (by simp)).trans enl2
   simp only [post_ok, if_true, ap_apL, Res.apL, this, hpl2]
   exact ⟨trivial, trivial, ⟨m3, q3, rfl⟩, q2⟩
  ·rintro v ⟨l3, m3, n3⟩ ⟨rfl, q1, ⟨m4, q3, q4⟩, q2⟩
   dsimp only at q1 q2 q3 q4
   subst q1 q4
   simp only [Zq56, Zq63, post_ok]
   refine ⟨⟨c1, ns ++ [numOf a bs], hR2, td2, by lia, by rw [yH, hns]; rfl, ?_, ?_, ?_, _, _, _, _, _, _, _, _, _, rfl⟩, ?_, ?_, (show n0 + 4 <= n3 by lia)⟩
   ·exact (zun (by lia)).trans ((q3 (n0 + 3) (by lia) (by simp)).trans epl2)
   ·exact (zun (by lia)).trans ((q3 (n0 + 1) (by lia) (by simp)).trans emd2)
   ·refine (zus _ _ _).trans ?_
    rw [List.map_append]
    rfl
   ·exact (zun (by lia)).trans ((q3 ar (by lia) (by simp)).trans ear2)
   ·refine MFr.new ?_ (by lia)
    intro i hi _
    rw [q3 i (by lia) (by simp), fr2 i (by lia) (by simp; lia), zun (by lia)]
    exact fr i hi (by simp)
 ·intro v hz1 hz2
  refine yN fun hgl => ?_
  obtain ⟨l2, m2, n2⟩:=hz1
  obtain ⟨e, hT, rfl, emd2, fr2, nx2⟩:=hz2
  refine hgl ?_; clear hgl
  dsimp only at emd2 fr2 nx2
  rw [hT] at hR
  have hR2 : TR.mk ns e.1 e.2 none = R:=hR
  subst hR2
  have enl2 : m2 (n0 + 2) = .list (ns.map .int):=by
   rw [fr2 (n0 + 2) (by lia) (by simp; lia), zun (by lia)]
   exact enl
  refine ⟨n0 + 2, n0 + 1, rfl, enl2, emd2, by show n0 <= _; lia, by show _ < n2; lia, by show n0 <= _; lia, by show _ < n2; lia, MFr.fr ?_ (show n0 <= n2 by lia)⟩
  intro i hi _
  exact (fr2 i (by lia) (by simp; lia)).trans ((zun (by lia)).trans (fr i hi (by simp)))
inductive Five (O : List UInt8) : Prop where
 | mk (a b c d e : UInt8) (r : List UInt8) (h : O = a :: b :: c :: d :: e :: r) : Five O
theorem five {O : List UInt8} (h : 5 <= O.length) : Five O:=by
 rcases O with _ | ⟨a, O⟩
 ·exact absurd h (by decide)
 rcases O with _ | ⟨b, O⟩
 ·exact absurd h (by simp)
 rcases O with _ | ⟨c, O⟩
 ·exact absurd h (by simp)
 rcases O with _ | ⟨d, O⟩
 ·exact absurd h (by simp)
 rcases O with _ | ⟨e, r⟩
 ·exact absurd h (by simp)
 exact ⟨a, b, c, d, e, r, rfl⟩
theorem vb5 {O : List UInt8} (h : 5 <= O.length) : ((List.range 5).map fun k : Nat => ((O.getD k 0).toNat : Int) * 256 ^ (4 - k)).sum = vb (O.take 5):=by
 obtain ⟨a, b, c, d, e, r, rfl⟩:=five h
 show ((a.toNat : Int) * 256 ^ 4 + ((b.toNat : Int) * 256 ^ 3 + ((c.toNat : Int) * 256 ^ 2 + ((d.toNat : Int) * 256 ^ 1 + ((e.toNat : Int) * 256 ^ 0 + 0))))) = ((((0 * 256 + (a.toNat : Int)) * 256 + b.toNat) * 256 + c.toNat) * 256 + d.toNat) * 256 + e.toNat
 simp
 lia
theorem pSub_byt {a b : P} {s : AS} {k : Nat} {bs : List UInt8} (h1 : a s = some (.byt bs)) (h2 : b s = some (.int k)) (hl : bs.length <= zLs) (h : k < bs.length) : pSub a b s = some (.int (bs.getD k 0).toNat):=by
 have hi : idx bs (k : Int) = some (bs.getD k 0):=by
  rw [idx_eq]
  rw [if_pos ⟨by lia, by lia⟩, show ((k : Int)).toNat = k from rfl, yJ, yI h]
  rfl
 unfold pSub
 rw [h1, h2]
 dsimp only
 rw [if_pos hl, hi]
 rfl
theorem td_c0 {O : List UInt8} (h5 : 5 <= O.length) (hz : (O.getD 0 0).toNat = 0) (hc : vb (O.take 5) ≠ 4294967295) : Td O c0:=by
 refine ⟨gd_c0, h5, ?_, ?_⟩
 ·exact (vb_bd _).1
 ·show vb (O.take 5) < 0 + 4294967295
  obtain ⟨a, b, c, d, e, r, rfl⟩:=five h5
  have ha : a.toNat = 0:=hz
  have e0 : vb ((a :: b :: c :: d :: e :: r).take 5) = ((((0 * 256 + (a.toNat : Int)) * 256 + b.toNat) * 256 + c.toNat) * 256 + d.toNat) * 256 + e.toNat:=rfl
  rw [e0] at hc ⊢
  have:=b.toNat_lt
  have:=c.toNat_lt
  have:=d.toNat_lt
  have:=e.toNat_lt
  lia
theorem told_sp {ar : Nat} {O : List UInt8} {acts : List Act} {s : AS} (hok : ∀ a ∈ acts, ActOk a) (hl : acts.length <= 10) (har : ar < s.nxt) (hm : s.mem ar = .list (acts.map actV)) (hO : O.length <= 50000) :
  (F_law_told [.ref ar, .byt O] s).post (RetOk (tell O acts) s) NoE:=by
 obtain ⟨l, m, n⟩:=s
 dsimp only at har hm
 have L : zLs = 1048576:=by decide
 have hOl : O.length <= zLs:=by lia
 have hb80 : ∀ (l' : List (Option PV)) (m' : Nat -> AO) (n' : Nat), m' n' = .list [.int 1024] -> binM .mul (.ref n') (.int 80) ⟨l', m', n' + 1⟩ = .ok (.ref (n' + 1)) ⟨l', upd m' (n' + 1) (.list (c0.ms.map .int)), n' + 2⟩:=fun l' m' n' h => by
  unfold binM
  dsimp only
  rw [h]
  dsimp only
  rw [if_pos (by decide)]
  rfl
 have hb80':=fun (l' : List (Option PV)) (m' : Nat -> AO) => hb80 l' (upd m' n (.list [.int 1024])) n (zus _ _ _)
 have hp32 : intOp .pow 2 32 = some 4294967296:=i_powc (by decide) rfl
 have ret : ∀ (t : Str) (m' : Nat -> AO) (n' : Nat), m' (n + 2) = .list [] -> m' (n + 1) = .list (c0.ms.map .int) -> MFr [] n m m' -> n + 3 <= n' -> RetOk ⟨[], t, c0.ms, none⟩ ⟨l, m, n⟩ (.tup [.ref (n + 2), .str t, .ref (n + 1), .none]) ⟨l, m', n'⟩:=fun t m' n' h1 h2 h3 h4 =>
  ⟨n + 2, n + 1, rfl, h1, h2, by show n <= n + 2; lia, by show n + 2 < n'; lia, by show n <= n + 1; lia, by show n + 1 < n'; lia, MFr.fr h3 (by lia)⟩
 unfold F_law_told B_law_told tell
 by_cases hnil : O = []
 ·subst hnil
  have hbe : (([] : List UInt8) == []) = true:=rfl
  rw [if_pos (.inl rfl)]
  simp only [Zq1, Zq2, Zg1, Zg2, Zg3, Zu2, Zu3, Zq3, Zq4, Zq5, Zq6, Zq7, Zq8, Zq11, Zq12, Zq21, Zq43, Zq55, Zq57, Zq58, Zq59, Zq60, Zq61, Zq67, Zq68, Zq69, Zq70, Zq88, Zq89, Zq90, Zq91, Zq92, bd_ok, fnM_ap, fin_rt, post_ok, ifK_t, yC, yD, yA, yB, yE, yF, List.replicate, Nat.reduceSub, Nat.reduceAdd, hb80', ap_cmB1, hbe, List.reverse_cons, List.reverse_nil]
  refine ret _ _ _ (zus _ _ _) ((zun (by lia)).trans (zus _ _ _)) ?_ (by lia)
  repeat' first | exact MFr.refl | (refine MFr.own ?_ (.head _)) | (refine MFr.own ?_ (.tail _ (.head _))) | (refine MFr.own ?_ (.tail _ (.tail _ (.head _)))) | (refine MFr.new ?_ (by lia))
 ·have hlen0 : 0 < O.length:=by
   cases O with
   | nil => exact absurd rfl hnil
   | cons _ _ => simp
  have hbe : (O == []) = false:=by
   cases O with
   | nil => exact absurd rfl hnil
   | cons _ _ => rfl
  have hs0:=fun s => sbB_at (bs:=O) (k:=0) hOl hlen0 s
  have hs0' : ∀ s, subM (.byt O) (.int 0) s = .ok (.int (O.getD 0 0).toNat) s:=hs0
  generalize hO0 : (O.getD 0 0).toNat = o0 at *
  by_cases hz : o0 = 0
  ·subst hz
   by_cases h5 : O.length < 5
   ·have h5' : ((O.length : Int) < 5) = True:=eq_true (by lia)
    have hz0 : (((0 : Nat) : Int) == 0) = true:=rfl
    rw [if_pos (.inr ⟨rfl, h5⟩)]
    simp only [Zq2, Zg1, Zg2, Zg3, Zu2, Zu3, Zq3, Zq4, Zq5, Zq6, Zq7, Zq8, Zq11, Zq12, Zq20, Zq21, Zq43, Zq55, Zq57, Zq58, Zq59, Zq60, Zq61, Zq65, Zq66, Zq67, Zq68, Zq69, Zq70, Zq88, Zq89, Zq90, Zq91, Zq92, Zcm1, Zcm3, bd_ok, ap_cmpI, ap_eLen, fnM_ap, fin_rt, post_ok, ifK_t, ifK_f, yC, yD, yA, yB, yE, yF, List.replicate, decide_true, Nat.reduceSub, Nat.reduceAdd, hb80', ap_cmB1, hbe, hs0', hz0, len_byt hOl, h5', List.reverse_cons, List.reverse_nil]
    refine ret _ _ _ (zus _ _ _) ((zun (by lia)).trans (zus _ _ _)) ?_ (by lia)
    repeat' first | exact MFr.refl | (refine MFr.own ?_ (.head _)) | (refine MFr.own ?_ (.tail _ (.head _))) | (refine MFr.own ?_ (.tail _ (.tail _ (.head _)))) | (refine MFr.new ?_ (by lia))
   ·have h5' : ((O.length : Int) < 5) = False:=eq_false (by lia)
    have hz0 : (((0 : Nat) : Int) == 0) = true:=rfl
    have hz1 : (((0 : Nat) : Int) != 0) = false:=rfl
    have hr5:=rangeK1 (b:=5) (n:=5) rfl (by lia)
    have hg : ∀ (l' : List (Option PV)) (m' : Nat -> AO) (n' : Nat), l'[1]? = some (some (.byt O)) -> ∀ k ∈ (List.range 5).map (fun (k : Nat) => (k : Int)), (fun x => pBin .mul (pSub (pL 1) (pK x)) (pBin .pow (pK (.int 256)) (pBin .sub (pK (.int 4)) (pK x)))) (.int k) ⟨l', m', n'⟩ = some (.int (((O.getD k.toNat 0).toNat : Int) * 256 ^ (4 - k.toNat))):=fun l' m' n' hloc k hk => by
     obtain ⟨j, hj, rfl⟩:=List.mem_map.mp hk
     have hj:=List.mem_range.mp hj
     refine pBin_at (pSub_byt (pL_at hloc) rfl hOl (by lia)) (pBin_at rfl (pBin_at rfl rfl rfl) (i_pow (by lia) (by lia) (by decide))) ?_
     rw [show ((4 : Int) - (j : Int)).toNat = 4 - j from Int.toNat_sub 4 j, show ((j : Int)).toNat = j from rfl]
     refine i_mul (.inl ?_)
     have:=(O.getD j 0).toNat_lt
     lia
    have hcm:=fun (l' : List (Option PV)) (m' : Nat -> AO) (n' : Nat) (h : l'[1]? = some (some (.byt O))) => compR_ap (elt:=fun x => pBin .mul (pSub (pL 1) (pK x)) (pBin .pow (pK (.int 256)) (pBin .sub (pK (.int 4)) (pK x)))) (l:=l') (m:=m') (n:=n') (g:=fun k => ((O.getD k.toNat 0).toNat : Int) * 256 ^ (4 - k.toNat)) _ (hg l' m' n' h)
    have hcm':=fun (m' : Nat -> AO) (n' : Nat) => hcm [some (.ref ar), some (.byt O), some (.ref (n + 1)), some (.ref (n + 2)), none, none, none, none, none, none, none, none, none, none, none] m' n' rfl
    have hsum : ((((List.range 5).map fun (k : Nat) => (k : Int)).map fun k => ((O.getD k.toNat 0).toNat : Int) * 256 ^ (4 - k.toNat))).sum = vb (O.take 5):=by
     rw [<- vb5 (by lia), List.map_map]
     rfl
    rw [if_neg (fun q => q.elim (fun q => hnil q) fun q => h5 q.2), if_neg (by simp)]
    rw [fnM_ap, sSeqc, sSeqc, sSeqc, sSeqc, sSeqc]
    have hsm:=fun s => smL_ints s (ns:=(((List.range 5).map fun (k : Nat) => (k : Int)).map fun k => ((O.getD k.toNat 0).toNat : Int) * 256 ^ (4 - k.toNat))) (by rw [yG, yG, List.length_range]; lia)
    rw [hsum] at hsm
    by_cases hcd : vb (O.take 5) = 4294967295
    ·rw [if_pos hcd]
     generalize vb (O.take 5) = W at *
     subst hcd
     have hw : ((4294967295 : Int) == 4294967295) = true:=rfl
     simp only [Zq2, Zg1, Zg2, Zg3, Zg5, Zu2, Zu3, Zu4, Zu5, Zq3, Zq4, Zq5, Zq6, Zq7, Zq8, Zq11, Zq12, Zq20, Zq21, Zq43, Zq55, Zq56, Zq57, Zq59, Zq60, Zq61, Zq65, Zq66, Zq67, Zq68, Zq69, Zq70, Zq88, Zq89, Zq90, Zq91, Zq92, Zq95, Zq96, Zcm1, Zcm2, Zcm3, bd_ok, ofI_some, ap_binI, ap_cmpI, ap_eLen, ap_eSum, rg_some, zus, i_sub, fin_rt, post_ok, sq_nx, sq_rt, ifK_t, ifK_f, decide_false, yC, yD, yA, yB, yE, yF, List.replicate, Nat.reduceSub, Nat.reduceAdd, hb80', ap_cmB1, hbe, hs0', hz0, hz1, len_byt hOl, h5', hp32, hr5, ap_eCompZ, hcm', ap_smL, hsm, hw, List.reverse_cons, List.reverse_nil, Int.reduceSub]
     refine ret _ _ _ ((zun (by lia)).trans ((zun (by lia)).trans (zus _ _ _))) ((zun (by lia)).trans ((zun (by lia)).trans ((zun (by lia)).trans (zus _ _ _)))) ?_ (by lia)
     repeat' first | exact MFr.refl | (refine MFr.own ?_ (.head _)) | (refine MFr.own ?_ (.tail _ (.head _))) | (refine MFr.own ?_ (.tail _ (.tail _ (.head _)))) | (refine MFr.new ?_ (by lia))
    ·rw [if_neg hcd]
     have hw : (vb (O.take 5) == 4294967295) = false:=by simpa using hcd
     simp only [Zq2, Zg0, Zg1, Zg5, Zu2, Zu3, Zu4, Zu5, Zq3, Zq4, Zq5, Zq6, Zq7, Zq8, Zq11, Zq12, Zq20, Zq21, Zq43, Zq55, Zq56, Zq57, Zq65, Zq66, Zq69, Zq70, Zq88, Zq89, Zq90, Zq91, Zq92, Zq95, Zq96, Zcm1, Zcm2, Zcm3, bd_ok, ofI_some, ap_binI, ap_cmpI, ap_eLen, ap_eSum, rg_some, ap_sForV, zus, i_sub, sq_nx, ifK_t, ifK_f, decide_false, yC, yD, yA, yB, yE, yF, List.replicate, Nat.reduceSub, Nat.reduceAdd, hb80', ap_cmB1, hbe, hs0', hz0, hz1, len_byt hOl, h5', hp32, hr5, ap_eCompZ, hcm', ap_smL, hsm, hw, List.reverse_cons, List.reverse_nil, Int.reduceSub]
     repeat (first | with_reducible refine post_fin ?_ | with_reducible refine post_seq ?_)
     refine forV_post (vs:=acts.map actV) (Qr:=RetT n m (tellA O acts c0 [])) (OutT ar O acts n m (tellA O acts c0 [])) (by rw [yG]; lia) ?_ (fun _ _ h => h.ear) ?_ ?_ ?_
     ·refine ⟨⟨c0, [], rfl, td_c0 (by lia) hO0 hcd, yM _, rfl, ?_, ?_, ?_, _, _, _, _, _, _, _, _, _, rfl⟩, ?_, ?_, by show n + 4 <= n + 2 + 1 + 1 + 1; lia⟩
      ·exact (zun (by lia)).trans (zus _ _ _)
      ·exact (zun (by lia)).trans ((zun (by lia)).trans ((zun (by lia)).trans (zus _ _ _)))
      ·exact (zun (by lia)).trans ((zun (by lia)).trans (zus _ _ _))
      ·exact (zun (by lia)).trans ((zun (by lia)).trans ((zun (by lia)).trans ((zun (by lia)).trans ((zun (by lia)).trans hm))))
      ·repeat' first | exact MFr.refl | (refine MFr.own ?_ (.head _)) | (refine MFr.own ?_ (.tail _ (.head _))) | (refine MFr.own ?_ (.tail _ (.tail _ (.head _)))) | (refine MFr.new ?_ (by lia))
     ·intro j s v hv hI
      have hj : j < acts.length:=by
       have:=(List.getElem?_eq_some_iff.mp hv).1
       rwa [yG] at this
      exact told_acts hok hl har hO j hj hI v hv
     ·rintro ⟨l1, m1, n1⟩ ⟨⟨c, ns, hR, td, hk, hns, epl, emd, enl, x6, x7, x8, x9, x10, x11, x12, x13, x14, hloc⟩, ear, fr, nx⟩
      dsimp only at epl emd enl ear fr nx hloc
      subst hloc
      rw [yG, List.drop_length] at hR
      have epl':=epl
      unfold plV at epl'
      simp only [Zq2, Zg2, Zg3, Zg4, Zg5, Zq3, Zq4, Zq5, Zq6, Zq7, Zq8, Zq11, Zq12, Zq22, Zq23, Zq57, Zq59, Zq60, Zq61, Zq65, Zq66, Zq67, Zq68, Zcm1, bd_ok, ofI_some, ap_binI, ap_cmpI, i_add, post_ok, ap_sbL, Res.sbL, epl', idx_0, idx_2]
      rw [<- hR]
      exact ⟨n + 2, n + 1, rfl, enl, emd, by show n <= n + 2; lia, by show n + 2 < n1; lia, by show n <= n + 1; lia, by show n + 1 < n1; lia, MFr.fr fr (by lia)⟩
     ·rintro v ⟨l1, m1, n1⟩ ⟨nl, md, h1, h2, h3, h4, h5, h6, h7, h8⟩
      exact ⟨nl, md, h1, h2, h3, h4, h5, h6, h7, rfl, h8.2.1, h8.2.2⟩
  ·have hz0 : ((o0 : Int) == 0) = false:=by simp; lia
   have hz1 : ((o0 : Int) != 0) = true:=by simp; lia
   rw [if_neg (fun q => q.elim (fun q => hnil q) fun q => hz q.1), if_pos hz]
   simp only [Zq1, Zq2, Zg1, Zg2, Zg3, Zu2, Zu3, Zq3, Zq4, Zq5, Zq6, Zq7, Zq8, Zq11, Zq12, Zq20, Zq21, Zq43, Zq55, Zq56, Zq57, Zq58, Zq59, Zq60, Zq61, Zq65, Zq66, Zq67, Zq68, Zq69, Zq70, Zq88, Zq89, Zq90, Zq91, Zq92, Zcm1, Zcm2, bd_ok, ap_cmpI, fnM_ap, fin_rt, post_ok, ifK_t, ifK_f, yC, yD, yA, yB, yE, yF, List.replicate, Nat.reduceSub, Nat.reduceAdd, hb80', ap_cmB1, hbe, hs0', hz0, hz1, List.reverse_cons, List.reverse_nil]
   refine ret _ _ _ (zus _ _ _) ((zun (by lia)).trans (zus _ _ _)) ?_ (by lia)
   repeat' first | exact MFr.refl | (refine MFr.own ?_ (.head _)) | (refine MFr.own ?_ (.tail _ (.head _))) | (refine MFr.own ?_ (.tail _ (.tail _ (.head _)))) | (refine MFr.new ?_ (by lia))
noncomputable def rf (D : List UInt8) (stop start place : Nat) (span code : Int) : List (Nat × PV):=[(6, .byt D), (7, .int stop), (8, .int start), (9, .int place), (2, .int span), (10, .int code)]
theorem octet_no {r : Nat} {D : List UInt8} {stop start p : Nat} {sp cd : Int} {l : List (Option PV)} {m : Nat -> AO} {n : Nat} (h : m r = .inst 199 (rf D stop start p sp cd)) (hp : stop <= p) :
  F_RangeReader_octet [.ref r] ⟨l, m, n⟩ = .exc 52 ⟨l, m, n⟩:=by
 have hp' : (stop : Int) <= p:=by lia
 unfold F_RangeReader_octet B_RangeReader_octet
 simp [Zg0, Zq11, Zq12, Zq41, Zq55, Zq57, Za199_7, Za199_9, Zcm6, bd_ok, bd_exc, ap_cmpI, ap_attr, ap_sRaise, fnM_ap, fin_exc, ifK_t, decide_true, rf, h, hp']
theorem octet_ok {r : Nat} {D : List UInt8} {stop start p : Nat} {sp cd : Int} {l : List (Option PV)} {m : Nat -> AO} {n : Nat} (h : m r = .inst 199 (rf D stop start p sp cd)) (hp : p < stop) (hD : p < D.length) (hl : D.length <= zLs) :
  F_RangeReader_octet [.ref r] ⟨l, m, n⟩ = .ok (.int (D.getD p 0).toNat) ⟨l, upd m r (.inst 199 (rf D stop start (p + 1) sp cd)), n⟩:=by
 have hp' : ((stop : Int) <= p) = False:=eq_false (by lia)
 have e1 : (p : Int) + 1 - 1 = p:=by lia
 have hs:=fun s => sbB_at (bs:=D) (k:=p) hl hD s
 unfold F_RangeReader_octet B_RangeReader_octet
 simp only [Zq2, Zg0, Zq7, Zq8, Zq11, Zq12, Zq41, Zq43, Zq50, Zq51, Zq52, Zq53, Zq54, Zq55, Zq56, Zq57, Zq58, Zq59, Zq60, Zq61, Zq65, Zq66, Za199_6, Za199_7, Za199_9, Zb199_9, Zcm6, bd_ok, ofI_some, ap_binI, ap_cmpI, ap_attr, ap_setAttr, zus, i_add, i_sub, fnM_ap, fin_rt, ifK_f, decide_false, yC, yD, yA, yB, yE, yF, List.replicate, Nat.reduceSub, Nat.reduceAdd, rf, h, hp', e1, hs]
 rfl
structure Rd (r : Nat) (pre O post : List UInt8) (R code : Int) (k : Nat) (s : AS) : Prop where
 lt : r < s.nxt
 e : s.mem r = .inst 199 (rf (pre ++ O ++ post) (pre.length + O.length) pre.length (pre.length + k + 5) R code)
theorem getD_mid {pre O post : List UInt8} {k : Nat} (h : k < O.length) : (pre ++ O ++ post).getD (pre.length + k) 0 = O.getD k 0:=by
 rw [yJ, yJ, List.append_assoc, List.getElem?_append_right (by lia), Nat.add_sub_cancel_left, List.getElem?_append_left h]
theorem bor_oct {v o : Int} (hv : 0 <= v) (h0 : 0 <= o) (h1 : o < 256) : Builtin.bitOr (v * 256) o = v * 256 + o:=by
 have:=bor_add (a:=v) (b:=o) (n:=8) hv h0 (by lia)
 simpa using this
theorem bor_one {v b : Int} (hv : 0 <= v) (hb : Bit b) : Builtin.bitOr (v * 2) b = 2 * v + b:=by
 have:=bor_add (a:=v) (b:=b) (n:=1) hv (by rcases hb with rfl | rfl <;> decide) (by rcases hb with rfl | rfl <;> decide)
 rw [show v * 2 = v * 2 ^ 1 by simp, this]
 lia
noncomputable def FillQ (r : Nat) (pre O post : List UInt8) (c' : C) (k : Nat) (s s' : AS) : Prop:=¬ (c'.k = k + 1 /\ O.length <= k + 5) /\ Rd r pre O post c'.R (wh O c' - c'.N) c'.k s' /\ Fr [r] s s'
noncomputable def FillE (r : Nat) (O : List UInt8) (c' : C) (k : Nat) (s : AS) (x : Nat) (s' : AS) : Prop:=x = 52 /\ (c'.k = k + 1 /\ O.length <= k + 5) /\ MFr [r] s.nxt s.mem s'.mem /\ s.nxt <= s'.nxt
theorem rfill_sp {r : Nat} {pre O post : List UInt8} {N1 R1 : Int} {k : Nat} {s : AS} (ms : List Int) (hl : (pre ++ O ++ post).length <= zLs) (h : Rd r pre O post R1 (vb (O.take (k + 5)) - N1) k s) (hk : k + 5 <= O.length) (h0 : N1 <= vb (O.take (k + 5))) (h1 : vb (O.take (k + 5)) < N1 + R1) :
  (F_RangeReader_fill [.ref r] s).post (fun v s' => v = .none /\ FillQ r pre O post (nrm N1 R1 k ms) k s s') (fun x s' => FillE r O (nrm N1 R1 k ms) k s x s'):=by
 obtain ⟨l, m, n⟩:=s
 obtain ⟨lt, e⟩:=h
 dsimp only at lt e
 unfold F_RangeReader_fill B_RangeReader_fill
 by_cases hc : R1 < 16777216
 ·have en : nrm N1 R1 k ms = ⟨N1 * 256, R1 * 256, k + 1, ms⟩:=if_pos hc
  rw [en]
  have hc' : (R1 < 16777216) = True:=eq_true hc
  have hs1 : intOp .shl R1 8 = some (R1 * 256):=i_shl (by decide) (by decide) (nab (by lia) (by lia))
  have hs2 : intOp .shl (vb (O.take (k + 5)) - N1) 8 = some ((vb (O.take (k + 5)) - N1) * 256):=i_shl (by decide) (by decide) (nab (by lia) (by lia))
  have hm2 : upd m r (.inst 199 (rf (pre ++ O ++ post) (pre.length + O.length) pre.length (pre.length + k + 5) (R1 * 256) (vb (O.take (k + 5)) - N1))) r = .inst 199 (rf (pre ++ O ++ post) (pre.length + O.length) pre.length (pre.length + k + 5) (R1 * 256) (vb (O.take (k + 5)) - N1)):=zus _ _ _
  by_cases hend : O.length <= k + 5
  ·have ho:=fun l n => octet_no (l:=l) (n:=n) hm2 (by lia)
   unfold rf at ho
   simp only [Zq2, Zg0, Zq3, Zq7, Zq8, Zq11, Zq12, Zq35, Zq36, Zq37, Zq41, Zq43, Zq44, Zq50, Zq51, Zq52, Zq53, Zq54, Zq55, Zq57, Zq58, Za199_2, Zb199_2, Za199_10, Zh199, Zcm3, bd_ok, bd_exc, ofI_some, ap_binI, ap_cmpI, ap_attr, ap_setAttr, zus, fnM_ap, fin_exc, post_exc, ifK_t, decide_true, yC, yD, yA, yB, yE, yF, List.replicate, Nat.reduceSub, Nat.reduceAdd, rf, e, hc', hs1, hs2, ho]
   exact ⟨rfl, ⟨rfl, hend⟩, MFr.own .refl (.head _), yM _⟩
  ·have hl6 : k + 5 < O.length:=by lia
   have hll : (pre ++ O ++ post).length = pre.length + O.length + post.length:=by rw [yH, yH]
   have ho:=fun l n => octet_ok (l:=l) (n:=n) hm2 (by lia) (by lia) hl
   rw [show pre.length + k + 5 = pre.length + (k + 5) by lia, getD_mid hl6, <- show pre.length + k + 5 = pre.length + (k + 5) by lia] at ho
   unfold rf at ho
   have hx:=(O.getD (k + 5) 0).toNat_lt
   have hb:=bor_oct (v:=vb (O.take (k + 5)) - N1) (o:=((O.getD (k + 5) 0).toNat : Int)) (by lia) (by lia) (by lia)
   simp only [Zq2, Zg0, Zq3, Zq7, Zq8, Zq11, Zq12, Zq35, Zq36, Zq37, Zq41, Zq43, Zq44, Zq45, Zq46, Zq50, Zq51, Zq52, Zq53, Zq54, Zq55, Zq56, Zq57, Zq58, Za199_2, Zb199_2, Za199_10, Zb199_10, Zh199, Zcm3, bd_ok, ofI_some, ap_binI, ap_cmpI, ap_attr, ap_setAttr, zus, i_bor, fnM_ap, fin_nx, post_ok, ifK_t, decide_true, yC, yD, yA, yB, yE, yF, List.replicate, Nat.reduceSub, Nat.reduceAdd, rf, e, hc', hs1, hs2, ho, hb]
   refine ⟨trivial, fun q => by have:=q.2; lia, ⟨lt, ?_⟩, MFr.fr ?_ (yM _)⟩
   ·refine (zus _ _ _).trans ?_
    have hw : wh O ⟨N1 * 256, R1 * 256, k + 1, ms⟩ - N1 * 256 = (vb (O.take (k + 5)) - N1) * 256 + ((O.getD (k + 5) 0).toNat : Int):=by
     unfold wh
     rw [show k + 1 + 5 = k + 5 + 1 by lia, vb_take hl6, yJ, yI hl6]
     simp
     lia
    dsimp only
    rw [hw]
    rfl
   ·repeat' first | exact MFr.refl | (refine MFr.own ?_ (.head _)) | (refine MFr.own ?_ (.tail _ (.head _))) | (refine MFr.own ?_ (.tail _ (.tail _ (.head _)))) | (refine MFr.new ?_ (by lia))
 ·have en : nrm N1 R1 k ms = ⟨N1, R1, k, ms⟩:=if_neg hc
  rw [en]
  have hc' : (R1 < 16777216) = False:=eq_false hc
  simp only [Zq2, Zg0, Zq11, Zq12, Zq41, Zq55, Zq56, Zq57, Zq58, Za199_2, Zcm3, bd_ok, ap_cmpI, ap_attr, fnM_ap, fin_nx, post_ok, ifK_f, decide_false, yC, yD, yA, yB, yE, yF, List.replicate, Nat.reduceSub, Nat.reduceAdd, rf, e, hc']
  refine ⟨trivial, fun q => ?_, ⟨lt, e⟩, .refl _ _⟩
  have:=q.1
  dsimp only at this
  lia
structure Rs (r md : Nat) (pre O post : List UInt8) (c : C) (s : AS) : Prop where
 rd : Rd r pre O post c.R (wh O c - c.N) c.k s
 lm : md < s.nxt
 ne : md ≠ r
 em : s.mem md = .list (c.ms.map .int)
theorem Rs.loc {r md : Nat} {pre O post : List UInt8} {c : C} {l l' : List (Option PV)} {m : Nat -> AO} {n : Nat} (h : Rs r md pre O post c ⟨l, m, n⟩) : Rs r md pre O post c ⟨l', m, n⟩:=⟨⟨h.rd.lt, h.rd.e⟩, h.lm, h.ne, h.em⟩
noncomputable def RbQ (r md : Nat) (pre O post : List UInt8) (c c' : C) (s s' : AS) : Prop:=¬ (c'.k = c.k + 1 /\ O.length <= c.k + 5) /\ Rs r md pre O post c' s' /\ Fr [r, md] s s'
noncomputable def RbE (r md : Nat) (O : List UInt8) (c c' : C) (s : AS) (x : Nat) (s' : AS) : Prop:=x = 52 /\ (c'.k = c.k + 1 /\ O.length <= c.k + 5) /\ s'.mem md = .list (c'.ms.map .int) /\ MFr [r, md] s.nxt s.mem s'.mem /\ s.nxt <= s'.nxt
theorem sub1 {a b : Nat} : ∀ i ∈ [a], i ∈ [a, b]:=fun i h => by
 rw [List.mem_singleton.mp h]; exact .head _
theorem rbit_sp {r md : Nat} {pre O post : List UInt8} {c : C} {i : Int} {s : AS} (hl : (pre ++ O ++ post).length <= zLs) (h : Rs r md pre O post c s) (td : Td O c) (hi : 0 <= i /\ i < 80) :
  (F_RangeReader_bit [.ref r, .ref md, .int i] s).post (fun v s' => v = .int (tbit O c (some i)) /\ RbQ r md pre O post c (goC c (some i) (tbit O c (some i))) s s') (RbE r md O c (goC c (some i) (tbit O c (some i))) s):=by
 obtain ⟨l, m, n⟩:=s
 obtain ⟨⟨lt, e⟩, lm, ne, em⟩:=h
 dsimp only at lt e lm em
 have g:=td.g
 obtain ⟨p1, p2, _⟩:=prt_ok (sp:=some i) g.R1 g.ms hi
 obtain ⟨g1, g2⟩:=gm_ok g.ms hi
 have hR2:=g.R2
 have hml:=g.ms.len
 have hm : intOp .mul (c.R / 2048) (gm c.ms i) = some (prt c.R c.ms (some i)):=i_mul (.inr (nab (by lia) (by lia)))
 have hsh : intOp .shr c.R 11 = some (c.R / 2048):=by rw [i_shr (by decide)]; rfl
 have hx:=idx_ms g.ms hi
 have hlen : ((c.ms.map PV.int).length : Int) = 80:=by rw [yG, hml]; rfl
 have hlen2 : (0 <= i /\ i < ((c.ms.map PV.int).length : Int) /\ (c.ms.map PV.int).length <= zLs) = True:=eq_true ⟨hi.1, by lia, by rw [yG, hml]; decide⟩
 have hbad : ¬ tbad O c (some i):=fun q => nomatch q.1
 obtain ⟨t1, t2⟩:=td_mid td (sp:=some i) hi hbad
 have hms : ∀ (N1 R1 : Int) (b : Int), (nrm N1 R1 c.k (stM c.ms b (some i))).ms = stM c.ms b (some i):=fun N1 R1 b => by unfold nrm; split <;> rfl
 have hbv : (if prt c.R c.ms (some i) <= wh O c - c.N then (1 : Int) else 0) = tbit O c (some i):=by
  unfold tbit; simp
 have hbb:=tbit_bit O c (some i)
 have goE : goC c (some i) (tbit O c (some i)) = nrm (stN c (some i) (tbit O c (some i))) (stR c (tbit O c (some i)) (some i)) c.k (stM c.ms (tbit O c (some i)) (some i)):=rfl
 rw [goE]
 unfold F_RangeReader_bit B_RangeReader_bit
 generalize tbit O c (some i) = b at *
 have fin : ∀ (m1 : Nat -> AO) (l' : List (Option PV)), m1 r = .inst 199 (rf (pre ++ O ++ post) (pre.length + O.length) pre.length (pre.length + c.k + 5) (stR c b (some i)) (wh O c - stN c (some i) b)) -> m1 md = .list ((c.ms.map PV.int).set i.toNat (.int (nxI (gm c.ms i) b))) -> MFr [r, md] n m m1 ->
   (F_RangeReader_fill [.ref r] ⟨l', m1, n⟩).post (fun v s' => v = .none /\ s'.loc = l' /\ RbQ r md pre O post c (nrm (stN c (some i) b) (stR c b (some i)) c.k (stM c.ms b (some i))) ⟨l, m, n⟩ ⟨l, s'.mem, s'.nxt⟩) (fun x s' => RbE r md O c (nrm (stN c (some i) b) (stR c b (some i)) c.k (stM c.ms b (some i))) ⟨l, m, n⟩ x ⟨l, s'.mem, s'.nxt⟩):=fun m1 l' a1 a2 a3 => by
  have eM : AO.list ((c.ms.map PV.int).set i.toNat (.int (nxI (gm c.ms i) b))) = .list ((stM c.ms b (some i)).map .int):=by
   show _ = AO.list ((c.ms.set i.toNat (nxI (gm c.ms i) b)).map .int)
   rw [List.map_set]
  rw [eM] at a2
  refine post_mono (rfill_sp (stM c.ms b (some i)) hl ⟨lt, a1⟩ td.len t1 t2) ?_ ?_
  ·rintro v s' ⟨rfl, q1, q2, q3⟩
   refine ⟨rfl, q3.1, q1, ⟨⟨q2.lt, q2.e⟩, yK lm q3.2.1, ne, ?_⟩, MFr.fr (a3.trans (yM _) (q3.m sub1)) q3.2.1⟩
   rw [hms]
   exact (q3.2.2 md lm (by simp [ne])).trans a2
  ·rintro x s' ⟨rfl, q1, q2, q3⟩
   refine ⟨rfl, q1, ?_, a3.trans (yM _) fun j hj hn => q2 j hj fun q => hn (sub1 j q), q3⟩
   rw [hms]
   exact (q2 md lm (by simp [ne])).trans a2
 have hb01 : (b = 0) \/ (b = 1):=hbb
 rcases hb01 with rfl | rfl
 ·have eN : stN c (some i) 0 = c.N:=by unfold stN; rw [Int.mul_zero, Int.add_zero]
  have eR : stR c 0 (some i) = prt c.R c.ms (some i):=rfl
  have h00 : ((0 : Int) == 0) = true:=rfl
  simp only [Zq2, Zg0, Zg1, Zg2, Zg3, Zg4, Zg5, Zt3, Zt4, Zt5, Zq3, Zq4, Zq5, Zq6, Zq7, Zq8, Zq11, Zq12, Zq24, Zq25, Zq34, Zq35, Zq36, Zq37, Zq41, Zq42, Zq43, Zq44, Zq45, Zq46, Zq55, Zq56, Zq57, Zq58, Zq62, Zq65, Zq66, Zq71, Zq72, Zq73, Zq74, Za199_2, Zb199_2, Za199_10, Zh199, Zcm1, Zcm6, bd_ok, ofI_some, ap_binI, ap_cmpI, ap_attr, ap_setAttr, zus, fnM_ap, ifK_t, decide_eq_true_eq, yC, yD, yA, yB, yE, yF, List.replicate, if_true, Nat.reduceSub, Nat.reduceAdd, rf, e, em, ap_sbL, Res.sbL, hx, hsh, hm, hbv, h00, next_ap, ap_ssL, Res.ssL, zun ne, zun ne.symm, hlen2]
  repeat (first | with_reducible refine post_fin ?_ | with_reducible refine post_seq ?_)
  refine bd_post (fin _ _ ?_ (zus _ _ _) ?_) ?_ ?_
  ·refine (zun ne.symm).trans ((zus _ _ _).trans ?_)
   rw [eN, eR]; rfl
  ·repeat' first | exact MFr.refl | (refine MFr.own ?_ (.head _)) | (refine MFr.own ?_ (.tail _ (.head _))) | (refine MFr.own ?_ (.tail _ (.tail _ (.head _)))) | (refine MFr.new ?_ (by lia))
  ·rintro v ⟨l1, m1, n1⟩ ⟨rfl, q1, q2⟩
   dsimp only at q1
   subst q1
   simp only [Zg5, Zq57, Zq59, Zq60, Zq61, Zq63, bd_ok, post_ok]
   exact ⟨trivial, q2⟩
  ·intro x s' hx
   exact hx
 ·have eN : stN c (some i) 1 = c.N + prt c.R c.ms (some i):=by unfold stN; rw [Int.mul_one]
  have eR : stR c 1 (some i) = c.R - prt c.R c.ms (some i):=rfl
  have h00 : ((1 : Int) == 0) = false:=rfl
  simp only [Zq2, Zg0, Zg1, Zg2, Zg3, Zg4, Zg5, Zt3, Zt4, Zt5, Zq3, Zq4, Zq5, Zq6, Zq7, Zq8, Zq11, Zq12, Zq24, Zq25, Zq34, Zq35, Zq36, Zq37, Zq41, Zq42, Zq43, Zq50, Zq51, Zq52, Zq53, Zq54, Zq55, Zq56, Zq57, Zq58, Zq62, Zq65, Zq66, Zq71, Zq72, Zq73, Zq74, Za199_2, Zb199_2, Za199_10, Zb199_10, Zh199, Zcm1, Zcm6, bd_ok, ofI_some, ap_binI, ap_cmpI, ap_attr, ap_setAttr, zus, i_sub, fnM_ap, ifK_f, decide_eq_true_eq, yC, yD, yA, yB, yE, yF, List.replicate, if_true, Nat.reduceSub, Nat.reduceAdd, rf, e, em, ap_sbL, Res.sbL, hx, hsh, hm, hbv, h00, next_ap, ap_ssL, Res.ssL, zun ne, zun ne.symm, hlen2]
  repeat (first | with_reducible refine post_fin ?_ | with_reducible refine post_seq ?_)
  refine bd_post (fin _ _ ?_ (zus _ _ _) ?_) ?_ ?_
  ·refine (zun ne.symm).trans ((zus _ _ _).trans ?_)
   rw [eN, eR, show wh O c - (c.N + prt c.R c.ms (some i)) = wh O c - c.N - prt c.R c.ms (some i) by lia]; rfl
  ·repeat' first | exact MFr.refl | (refine MFr.own ?_ (.head _)) | (refine MFr.own ?_ (.tail _ (.head _))) | (refine MFr.own ?_ (.tail _ (.tail _ (.head _)))) | (refine MFr.new ?_ (by lia))
  ·rintro v ⟨l1, m1, n1⟩ ⟨rfl, q1, q2⟩
   dsimp only at q1
   subst q1
   simp only [Zg5, Zq57, Zq59, Zq60, Zq61, Zq63, bd_ok, post_ok]
   exact ⟨trivial, q2⟩
  ·intro x s' hx
   exact hx
noncomputable abbrev TB:=Except (Str × List Int) (C × List Int)
noncomputable def RdE (r md : Nat) (n0 : Nat) (m0 : Nat -> AO) (T : TB) (x : Nat) (s : AS) : Prop :=
 ∃ e, T = .error e /\ ((x = 52 /\ e.1 = "short") \/ (x = 64 /\ e.1 = "code")) /\ s.mem md = .list (e.2.map .int) /\ MFr [r, md] n0 m0 s.mem /\ n0 <= s.nxt
structure Re (r md : Nat) (pre O post : List UInt8) (a : Act) (n0 : Nat) (m0 : Nat -> AO) (T : TB) (c : C) (bs : List Int) (s : AS) : Prop where
 bits : Bits bs
 t : tellB O a (a.cnt - bs.length) c bs = T
 td : Td O c
 rs : Rs r md pre O post c s
 fr : MFr [r, md] n0 m0 s.mem
 nx : n0 <= s.nxt
inductive DrI (r md : Nat) (pre O post : List UInt8) (a : Act) (n0 : Nat) (m0 : Nat -> AO) (T : TB) (j : Nat) (s : AS) : Prop where
 | mk (c : _) (bs : _) (x3 : _) (x4 : _) (h0 : bs.length = j) (h1 : Re r md pre O post a n0 m0 T c bs s) (h2 : s.loc = [some (.ref r), some (.int a.cnt), some (.int (lv bs.reverse)), x3, x4]) : DrI r md pre O post a n0 m0 T j s
inductive TrI (r md : Nat) (pre O post : List UInt8) (a : Act) (n0 : Nat) (m0 : Nat -> AO) (T : TB) (j : Nat) (s : AS) : Prop where
 | mk (c : _) (bs : _) (x5 : _) (h0 : bs.length = j) (h1 : Re r md pre O post a n0 m0 T c bs s) (h2 : s.loc = [some (.ref r), some (.ref md), some (.int a.at'), some (.int a.cnt), some (.int (nodeOf bs)), x5]) : TrI r md pre O post a n0 m0 T j s
inductive RvI (r md : Nat) (pre O post : List UInt8) (a : Act) (n0 : Nat) (m0 : Nat -> AO) (T : TB) (j : Nat) (s : AS) : Prop where
 | mk (c : _) (bs : _) (x6 : _) (x7 : _) (h0 : bs.length = j) (h1 : Re r md pre O post a n0 m0 T c bs s) (h2 : s.loc = [some (.ref r), some (.ref md), some (.int a.at'), some (.int a.cnt), some (.int (nodeOf bs)), some (.int (lv bs)), x6, x7]) : RvI r md pre O post a n0 m0 T j s
inductive RaQ (r md : Nat) (pre O post : List UInt8) (a : Act) (n0 : Nat) (m0 : Nat -> AO) (T : TB) (v : PV) (s : AS) : Prop where
 | mk (c : _) (bs : _) (h0 : T = .ok (c, bs)) (h1 : bs.length = a.cnt) (h2 : Bits bs) (h3 : v = .int (numOf a bs)) (h4 : Td O c) (h5 : Rs r md pre O post c s) (h6 : MFr [r, md] n0 m0 s.mem) (h7 : n0 <= s.nxt) : RaQ r md pre O post a n0 m0 T v s
section
variable {r md : Nat} {pre O post : List UInt8} {a : Act} {n0 : Nat} {m0 : Nat -> AO} {T : TB} {c : C} {bs : List Int}
theorem re_bit {s : AS} (hl : (pre ++ O ++ post).length <= zLs) (ha : ActOk a) (hw : a.way ≠ 1) (hlt : bs.length < a.cnt) (h : Re r md pre O post a n0 m0 T c bs s) {i : Int} (hi : spt a (nodeOf bs) = some i) :
  (F_RangeReader_bit [.ref r, .ref md, .int i] s).post (fun v s' => ∃ c' b, v = .int b /\ Bit b /\ Re r md pre O post a n0 m0 T c' (bs ++ [b]) s' /\ s'.loc = s.loc) (RdE r md n0 m0 T):=by
 have hnd:=nodeOf_bd h.bits
 have hso:=spt_ok ha hnd.1 hnd.2 hlt
 rw [hi] at hso
 have hbad : ¬ tbad O c (some i):=fun q => nomatch q.1
 have hts:=tellB_s O a (a.cnt - (bs.length + 1)) c bs
 rw [show a.cnt - (bs.length + 1) + 1 = a.cnt - bs.length from ss1 (by lia), h.t, hi, if_neg hbad] at hts
 refine post_mono (rbit_sp hl h.rs h.td hso) ?_ ?_
 ·intro v s' hz2
  refine yN fun hgl => ?_
  obtain ⟨rfl, q1, q2, q3⟩:=hz2
  refine hgl ?_; clear hgl
  rw [if_neg q1] at hts
  refine ⟨_, _, rfl, tbit_bit _ _ _, ⟨bits_snoc h.bits (tbit_bit _ _ _), ?_, td_step h.td hso hbad q1, q2, h.fr.trans h.nx (q3.m fun i hi => hi), yL h.nx q3.2.1⟩, q3.1⟩
  rw [yH]
  exact hts.symm
 ·rintro x s' ⟨rfl, q1, q2, q3, q4⟩
  rw [if_pos q1] at hts
  exact ⟨_, hts, .inl ⟨rfl, rfl⟩, q2, h.fr.trans h.nx q3, yL h.nx q4⟩
theorem Re.loc {l l' : List (Option PV)} {m : Nat -> AO} {n : Nat} (h : Re r md pre O post a n0 m0 T c bs ⟨l, m, n⟩) : Re r md pre O post a n0 m0 T c bs ⟨l', m, n⟩:=⟨h.bits, h.t, h.td, h.rs.loc, h.fr, h.nx⟩
theorem rtree_sp {s : AS} (hl : (pre ++ O ++ post).length <= zLs) (ha : ActOk a) (hw : a.way = 2) (td : Td O c) (rs : Rs r md pre O post c s) {X : Res PV} (hX : F_RangeReader_tree [.ref r, .ref md, .int a.at', .int a.cnt] s = X) :
  X.post (fun v s' => s'.loc = s.loc /\ RaQ r md pre O post a s.nxt s.mem (tellB O a a.cnt c []) v s') (RdE r md s.nxt s.mem (tellB O a a.cnt c [])):=by
 subst hX
 obtain ⟨l, m, n⟩:=s
 have h12:=ha.c
 have hr:=rangeK1 (b:=(a.cnt : Int)) (n:=a.cnt) rfl (by lia)
 unfold F_RangeReader_tree B_RangeReader_tree
 simp only [Zq2, Zg3, Zt4, Zq3, Zq4, Zq5, Zq6, Zq42, Zq57, Zq58, Zq95, Zq96, Zq97, Zq98, bd_ok, rg_some, fnM_ap, yC, yD, yA, yB, yE, yF, List.replicate, Nat.reduceSub, Nat.reduceAdd, hr]
 repeat (first | with_reducible refine post_fin ?_ | with_reducible refine post_seq ?_)
 refine forL_post (Qr:=fun _ _ => False) (TrI r md pre O post a n m (tellB O a a.cnt c [])) ?_ ?_ ?_ (fun _ _ h => h.elim)
 ·exact ⟨c, [], none, rfl, ⟨fun _ h => (by cases h), rfl, td, rs.loc, .refl, yM _⟩, rfl⟩
 ·rintro j ⟨l1, m1, n1⟩ v hv ⟨c1, bs, x5, hbs, re, hloc⟩
  rw [List.map_map] at hv
  obtain ⟨hj, rfl⟩ : j < a.cnt /\ v = .int (j : Int):=range_get hv
  dsimp only at hloc
  subst hloc hbs
  have hi : spt a (nodeOf bs) = some (a.at' + nodeOf bs):=by unfold spt; rw [if_neg (by lia), if_pos (by lia), Int.mul_one]
  have hnd:=nodeOf_bd re.bits
  have hsm:=pow_small hnd.2 (by lia)
  have hshl : intOp .shl (nodeOf bs) 1 = some (nodeOf bs * 2):=by rw [i_shl (by decide) (by decide) (nab (by lia) (by lia))]; rfl
  have e:=re.rs.rd.e
  dsimp only at e
  simp only [Zq2, Zg0, Zg1, Zg2, Zg4, Zu5, Zq3, Zq4, Zq5, Zq6, Zq7, Zq8, Zq35, Zq36, Zq37, Zq42, Zq57, Zh199, bd_ok, ofI_some, ap_binI, i_add, hshl, e]
  repeat (first | with_reducible refine post_fin ?_ | with_reducible refine post_seq ?_)
  refine bd_post (bd_post (re_bit hl ha (by lia) hj re.loc hi) ?_ fun _ _ h => h) (Q':=fun v s' => ∃ c' b, v = .int (nodeOf (bs ++ [b])) /\ Re r md pre O post a n m (tellB O a a.cnt c []) c' (bs ++ [b]) s' /\ s'.loc = [some (.ref r), some (.ref md), some (.int a.at'), some (.int a.cnt), some (.int (nodeOf bs)), some (.int bs.length)]) ?_ fun _ _ h => h
  ·rintro v ⟨l2, m2, n2⟩ ⟨c', b, rfl, hb, re', q⟩
   simp only [ofI_some, ap_binI, i_bor, post_ok, bor_bit hnd.1 hb]
   exact ⟨c', b, by rw [nodeOf_snoc], re', q⟩
  ·rintro v ⟨l2, m2, n2⟩ ⟨c', b, rfl, re', q⟩
   dsimp only at q
   subst q
   simp only [Zt4, Zq56, post_ok]
   exact ⟨c', bs ++ [b], _, by rw [yH]; rfl, re'.loc, rfl⟩
 ·rintro ⟨l1, m1, n1⟩ ⟨c1, bs, x5, hbs, re, hloc⟩
  dsimp only at hloc
  subst hloc
  rw [yG, yG, List.length_range] at hbs
  have hT:=re.t
  rw [hbs, Nat.sub_self] at hT
  have hsh : intOp .shl 1 (a.cnt : Int) = some (2 ^ a.cnt):=by rw [i_shl (by lia) (by lia) (by decide)]; simp
  simp only [Zq2, Zg3, Zg4, Zq7, Zq8, Zq57, Zq59, Zq60, Zq61, bd_ok, ofI_some, ap_binI, i_sub, post_ok, hsh]
  refine ⟨trivial, c1, bs, hT.symm, hbs, re.bits, ?_, re.td, re.rs.loc, re.fr, re.nx⟩
  unfold numOf
  rw [if_neg (by lia), nodeOf_lv, hbs]
  refine congrArg PV.int ?_
  lia
theorem lv_snoc2 (bs : List Int) (b : Int) : lv (bs ++ [b]).reverse = 2 * lv bs.reverse + b:=by
 rw [List.reverse_append]
 show b + 2 * lv bs.reverse = _
 lia
theorem rreverse_sp {s : AS} (hl : (pre ++ O ++ post).length <= zLs) (ha : ActOk a) (hw : a.way = 3) (td : Td O c) (rs : Rs r md pre O post c s) {X : Res PV} (hX : F_RangeReader_reverse [.ref r, .ref md, .int a.at', .int a.cnt] s = X) :
  X.post (fun v s' => s'.loc = s.loc /\ RaQ r md pre O post a s.nxt s.mem (tellB O a a.cnt c []) v s') (RdE r md s.nxt s.mem (tellB O a a.cnt c [])):=by
 subst hX
 obtain ⟨l, m, n⟩:=s
 have h12:=ha.c
 have hr:=rangeK1 (b:=(a.cnt : Int)) (n:=a.cnt) rfl (by lia)
 unfold F_RangeReader_reverse B_RangeReader_reverse
 simp only [Zq2, Zg3, Zu4, Zu5, Zq3, Zq4, Zq5, Zq6, Zq43, Zq57, Zq58, Zq67, Zq68, Zq90, Zq91, Zq92, Zq93, Zq94, Zq95, Zq96, Zq97, Zq98, bd_ok, ap_unpack, rg_some, fnM_ap, yC, yD, yA, yB, yE, yF, List.replicate, if_true, Nat.reduceSub, Nat.reduceAdd, hr]
 repeat (first | with_reducible refine post_fin ?_ | with_reducible refine post_seq ?_)
 refine forL_post (Qr:=fun _ _ => False) (RvI r md pre O post a n m (tellB O a a.cnt c [])) ?_ ?_ ?_ (fun _ _ h => h.elim)
 ·exact ⟨c, [], none, none, rfl, ⟨fun _ h => (by cases h), rfl, td, rs.loc, .refl, yM _⟩, rfl⟩
 ·rintro j ⟨l1, m1, n1⟩ v hv ⟨c1, bs, x6, x7, hbs, re, hloc⟩
  rw [List.map_map] at hv
  obtain ⟨hj, rfl⟩ : j < a.cnt /\ v = .int (j : Int):=range_get hv
  dsimp only at hloc
  subst hloc hbs
  have hi : spt a (nodeOf bs) = some (a.at' + nodeOf bs):=by unfold spt; rw [if_neg (by lia), if_pos (by lia), Int.mul_one]
  have hnd:=nodeOf_bd re.bits
  have hsm:=pow_small hnd.2 (by lia)
  have hlv:=lv_bd re.bits
  have hshl : intOp .shl (nodeOf bs) 1 = some (nodeOf bs * 2):=by rw [i_shl (by decide) (by decide) (nab (by lia) (by lia))]; rfl
  have e:=re.rs.rd.e
  dsimp only at e
  simp only [Zg0, Zg1, Zg2, Zg4, Zu6, Zq3, Zq4, Zq5, Zq6, Zq7, Zq8, Zq35, Zq36, Zq37, Zq42, Zq57, Zh199, bd_ok, ofI_some, ap_binI, i_add, e]
  repeat (first | with_reducible refine post_fin ?_ | with_reducible refine post_seq ?_)
  refine bd_post (re_bit hl ha (by lia) hj re.loc hi) ?_ fun _ _ h => h
  rintro v ⟨l2, m2, n2⟩ ⟨c', b, rfl, hb, re', q⟩
  dsimp only at q
  subst q
  have hshb : intOp .shl b (bs.length : Int) = some (b * 2 ^ bs.length):=by
   rw [i_shl (by lia) (by lia) (by rcases hb with rfl | rfl <;> decide)]; simp
  have hor : Builtin.bitOr (lv bs) (b * 2 ^ bs.length) = lv (bs ++ [b]):=by
   rw [bitOr_comm, bor_add (by rcases hb with rfl | rfl <;> decide) hlv.1 hlv.2, lv_append]
   lia
  simp only [Zq2, Zg4, Zg5, Zg6, Zg7, Zt4, Zt5, Zt7, Zq7, Zq8, Zq42, Zq47, Zq48, Zq49, Zq56, Zq57, Zq58, bd_ok, ofI_some, ap_binI, i_bor, post_ok, hshl, bor_bit hnd.1 hb, hshb, hor]
  exact ⟨c', bs ++ [b], _, _, by rw [yH]; rfl, re'.loc, by rw [nodeOf_snoc]⟩
 ·rintro ⟨l1, m1, n1⟩ ⟨c1, bs, x6, x7, hbs, re, hloc⟩
  dsimp only at hloc
  subst hloc
  rw [yG, yG, List.length_range] at hbs
  have hT:=re.t
  rw [hbs, Nat.sub_self] at hT
  simp only [Zg5, Zq57, Zq59, Zq60, Zq61, bd_ok, post_ok]
  refine ⟨trivial, c1, bs, hT.symm, hbs, re.bits, ?_, re.td, re.rs.loc, re.fr, re.nx⟩
  unfold numOf
  rw [if_pos hw]
theorem lv_nonneg {bs : List Int} (h : Bits bs) : 0 <= lv bs.reverse /\ lv bs.reverse < 2 ^ bs.length:=by
 have:=lv_bd (l:=bs.reverse) fun b hb => h b (List.mem_reverse.mp hb)
 rwa [List.length_reverse] at this
theorem rdirect_sp {s : AS} (hl : (pre ++ O ++ post).length <= zLs) (ha : ActOk a) (hw : a.way = 1) (td : Td O c) (rs : Rs r md pre O post c s) {X : Res PV} (hX : F_RangeReader_direct [.ref r, .int a.cnt] s = X) :
  X.post (fun v s' => s'.loc = s.loc /\ RaQ r md pre O post a s.nxt s.mem (tellB O a a.cnt c []) v s') (RdE r md s.nxt s.mem (tellB O a a.cnt c [])):=by
 subst hX
 obtain ⟨l, m, n⟩:=s
 have h12:=ha.c
 have hr:=rangeK1 (b:=(a.cnt : Int)) (n:=a.cnt) rfl (by lia)
 unfold F_RangeReader_direct B_RangeReader_direct
 simp only [Zq2, Zg1, Zt2, Zq3, Zq4, Zq5, Zq6, Zq42, Zq57, Zq58, Zq95, Zq96, Zq97, Zq98, bd_ok, rg_some, fnM_ap, yC, yD, yA, yB, yE, yF, List.replicate, Nat.reduceSub, Nat.reduceAdd, hr]
 repeat (first | with_reducible refine post_fin ?_ | with_reducible refine post_seq ?_)
 refine forL_post (Qr:=fun _ _ => False) (DrI r md pre O post a n m (tellB O a a.cnt c [])) ?_ ?_ ?_ (fun _ _ h => h.elim)
 ·exact ⟨c, [], none, none, rfl, ⟨fun _ h => (by cases h), rfl, td, rs.loc, .refl, yM _⟩, rfl⟩
 ·rintro j ⟨l1, m1, n1⟩ v hv ⟨c1, bs, x3, x4, hbs, re, hloc⟩
  rw [List.map_map] at hv
  obtain ⟨hj, rfl⟩ : j < a.cnt /\ v = .int (j : Int):=range_get hv
  dsimp only at hloc
  subst hloc hbs
  have hi : spt a (nodeOf bs) = none:=if_pos hw
  have hlv:=lv_nonneg re.bits
  have hts:=tellB_s O a (a.cnt - (bs.length + 1)) c1 bs
  rw [show a.cnt - (bs.length + 1) + 1 = a.cnt - bs.length from ss1 (by lia), re.t, hi] at hts
  have e:=re.rs.rd.e
  have em:=re.rs.em
  dsimp only at e em
  have td1:=re.td
  have hR1:=td1.g.R1
  have hlo:=td1.lo
  have hhi:=td1.hi
  have hsh : intOp .shr c1.R 1 = some (c1.R / 2):=by rw [i_shr (by decide)]; rfl
  have hp : prt c1.R c1.ms none = c1.R / 2:=rfl
  have hsmall : ∀ j : Nat, j <= 20 -> (2 : Int) ^ j <= 1048576:=by decide
  have hlv3:=hsmall bs.length (by lia)
  have hshl : intOp .shl (lv bs.reverse) 1 = some (lv bs.reverse * 2):=by rw [i_shl (by decide) (by decide) (nab (by lia) (by lia))]; rfl
  have hbv : (if c1.R / 2 <= wh O c1 - c1.N then (1 : Int) else 0) = tbit O c1 none:=by
   unfold tbit; simp [hp]
  have hms : ∀ (N1 R1 : Int), (nrm N1 R1 c1.k c1.ms).ms = c1.ms:=fun N1 R1 => by unfold nrm; split <;> rfl
  by_cases hbad : tbad O c1 none
  ·rw [if_pos hbad] at hts
   have h2 : 2 * (c1.R / 2) <= wh O c1 - c1.N:=hbad.2
   have hb1 : tbit O c1 none = 1:=by
    unfold tbit; rw [if_pos (by rw [hp]; lia)]
   have h11 : ((1 : Int) == 1) = true:=rfl
   have h3 : (c1.R / 2 <= wh O c1 - c1.N - c1.R / 2) = True:=eq_true (by lia)
   rw [hb1] at hbv
   simp only [Zq2, Zg0, Zg4, Zt4, Zu3, Zq11, Zq12, Zq24, Zq25, Zq41, Zq42, Zq43, Zq50, Zq51, Zq52, Zq53, Zq54, Zq55, Zq57, Zq58, Za199_2, Zb199_2, Za199_10, Zb199_10, Zcm1, Zcm6, bd_ok, bd_exc, ofI_some, ap_cmpI, ap_attr, ap_setAttr, ap_sRaise, zus, i_sub, post_exc, ifK_t, decide_eq_true_eq, decide_true, rf, e, hsh, hbv, h11, h3]
   refine ⟨_, hts, .inr ⟨rfl, rfl⟩, ?_, ?_, re.nx⟩
   ·exact (zun re.rs.ne).trans ((zun re.rs.ne).trans em)
   ·refine re.fr.trans re.nx ?_
    repeat' first | exact MFr.refl | (refine MFr.own ?_ (.head _)) | (refine MFr.own ?_ (.tail _ (.head _))) | (refine MFr.own ?_ (.tail _ (.tail _ (.head _)))) | (refine MFr.new ?_ (by lia))
  ·rw [if_neg hbad] at hts
   obtain ⟨t1, t2⟩:=td_mid td1 (sp:=none) trivial hbad
   have hbb:=tbit_bit O c1 none
   have hstep:=td_step td1 (sp:=none) trivial hbad
   have goE : goC c1 none (tbit O c1 none) = nrm (stN c1 none (tbit O c1 none)) (c1.R / 2) c1.k c1.ms:=rfl
   rw [goE] at hts hstep
   have tail : ∀ (m2 : Nat -> AO) (l2 : List (Option PV)), m2 r = .inst 199 (rf (pre ++ O ++ post) (pre.length + O.length) pre.length (pre.length + c1.k + 5) (c1.R / 2) (wh O c1 - stN c1 none (tbit O c1 none))) -> m2 md = .list (c1.ms.map .int) -> MFr [r, md] n1 m1 m2 ->
     (F_RangeReader_fill [.ref r] ⟨l2, m2, n1⟩).post (fun v s' => v = .none /\ s'.loc = l2 /\ ∃ c', Re r md pre O post a n m (tellB O a a.cnt c []) c' (bs ++ [tbit O c1 none]) ⟨l2, s'.mem, s'.nxt⟩) (RdE r md n m (tellB O a a.cnt c [])):=fun m2 l2 a1 a2 a3 => by
    refine post_mono (rfill_sp c1.ms hl ⟨re.rs.rd.lt, a1⟩ td1.len t1 t2) ?_ ?_
    ·rintro v s' ⟨rfl, q1, q2, q3⟩
     rw [if_neg q1] at hts
     refine ⟨rfl, q3.1, _, bits_snoc re.bits hbb, by rw [yH]; exact hts.symm, hstep q1, ⟨⟨q2.lt, q2.e⟩, yK re.rs.lm q3.2.1, re.rs.ne, ?_⟩, re.fr.trans re.nx (a3.trans (yM _) (q3.m sub1)), yL re.nx q3.2.1⟩
     rw [hms]
     exact (q3.2.2 md re.rs.lm (by simp [re.rs.ne])).trans a2
    ·rintro x s' ⟨rfl, q1, q2, q3⟩
     rw [if_pos q1] at hts
     refine ⟨_, hts, .inl ⟨rfl, rfl⟩, ?_, re.fr.trans re.nx (a3.trans (yM _) fun j hj hn => q2 j hj fun q => hn (sub1 j q)), yL re.nx q3⟩
     rw [hms]
     exact (q2 md re.rs.lm (by simp [re.rs.ne])).trans a2
   have hbd : ¬ 2 * (c1.R / 2) <= wh O c1 - c1.N:=fun q => hbad ⟨rfl, q⟩
   generalize tbit O c1 none = b at *
   have hb01 : b = 0 \/ b = 1:=hbb
   rcases hb01 with rfl | rfl
   ·have eN : stN c1 none 0 = c1.N:=by unfold stN; rw [Int.mul_zero, Int.add_zero]
    have h01 : ((0 : Int) == 1) = false:=rfl
    simp only [Zq2, Zg0, Zg2, Zg4, Zt2, Zt4, Zu3, Zq3, Zq7, Zq8, Zq11, Zq12, Zq24, Zq25, Zq35, Zq36, Zq37, Zq41, Zq42, Zq43, Zq50, Zq51, Zq52, Zq53, Zq54, Zq55, Zq56, Zq57, Zq58, Zq62, Za199_2, Zb199_2, Za199_10, Zh199, Zcm1, Zcm6, bd_ok, ofI_some, ap_binI, ap_cmpI, ap_attr, ap_setAttr, zus, i_bor, ifK_f, decide_eq_true_eq, rf, e, hsh, hbv, h01, hshl, bor_one hlv.1 hbb]
    repeat (first | with_reducible refine post_fin ?_ | with_reducible refine post_seq ?_)
    refine bd_post (tail _ _ ?_ ((zun re.rs.ne).trans em) ?_) ?_ fun _ _ h => h
    ·rw [eN]; exact zus _ _ _
    ·repeat' first | exact MFr.refl | (refine MFr.own ?_ (.head _)) | (refine MFr.own ?_ (.tail _ (.head _))) | (refine MFr.own ?_ (.tail _ (.tail _ (.head _)))) | (refine MFr.new ?_ (by lia))
    ·rintro v ⟨l2, m2, n2⟩ ⟨rfl, q1, c', re'⟩
     dsimp only at q1
     subst q1
     simp only [Zq56, Zq63, post_ok]
     exact ⟨c', bs ++ [0], _, _, by rw [yH]; rfl, re', by rw [lv_snoc2]⟩
   ·have eN : stN c1 none 1 = c1.N + c1.R / 2:=by unfold stN; rw [Int.mul_one]; rfl
    have h11 : ((1 : Int) == 1) = true:=rfl
    have h3 : (c1.R / 2 <= wh O c1 - c1.N - c1.R / 2) = False:=eq_false (by lia)
    simp only [Zq2, Zg0, Zg2, Zg4, Zt2, Zt4, Zu3, Zq3, Zq7, Zq8, Zq11, Zq12, Zq24, Zq25, Zq35, Zq36, Zq37, Zq41, Zq42, Zq43, Zq50, Zq51, Zq52, Zq53, Zq54, Zq55, Zq56, Zq57, Zq58, Zq62, Za199_2, Zb199_2, Za199_10, Zb199_10, Zh199, Zcm1, Zcm6, bd_ok, ofI_some, ap_binI, ap_cmpI, ap_attr, ap_setAttr, zus, i_sub, i_bor, ifK_t, ifK_f, decide_eq_true_eq, decide_false, rf, e, hsh, hbv, h11, h3, hshl, bor_one hlv.1 hbb]
    repeat (first | with_reducible refine post_fin ?_ | with_reducible refine post_seq ?_)
    refine bd_post (tail _ _ ?_ ((zun re.rs.ne).trans ((zun re.rs.ne).trans em)) ?_) ?_ fun _ _ h => h
    ·rw [eN, show wh O c1 - (c1.N + c1.R / 2) = wh O c1 - c1.N - c1.R / 2 by lia]; exact zus _ _ _
    ·repeat' first | exact MFr.refl | (refine MFr.own ?_ (.head _)) | (refine MFr.own ?_ (.tail _ (.head _))) | (refine MFr.own ?_ (.tail _ (.tail _ (.head _)))) | (refine MFr.new ?_ (by lia))
    ·rintro v ⟨l2, m2, n2⟩ ⟨rfl, q1, c', re'⟩
     dsimp only at q1
     subst q1
     simp only [Zq56, Zq63, post_ok]
     exact ⟨c', bs ++ [1], _, _, by rw [yH]; rfl, re', by rw [lv_snoc2]⟩
 ·rintro ⟨l1, m1, n1⟩ ⟨c1, bs, x3, x4, hbs, re, hloc⟩
  dsimp only at hloc
  subst hloc
  rw [yG, yG, List.length_range] at hbs
  have hT:=re.t
  rw [hbs, Nat.sub_self] at hT
  simp only [Zg2, Zq57, Zq59, Zq60, Zq61, bd_ok, post_ok]
  refine ⟨trivial, c1, bs, hT.symm, hbs, re.bits, ?_, re.td, re.rs.loc, re.fr, re.nx⟩
  unfold numOf
  rw [if_neg (by lia)]
theorem RdE.loc {x : Nat} {s : AS} {l : List (Option PV)} (h : RdE r md n0 m0 T x s) : RdE r md n0 m0 T x ⟨l, s.mem, s.nxt⟩:=h
theorem read_sp {s : AS} (hl : (pre ++ O ++ post).length <= zLs) (ha : ActOk a) (td : Td O c) (rs : Rs r md pre O post c s) :
  (F_law_read [.ref r, .ref md, actV a] s).post (fun v s' => s'.loc = s.loc /\ RaQ r md pre O post a s.nxt s.mem (tellB O a a.cnt c []) v s') (fun x s' => s'.loc = s.loc /\ RdE r md s.nxt s.mem (tellB O a a.cnt c []) x s'):=by
 obtain ⟨l, m, n⟩:=s
 have hw:=ha.w
 have e:=rs.rd.e
 dsimp only at e
 have w4:=way4 hw
 have out : ∀ (v : PV) (s' : AS) (l' : List (Option PV)), (s'.loc = l' /\ RaQ r md pre O post a n m (tellB O a a.cnt c []) v s') -> RaQ r md pre O post a n m (tellB O a a.cnt c []) v ⟨l, s'.mem, s'.nxt⟩:=fun v s' l' ⟨_, c', bs, b1, b2, b3, b4, b5, b6, b7, b8⟩ => ⟨c', bs, b1, b2, b3, b4, b5, b6.loc, b7, b8⟩
 unfold F_law_read B_law_read
 rcases w4 with q | q | q | q
 ·have hcnt:=ha.c0 q
  have re : Re r md pre O post a n m (tellB O a a.cnt c []) c [] ⟨[some (.ref r), some (.ref md), some (actV a)], m, n⟩:=⟨fun _ h => (by cases h), rfl, td, rs.loc, .refl, yM _⟩
  have hi : spt a (nodeOf []) = some a.at':=by unfold spt; rw [if_neg (by lia), if_neg (by lia), Int.mul_zero, Int.add_zero]
  simp [Zq2, Zg0, Zg1, Zg2, Zq3, Zq4, Zq5, Zq6, Zq11, Zq12, Zq35, Zq36, Zq37, Zq55, Zq57, Zq60, Zq65, Zq66, Zh199, Zcm1, bd_ok, ap_cmpI, fnM_ap, ifK_t, Nat.reduceAdd, act_0, act_1, q, e]
  repeat (first | with_reducible refine post_fin ?_ | with_reducible refine post_seq ?_)
  refine bd_post (re_bit hl ha (by lia) (by rw [hcnt]; decide) re hi) ?_ fun x s' h => ⟨rfl, RdE.loc h⟩
  intro v hz1 hz2
  refine yN fun hgl => ?_
  obtain ⟨l2, m2, n2⟩:=hz1
  obtain ⟨c', b, rfl, hb, re', q1⟩:=hz2
  refine hgl ?_; clear hgl
  simp only [Zq11, Zq55, Zq56, Zq57, Zq61, Zq65, post_ok]
  have hT:=re'.t
  rw [hcnt] at hT
  refine ⟨trivial, c', [b], ?_, by rw [hcnt]; rfl, re'.bits, ?_, re'.td, re'.rs.loc, re'.fr, re'.nx⟩
  ·rw [hcnt]; exact hT.symm
  ·unfold numOf
   rw [if_neg (by lia)]
   show PV.int b = .int (b + 2 * 0)
   rw [Int.mul_zero, Int.add_zero]
 ·simp [Zq2, Zg0, Zg2, Zq3, Zq4, Zq5, Zq6, Zq11, Zq12, Zq35, Zq36, Zq37, Zq55, Zq56, Zq57, Zq58, Zq60, Zq65, Zq66, Zh199, Zcm1, bd_ok, ap_cmpI, fnM_ap, ifK_t, ifK_f, Nat.reduceAdd, act_0, act_2, q, e]
  repeat (first | with_reducible refine post_fin ?_ | with_reducible refine post_seq ?_)
  generalize hX : F_RangeReader_direct [.ref r, .int a.cnt] ⟨[some (.ref r), some (.ref md), some (actV a)], m, n⟩ = X
  have hx:=rdirect_sp hl ha q td rs.loc hX
  refine bd_post hx ?_ fun x s' h => ⟨rfl, RdE.loc h⟩
  intro v s' h'
  have o:=out v s' _ h'
  simp only [Zq11, Zq26, Zq56, Zq57, Zq60, Zq61, Zq65, post_ok]
  exact ⟨trivial, o⟩
 ·simp [Zq2, Zg0, Zg1, Zg2, Zq3, Zq4, Zq5, Zq6, Zq11, Zq12, Zq26, Zq35, Zq36, Zq37, Zq55, Zq56, Zq57, Zq58, Zq60, Zq65, Zq66, Zh199, Zcm1, bd_ok, ap_cmpI, fnM_ap, ifK_t, ifK_f, Nat.reduceAdd, act_0, act_1, act_2, q, e]
  repeat (first | with_reducible refine post_fin ?_ | with_reducible refine post_seq ?_)
  generalize hX : F_RangeReader_tree [.ref r, .ref md, .int a.at', .int a.cnt] ⟨[some (.ref r), some (.ref md), some (actV a)], m, n⟩ = X
  have hx:=rtree_sp hl ha q td rs.loc hX
  refine bd_post hx ?_ fun x s' h => ⟨rfl, RdE.loc h⟩
  intro v s' h'
  have o:=out v s' _ h'
  simp only [Zq56, Zq61, post_ok]
  exact ⟨trivial, o⟩
 ·simp [Zq2, Zg0, Zg1, Zg2, Zq3, Zq4, Zq5, Zq6, Zq11, Zq12, Zq26, Zq35, Zq36, Zq37, Zq55, Zq56, Zq57, Zq58, Zq60, Zq65, Zq66, Zh199, Zcm1, bd_ok, ap_cmpI, fnM_ap, ifK_f, Nat.reduceAdd, act_0, act_1, act_2, q, e]
  repeat (first | with_reducible refine post_fin ?_ | with_reducible refine post_seq ?_)
  generalize hX : F_RangeReader_reverse [.ref r, .ref md, .int a.at', .int a.cnt] ⟨[some (.ref r), some (.ref md), some (actV a)], m, n⟩ = X
  have hx:=rreverse_sp hl ha q td rs.loc hX
  refine bd_post hx ?_ fun x s' h => ⟨rfl, RdE.loc h⟩
  intro v s' h'
  have o:=out v s' _ h'
  simp only [Zq56, Zq61, post_ok]
  exact ⟨trivial, o⟩
end
noncomputable def RinE (r : Nat) (O : List UInt8) (s : AS) (x : Nat) (s' : AS) : Prop:=s'.loc = s.loc /\ MFr [r] s.nxt s.mem s'.mem /\ s.nxt <= s'.nxt /\
 ((x = 52 /\ (O = [] \/ ((O.getD 0 0).toNat = 0 /\ O.length < 5))) \/ (x = 76 /\ O ≠ [] /\ (O.getD 0 0).toNat ≠ 0) \/ (x = 64 /\ 5 <= O.length /\ (O.getD 0 0).toNat = 0 /\ vb (O.take 5) = 4294967295))
noncomputable def RinI (r : Nat) (pre O post : List UInt8) (n : Nat) (m : Nat -> AO) (j : Nat) (s : AS) : Prop :=
 j + 1 <= O.length /\ s.mem r = .inst 199 (rf (pre ++ O ++ post) (pre.length + O.length) pre.length (pre.length + (j + 1)) 4294967295 (vb (O.take (j + 1)))) /\ MFr [r] n m s.mem /\ n <= s.nxt /\ ∃ x, s.loc = [some (.ref r), some (.byt (pre ++ O ++ post)), some (.int pre.length), some (.int ((pre.length + O.length : Nat) : Int)), x]
theorem rinit_sp {r : Nat} {pre O post : List UInt8} {s : AS} (hl : (pre ++ O ++ post).length <= 60000) (lt : r < s.nxt) (e : s.mem r = .inst 199 []) :
  (F_RangeReader_init [.ref r, .byt (pre ++ O ++ post), .int pre.length, .int ((pre.length + O.length : Nat) : Int)] s).post (fun v s' => v = .none /\ 5 <= O.length /\ (O.getD 0 0).toNat = 0 /\ vb (O.take 5) ≠ 4294967295 /\ Rd r pre O post c0.R (wh O c0 - c0.N) 0 s' /\ Fr [r] s s') (RinE r O s):=by
 obtain ⟨l, m, n⟩:=s
 dsimp only at lt e
 have L : zLs = 1048576:=by decide
 have hl' : (pre ++ O ++ post).length <= zLs:=by lia
 have hll : (pre ++ O ++ post).length = pre.length + O.length + post.length:=by rw [yH, yH]
 have hc1 : ((0 : Int) <= (pre.length : Int)) = True:=eq_true (by lia)
 have hc2 : ((pre.length : Int) <= ((pre.length + O.length : Nat) : Int)) = True:=eq_true (by lia)
 have hc3 : (((pre.length + O.length : Nat) : Int) <= ((pre ++ O ++ post).length : Int)) = True:=eq_true (by lia)
 have hr:=rangeK1 (b:=4) (n:=4) rfl (by lia)
 generalize hm1 : upd (upd (upd (upd (upd (upd m r (.inst 199 [(6, .byt (pre ++ O ++ post))])) r (.inst 199 [(6, .byt (pre ++ O ++ post)), (7, .int ((pre.length + O.length : Nat) : Int))])) r (.inst 199 [(6, .byt (pre ++ O ++ post)), (7, .int ((pre.length + O.length : Nat) : Int)), (8, .int pre.length)])) r (.inst 199 [(6, .byt (pre ++ O ++ post)), (7, .int ((pre.length + O.length : Nat) : Int)), (8, .int pre.length), (9, .int pre.length)])) r (.inst 199 [(6, .byt (pre ++ O ++ post)), (7, .int ((pre.length + O.length : Nat) : Int)), (8, .int pre.length), (9, .int pre.length), (2, .int 4294967295)])) r (.inst 199 [(6, .byt (pre ++ O ++ post)), (7, .int ((pre.length + O.length : Nat) : Int)), (8, .int pre.length), (9, .int pre.length), (2, .int 4294967295), (10, .int 0)]) = m1
 have e1 : m1 r = .inst 199 (rf (pre ++ O ++ post) (pre.length + O.length) pre.length pre.length 4294967295 0):=by rw [<- hm1]; exact zus _ _ _
 have f1 : MFr [r] n m m1:=by
  rw [<- hm1]
  repeat' first | exact MFr.refl | (refine MFr.own ?_ (.head _)) | (refine MFr.own ?_ (.tail _ (.head _))) | (refine MFr.own ?_ (.tail _ (.tail _ (.head _)))) | (refine MFr.new ?_ (by lia))
 unfold F_RangeReader_init B_RangeReader_init fnD
 by_cases hnil : O.length = 0
 ·have ho:=fun l n => octet_no (l:=l) (n:=n) e1 (by lia)
  simp only [Zq2, Zg0, Zg1, Zg2, Zg3, Zq3, Zq11, Zq13, Zq14, Zq18, Zq19, Zq26, Zq29, Zq30, Zq31, Zq32, Zq33, Zq35, Zq36, Zq37, Zq41, Zq43, Zq44, Zq45, Zq46, Zq55, Zq56, Zq57, Zq58, Zc199_0, Zc199_1, Zc199_2, Zc199_3, Zc199_4, Zc199_5, Zd2, Zd3, Zn2, Zcm4, bd_ok, bd_exc, ap_cmpI, ap_attr, ap_setAttr, ap_eBytes, ap_bytesB, ap_eLen, zus, fnM_ap, fin_exc, post_exc, ifK_t, ifK_f, ne_eq, Nat.reduceSub, decide_true, yC, yD, yA, yB, yE, yF, List.replicate, Nat.reduceSub, Nat.reduceAdd, e, len_byt hl', hc1, hc2, hc3, hm1, ho, mth_e e1, List.drop_succ_cons, List.drop_nil, List.append_nil, Bool.not_true]
  exact ⟨rfl, f1, yM _, .inl ⟨rfl, .inl (List.eq_nil_of_length_eq_zero hnil)⟩⟩
 ·have hne : O ≠ []:=fun q => hnil (by rw [q]; rfl)
  have ho:=fun l n => octet_ok (l:=l) (n:=n) e1 (by lia) (by lia) hl'
  have hg:=getD_mid (pre:=pre) (O:=O) (post:=post) (k:=0) (by lia)
  rw [Nat.add_zero] at hg
  rw [hg] at ho
  have hv1 : vb (O.take 1) = ((O.getD 0 0).toNat : Int):=by
   have h0 : 0 < O.length:=by lia
   have e5 : O.take 1 = [O[0]]:=by
    rw [List.take_one]
    simp [List.head?_eq_getElem?, yI h0]
   rw [e5, yJ, yI h0]
   simp [vb]
  generalize hO0 : (O.getD 0 0).toNat = o0 at *
  by_cases hz : o0 = 0
  ·subst hz
   have hz1 : (((0 : Nat) : Int) != 0) = false:=rfl
   have hsub : (5 : Int) - 1 = 4:=rfl
   simp only [Zq2, Zg0, Zg1, Zg2, Zg3, Zq3, Zq4, Zq5, Zq6, Zq7, Zq8, Zq11, Zq12, Zq13, Zq14, Zq18, Zq19, Zq26, Zq29, Zq30, Zq31, Zq32, Zq33, Zq35, Zq36, Zq37, Zq41, Zq43, Zq44, Zq45, Zq46, Zq55, Zq56, Zq57, Zq58, Zq95, Zq96, Zq97, Zq98, Zc199_0, Zc199_1, Zc199_2, Zc199_3, Zc199_4, Zc199_5, Zd2, Zd3, Zn2, Zcm2, Zcm4, bd_ok, ofI_some, ap_binI, ap_cmpI, ap_attr, ap_setAttr, ap_eBytes, ap_bytesB, ap_eLen, rg_some, zus, i_sub, fnM_ap, ifK_t, ifK_f, ne_eq, Nat.reduceSub, decide_true, yC, yD, yA, yB, yE, yF, List.replicate, Nat.reduceSub, Nat.reduceAdd, e, len_byt hl', hc1, hc2, hc3, hm1, ho, mth_e e1, hz1, hsub, hr, List.drop_succ_cons, List.drop_nil, List.append_nil, Bool.not_true]
   repeat (first | with_reducible refine post_fin ?_ | with_reducible refine post_seq ?_)
   refine forL_post (Qr:=fun _ _ => False) (RinI r pre O post n m) ?_ ?_ ?_ (fun _ _ h => h.elim)
   ·refine ⟨by lia, (zus _ _ _).trans ?_, f1.own (.head _), yM _, none, rfl⟩
    rw [hv1]
    rfl
   ·rintro j ⟨l2, m2, n2⟩ v hv ⟨hj1, a1, a2, a3, x, hloc⟩
    rw [List.map_map] at hv
    obtain ⟨hj, rfl⟩ : j < 4 /\ v = .int (j : Int):=range_get hv
    dsimp only at a1 a2 a3 hloc
    subst hloc
    have hvb:=vb_bd (O.take (j + 1))
    have hlt5 : ∀ i : Nat, i <= 5 -> (256 : Int) ^ i < 2 ^ 63:=by decide
    have hsm:=hlt5 (O.take (j + 1)).length (by rw [List.length_take]; lia)
    have hshl : intOp .shl (vb (O.take (j + 1))) 8 = some (vb (O.take (j + 1)) * 256):=i_shl (by decide) (by decide) (nab (by lia) (by lia))
    by_cases hend : O.length <= j + 1
    ·have ho2:=fun l n => octet_no (l:=l) (n:=n) a1 (by lia)
     have a1':=a1
     unfold rf at a1'
     simp only [Zq2, Zg0, Zu4, Zq3, Zq7, Zq8, Zq35, Zq36, Zq37, Zq41, Zq44, Zq57, Za199_10, Zh199, bd_ok, bd_exc, ofI_some, ap_binI, ap_attr, post_exc, a1', hshl, ho2]
     exact ⟨rfl, a2, a3, .inl ⟨rfl, .inr ⟨hO0, by lia⟩⟩⟩
    ·have hj2 : j + 1 < O.length:=by lia
     have ho2:=fun l n => octet_ok (l:=l) (n:=n) a1 (by lia) (by lia) hl'
     rw [getD_mid hj2] at ho2
     have hx:=(O.getD (j + 1) 0).toNat_lt
     have hb:=bor_oct (v:=vb (O.take (j + 1))) (o:=((O.getD (j + 1) 0).toNat : Int)) (by lia) (by lia) (by lia)
     have a1':=a1
     unfold rf at a1' ho2
     simp only [Zq2, Zg0, Zu4, Zq3, Zq7, Zq8, Zq35, Zq36, Zq37, Zq41, Zq43, Zq44, Zq45, Zq46, Zq56, Zq57, Zq58, Za199_10, Zb199_10, Zh199, bd_ok, ofI_some, ap_binI, ap_attr, ap_setAttr, zus, i_bor, post_ok, a1', hshl, ho2, hb]
     refine ⟨by lia, (zus _ _ _).trans ?_, (a2.own (.head _)).own (.head _), a3, _, rfl⟩
     have hw : vb (O.take (j + 1 + 1)) = vb (O.take (j + 1)) * 256 + ((O.getD (j + 1) 0).toNat : Int):=by
      rw [vb_take hj2, yJ, yI hj2]
      rfl
     rw [hw]
     rfl
   ·rintro ⟨l2, m2, n2⟩ ⟨hj1, a1, a2, a3, x, hloc⟩
    dsimp only at a1 a2 a3 hloc
    subst hloc
    rw [yG, yG, List.length_range] at hj1 a1
    have a1':=a1
    unfold rf at a1'
    have h5 : 5 <= O.length:=hj1
    have a1'' : m2 r = .inst 199 [(6, .byt (pre ++ O ++ post)), (7, .int ((pre.length + O.length : Nat) : Int)), (8, .int (pre.length : Int)), (9, .int ((pre.length + 5 : Nat) : Int)), (2, .int 4294967295), (10, .int (vb (O.take 5)))]:=a1'
    by_cases hcd : vb (O.take 5) = 4294967295
    ·have hq : (vb (O.take 5) == 4294967295) = true:=by simpa using hcd
     simp only [Zg0, Zq11, Zq12, Zq41, Zq55, Zq57, Za199_2, Za199_10, Zcm1, bd_ok, bd_exc, ap_cmpI, ap_attr, ap_sRaise, post_exc, ifK_t, a1'', hq]
     exact ⟨rfl, a2, a3, .inr (.inr ⟨rfl, h5, hO0, hcd⟩)⟩
    ·have hq : (vb (O.take 5) == 4294967295) = false:=by simpa using hcd
     simp only [Zg0, Zq11, Zq12, Zq41, Zq55, Zq56, Zq57, Zq58, Za199_2, Za199_10, Zcm1, bd_ok, ap_cmpI, ap_attr, post_ok, ifK_f, a1'', hq]
     refine ⟨trivial, h5, trivial, hcd, ⟨yK lt a3, ?_⟩, MFr.fr a2 a3⟩
     have hw : wh O c0 - c0.N = vb (O.take 5):=by show vb (O.take 5) - 0 = _; lia
     rw [hw]
     exact a1''
  ·have hz1 : ((o0 : Int) != 0) = true:=by simp; omega
   simp only [Zq2, Zg0, Zg1, Zg2, Zg3, Zq3, Zq11, Zq12, Zq13, Zq14, Zq18, Zq19, Zq26, Zq29, Zq30, Zq31, Zq32, Zq33, Zq35, Zq36, Zq37, Zq41, Zq43, Zq44, Zq45, Zq46, Zq55, Zq56, Zq57, Zq58, Zc199_0, Zc199_1, Zc199_2, Zc199_3, Zc199_4, Zc199_5, Zd2, Zd3, Zn2, Zcm2, Zcm4, bd_ok, bd_exc, ap_cmpI, ap_attr, ap_setAttr, ap_sRaise, ap_eBytes, ap_bytesB, ap_eLen, zus, fnM_ap, fin_exc, post_exc, ifK_t, ifK_f, ne_eq, Nat.reduceSub, decide_true, yC, yD, yA, yB, yE, yF, List.replicate, Nat.reduceSub, Nat.reduceAdd, e, len_byt hl', hc1, hc2, hc3, hm1, ho, mth_e e1, hz1, List.drop_succ_cons, List.drop_nil, List.append_nil, Bool.not_true]
   exact ⟨rfl, f1.own (.head _), yM _, .inr (.inl ⟨rfl, hne, by rw [hO0]; exact hz⟩)⟩
theorem post_tr {r : Res Fl} {hs : List (Nat × List S)} {Q : Fl -> AS -> Prop} {E : Nat -> AS -> Prop} (h : r.post Q (fun C s => (C = 52 \/ C = 64 \/ C = 76 \/ C = 88) /\ (sTry.go C hs s).post Q E)) : (r.tr hs).post Q E:=by
 cases r with
 | ok f s => exact h
 | exc C s =>
  obtain ⟨h1, h2⟩:=h
  show (if C = 52 \/ C = 64 \/ C = 76 \/ C = 88 then sTry.go C hs s else .stuck "another exception" : Res Fl).post Q E
  rw [if_pos h1]
  exact h2
 | stuck => exact h
theorem ap_addB {x y : List UInt8} (h : x.length + y.length <= zLs) (s : AS) : binM .add (.byt x) (.byt y) s = .ok (.byt (x ++ y)) s:=if_pos h
theorem fresh_ap2 (l : List (Option PV)) (m : Nat -> AO) (n : Nat) : F_fresh_models [.int 80] ⟨l, m, n⟩ = .ok (.ref (n + 1)) ⟨l, upd (upd m n (.list [.int 1024])) (n + 1) (.list (c0.ms.map .int)), n + 2⟩:=fresh_ap _
theorem used_ap {r : Nat} {D : List UInt8} {stop start p : Nat} {sp cd : Int} {l : List (Option PV)} {m : Nat -> AO} {n : Nat} (h : m r = .inst 199 (rf D stop start p sp cd)) : F_RangeReader_used [.ref r] ⟨l, m, n⟩ = .ok (.int ((p : Int) - start)) ⟨l, m, n⟩:=by
 unfold F_RangeReader_used B_RangeReader_used
 simp [Zg0, Zq7, Zq8, Zq41, Zq57, Zq59, Zq60, Zq61, Za199_8, Za199_9, bd_ok, ofI_some, ap_binI, ap_attr, i_sub, fnM_ap, fin_rt, rf, h]
theorem ended_ap {r : Nat} {D : List UInt8} {stop start p : Nat} {sp cd : Int} {l : List (Option PV)} {m : Nat -> AO} {n : Nat} (h : m r = .inst 199 (rf D stop start p sp cd)) : F_RangeReader_ended [.ref r] ⟨l, m, n⟩ = .ok (.bool (cd == 0)) ⟨l, m, n⟩:=by
 unfold F_RangeReader_ended B_RangeReader_ended
 simp [Zq2, Zg0, Zq11, Zq12, Zq22, Zq23, Zq41, Zq57, Zq59, Zq60, Zq61, Za199_10, Zcm1, bd_ok, ap_cmpI, ap_attr, fnM_ap, fin_rt, rf, h]
noncomputable def hLoc (ar : Nat) (O pre post : List UInt8) (n0 : Nat) (x6 x7 : Option PV) : List (Option PV):=[some (.ref ar), some (.byt O), some (.byt pre), some (.byt post), some (.ref (n0 + 1)), some (.ref (n0 + 2)), x6, x7]
inductive HeE (ar : Nat) (O pre post : List UInt8) (n0 : Nat) (m0 : Nat -> AO) (R : TR) (x : Nat) (s : AS) : Prop where
 | mk (ns : List Int) (e : Str × List Int) (x6 x7 : Option PV) (h0 : R = ⟨ns, e.1, e.2, none⟩) (h1 : ((x = 52 /\ e.1 = "short") \/ (x = 76 /\ e.1 = "header") \/ (x = 64 /\ e.1 = "code"))) (h2 : s.mem (n0 + 2) = .list (ns.map .int)) (h3 : s.mem (n0 + 1) = .list (e.2.map .int)) (h4 : e.2.length <= 100) (h5 : MFr [] n0 m0 s.mem) (h6 : n0 + 3 <= s.nxt) (h7 : s.loc = hLoc ar O pre post n0 x6 x7) : HeE ar O pre post n0 m0 R x s
inductive HeIExX (ar : Nat) (O : List UInt8) (pre : List UInt8) (post : List UInt8) (acts : List Act) (n0 : Nat) (R : TR) (j : Nat) (s : AS) : Prop where
 | mk (c : C) (ns : List Int) (x7 : Option PV) (h0 : tellA O (acts.drop j) c ns = R) (h1 : Td O c) (h2 : ns.length = j) (h3 : Rs (n0 + 3) (n0 + 1) pre O post c s) (h4 : s.mem (n0 + 2) = .list (ns.map .int)) (h5 : s.loc = hLoc ar O pre post n0 (some (.ref (n0 + 3))) x7) : HeIExX ar O pre post acts n0 R j s
structure HeI (ar : Nat) (O pre post : List UInt8) (acts : List Act) (n0 : Nat) (m0 : Nat -> AO) (R : TR) (j : Nat) (s : AS) : Prop where
 ex : HeIExX ar O pre post acts n0 R j s
 ear : s.mem ar = .list (acts.map actV)
 fr : MFr [] n0 m0 s.mem
 nx : n0 + 4 <= s.nxt
theorem tellB_ms {O : List UInt8} {a : Act} (ha : ActOk a) : ∀ (t : Nat) (c : C) (bs : List Int) (e : Str × List Int), Gd c -> Bits bs -> bs.length + t = a.cnt -> tellB O a t c bs = .error e -> MsOk e.2
 | 0, c, bs, e, _, _, _, h => by cases h
 | t + 1, c, bs, e, g, hb, hl, h => by
  have hnd:=nodeOf_bd hb
  have hso:=spt_ok ha hnd.1 hnd.2 (by lia)
  have g2:=gd_go g hso (tbit_bit O c (spt a (nodeOf bs)))
  rw [tellB_s] at h
  split at h
  ·cases h; exact g.ms
  ·split at h
   ·cases h; exact g2.ms
   ·exact tellB_ms ha t _ _ e g2 (bits_snoc hb (tbit_bit _ _ _)) (by rw [yH]; simp; lia) h
theorem heard_step {ar : Nat} {O pre post : List UInt8} {acts : List Act} {n0 : Nat} {m0 : Nat -> AO} {R : TR} {s : AS} (hok : ∀ a ∈ acts, ActOk a) (hl : acts.length <= 10) (har : ar < n0) (hD : (pre ++ O ++ post).length <= zLs) (j : Nat) (hj : j < acts.length) (h : HeI ar O pre post acts n0 m0 R j s) (v : PV) (hv : (acts.map actV)[j]? = some v) :
  ((setL 7 v s).bd fun _ s => sSeq [sExp (eAppendL (eL 5) (eCall F_law_read [(eL 6), (eL 4), (eL 7)]))] s).post (fun f s' => match f with | .nx => HeI ar O pre post acts n0 m0 R (j + 1) s' | .rt _ => False) (HeE ar O pre post n0 m0 R):=by
 obtain ⟨l1, m1, n1⟩:=s
 obtain ⟨⟨c, ns, x7, hR, td, hns, rs, enl, hloc⟩, ear, fr, nx⟩:=h
 dsimp only at enl ear fr nx hloc
 subst hloc
 have L : zLs = 1048576:=by decide
 obtain ⟨a, haj, rfl⟩ : ∃ a, acts[j]? = some a /\ v = actV a:=by
  rw [List.getElem?_map] at hv
  obtain ⟨a, h1, h2⟩:=Option.map_eq_some_iff.mp hv
  exact ⟨a, h1, h2.symm⟩
 have ha:=hok a (List.mem_of_getElem? haj)
 have hdr : acts.drop j = a :: acts.drop (j + 1):=by
  have:=List.drop_eq_getElem_cons hj
  rw [yI hj] at haj
  rw [this, Option.some.inj haj]
 rw [hdr, tellA] at hR
 have hnl : (ns.map PV.int).length < zLs:=by rw [yG]; lia
 unfold hLoc
 simp only [Zg4, Zg5, Zg6, Zg7, Zu7, Zq3, Zq4, Zq5, Zq6, Zq34, Zq57, Zq62, Zq75, Zq76, Zq77, bd_ok, ap_isL, Res.isL, enl]
 repeat (first | with_reducible refine post_fin ?_ | with_reducible refine post_seq ?_)
 have hrd:=@read_sp (n0 + 3) (n0 + 1) pre O post a c ⟨[some (.ref ar), some (.byt O), some (.byt pre), some (.byt post), some (.ref (n0 + 1)), some (.ref (n0 + 2)), some (.ref (n0 + 3)), some (actV a)], m1, n1⟩ hD ha td rs.loc
 generalize F_law_read [.ref (n0 + 3), .ref (n0 + 1), actV a] ⟨[some (.ref ar), some (.byt O), some (.byt pre), some (.byt post), some (.ref (n0 + 1)), some (.ref (n0 + 2)), some (.ref (n0 + 3)), some (actV a)], m1, n1⟩ = X at hrd ⊢
 dsimp only at hrd
 have k2 : ∀ i, i < n0 -> i ∉ [n0 + 3, n0 + 1]:=fun i hi => by simp; lia
 refine bd_post (bd_post hrd ?_ ?_) (Q':=fun v s' => v = .none /\ HeI ar O pre post acts n0 m0 R (j + 1) s') ?_ (fun _ _ h => h)
 ·rintro v ⟨l2, m2, n2⟩ ⟨q0, c2, bs, hT, hbl, hbits, rfl, td2, rs2, fr2, nx2⟩
  dsimp only at q0 fr2 nx2
  subst q0
  have enl2 : m2 (n0 + 2) = .list (ns.map .int):=(fr2 (n0 + 2) (by lia) (by simp)).trans enl
  have ear2 : m2 ar = .list (acts.map actV):=(fr2 ar (by lia) (k2 ar har)).trans ear
  simp only [post_ok, if_true, ap_apL, Res.apL, enl2, hnl]
  refine ⟨trivial, ⟨c2, ns ++ [numOf a bs], some (actV a), ?_, td2, by rw [yH, hns]; rfl, ⟨⟨rs2.rd.lt, (zun (by lia)).trans rs2.rd.e⟩, rs2.lm, rs2.ne, (zun (by lia)).trans rs2.em⟩, ?_, rfl⟩, (zun (by lia)).trans ear2, ?_, by show n0 + 4 <= n2; lia⟩
  ·rw [hT] at hR
   exact hR
  ·refine (zus _ _ _).trans ?_
   rw [List.map_append]
   rfl
  ·refine MFr.new ?_ (by lia)
   intro i hi _
   exact (fr2 i (by lia) (k2 i hi)).trans (fr i hi (by simp))
 ·rintro x ⟨l2, m2, n2⟩ ⟨q0, e, hT, hx, em2, fr2, nx2⟩
  dsimp only at q0 em2 fr2 nx2
  subst q0
  rw [hT] at hR
  have hms:=tellB_ms ha a.cnt c [] e td.g (fun _ h => by cases h) (by simp) hT
  refine ⟨ns, e, _, _, hR.symm, ?_, (fr2 (n0 + 2) (by lia) (by simp)).trans enl, em2, by rw [hms.len]; decide, ?_, by show n0 + 3 <= n2; lia, rfl⟩
  ·rcases hx with h | h
   ·exact .inl h
   ·exact .inr (.inr h)
  ·intro i hi _
   exact (fr2 i (by lia) (k2 i hi)).trans (fr i hi (by simp))
 ·rintro v s' ⟨rfl, h⟩
  simp only [Zq56, Zq63, post_ok]
  exact h
theorem tell_52 {O : List UInt8} {acts : List Act} (h : O = [] \/ ((O.getD 0 0).toNat = 0 /\ O.length < 5)) : tell O acts = ⟨[], "short", c0.ms, none⟩:=by unfold tell; rw [if_pos h]
theorem tell_76 {O : List UInt8} {acts : List Act} (h1 : O ≠ []) (h2 : (O.getD 0 0).toNat ≠ 0) : tell O acts = ⟨[], "header", c0.ms, none⟩:=by
 unfold tell
 rw [if_neg (fun q => q.elim (fun q => h1 q) fun q => h2 q.1), if_pos h2]
theorem tell_64 {O : List UInt8} {acts : List Act} (h1 : 5 <= O.length) (h2 : (O.getD 0 0).toNat = 0) (h3 : vb (O.take 5) = 4294967295) : tell O acts = ⟨[], "code", c0.ms, none⟩:=by
 unfold tell
 rw [if_neg (fun q => q.elim (fun q => by rw [q] at h1; simp at h1) fun q => by lia), if_neg (by lia), if_pos h3]
theorem tell_ok {O : List UInt8} {acts : List Act} (h1 : 5 <= O.length) (h2 : (O.getD 0 0).toNat = 0) (h3 : vb (O.take 5) ≠ 4294967295) : tell O acts = tellA O acts c0 []:=by
 unfold tell
 rw [if_neg (fun q => q.elim (fun q => by rw [q] at h1; simp at h1) fun q => by lia), if_neg (by lia), if_neg h3]
noncomputable def HeN (ar : Nat) (O pre post : List UInt8) (n0 : Nat) (m0 : Nat -> AO) (R : TR) (f : Fl) (s : AS) : Prop :=
 f = .nx /\ ∃ (c : C) (ns : List Int) (x7 : Option PV), R = ⟨ns, "", c.ms, some ((c.k : Int) + 5, wh O c == c.N)⟩ /\ Gd c /\ Rs (n0 + 3) (n0 + 1) pre O post c s /\ s.mem (n0 + 2) = .list (ns.map .int) /\ s.loc = hLoc ar O pre post n0 (some (.ref (n0 + 3))) x7 /\ MFr [] n0 m0 s.mem /\ n0 + 4 <= s.nxt
theorem heard_hand {ar : Nat} {O pre post : List UInt8} {n0 : Nat} {m0 : Nat -> AO} {R : TR} {x : Nat} {s : AS} (h : HeE ar O pre post n0 m0 R x s) :
  (x = 52 \/ x = 64 \/ x = 76 \/ x = 88) /\ (sTry.go x [(52, [sRet (eTup [(eL 5), (eK (.str "short")), (eListOf (eL 4)), (eK .none)])]),
  (76, [sRet (eTup [(eL 5), (eK (.str "header")), (eListOf (eL 4)), (eK .none)])]),
  (64, [sRet (eTup [(eL 5), (eK (.str "code")), (eListOf (eL 4)), (eK .none)])])] s).post (fun f s' => match f with | .nx => False | .rt v => RetT n0 m0 R v s') NoE:=by
 obtain ⟨l, m, n⟩:=s
 obtain ⟨ns, e, x6, x7, rfl, hx, h1, h2, hel, h3, h4, hloc⟩:=h
 dsimp only at h1 h2 h3 h4 hloc
 subst hloc
 have L : zLs = 1048576:=by decide
 have hel2 : (e.2.map PV.int).length <= zLs:=by rw [yG]; lia
 have fin : ∀ t : Str, e.1 = t -> (sSeq [sRet (eTup [(eL 5), (eK (.str t)), (eListOf (eL 4)), (eK .none)])] ⟨hLoc ar O pre post n0 x6 x7, m, n⟩).post (fun f s' => match f with | .nx => False | .rt v => RetT n0 m0 ⟨ns, e.1, e.2, none⟩ v s') NoE:=fun t ht => by
  unfold hLoc
  simp only [Zq2, Zg4, Zg5, Zq3, Zq4, Zq5, Zq6, Zq57, Zq59, Zq60, Zq61, Zq67, Zq68, bd_ok, ap_eListOf, post_ok, if_true, ap_loL, Res.loL, h2, hel2]
  refine ⟨n0 + 2, n, ?_, (zun (by lia)).trans h1, zus _ _ _, by show n0 <= n0 + 2; lia, by show n0 + 2 < n + 1; lia, by show n0 <= n; lia, Nat.lt_succ_self _, MFr.fr (h3.new (by lia)) (show n0 <= n + 1 by lia)⟩
  rw [ht]
  rfl
 rcases hx with ⟨rfl, hx⟩ | ⟨rfl, hx⟩ | ⟨rfl, hx⟩
 ·exact ⟨.inl rfl, fin _ hx⟩
 ·exact ⟨.inr (.inr (.inl rfl)), fin _ hx⟩
 ·exact ⟨.inr (.inl rfl), fin _ hx⟩
theorem heard_sp {ar : Nat} {O pre post : List UInt8} {acts : List Act} {s : AS} (hok : ∀ a ∈ acts, ActOk a) (hl : acts.length <= 10) (har : ar < s.nxt) (hm : s.mem ar = .list (acts.map actV)) (hD : (pre ++ O ++ post).length <= 60000) :
  (F_law_heard [.ref ar, .byt O, .byt pre, .byt post] s).post (RetOk (tell O acts) s) NoE:=by
 obtain ⟨l, m, n⟩:=s
 dsimp only at har hm
 have L : zLs = 1048576:=by decide
 have hll : (pre ++ O ++ post).length = pre.length + O.length + post.length:=by rw [yH, yH]
 have hD' : (pre ++ O ++ post).length <= zLs:=by lia
 have ha1:=fun s => ap_addB (x:=pre) (y:=O) (by lia) s
 have ha2:=fun s => ap_addB (x:=pre ++ O) (y:=post) (by rw [yH]; lia) s
 have hlp:=fun s => len_byt (bs:=pre) (by lia) s
 have hlO:=fun s => len_byt (bs:=O) (by lia) s
 have hcast : (pre.length : Int) + (O.length : Int) = ((pre.length + O.length : Nat) : Int):=by lia
 have e80 : List.replicate 80 (PV.int 1024) = c0.ms.map .int:=rfl
 unfold F_law_heard B_law_heard
 rw [fnM_ap, sSeqc, sSeqc]
 simp only [Zq2, Zg1, Zg2, Zu4, Zu5, Zq3, Zq4, Zq5, Zq6, Zq7, Zq8, Zq34, Zq38, Zq42, Zq43, Zq57, Zq69, Zq70, Zq88, Zq89, Zq90, Zq91, Zq92, bd_ok, sq_nx, yC, yD, yA, yB, yE, yF, List.replicate, Nat.reduceSub, Nat.reduceAdd, fresh_ap2, List.reverse_cons, List.reverse_nil, ap_sTry]
 refine post_fin (post_sq (post_tr (post_mono (Q:=HeN ar O pre post n m (tell O acts)) (E:=HeE ar O pre post n m (tell O acts)) ?_ ?_ ?_)))
 ·generalize hm3 : upd (upd (upd m n (.list [.int 1024])) (n + 1) (.list (c0.ms.map .int))) (n + 2) (.list []) = m3
  have f3 : MFr [] n m m3:=by
   rw [<- hm3]
   repeat' first | exact MFr.refl | (refine MFr.own ?_ (.head _)) | (refine MFr.own ?_ (.tail _ (.head _))) | (refine MFr.own ?_ (.tail _ (.tail _ (.head _)))) | (refine MFr.new ?_ (by lia))
  have e3 : m3 (n + 1) = .list (c0.ms.map .int):=by rw [<- hm3]; exact (zun (by lia)).trans (zus _ _ _)
  have e4 : m3 (n + 2) = .list []:=by rw [<- hm3]; exact zus _ _ _
  have e5 : m3 ar = .list (acts.map actV):=(f3 ar har (by simp)).trans hm
  have e6 : upd m3 (n + 3) (.inst 199 []) (n + 3) = .inst 199 []:=zus _ _ _
  simp only [Zg1, Zg2, Zg3, Zq3, Zq4, Zq5, Zq6, Zq7, Zq8, Zq39, bd_ok, ofI_some, ap_binI, ap_eLen, i_add, ha1, ha2, hlp, hlO, hcast]
  repeat (first | with_reducible refine post_fin ?_ | with_reducible refine post_seq ?_)
  have hin:=@rinit_sp (n + 3) pre O post ⟨hLoc ar O pre post n none none, upd m3 (n + 3) (.inst 199 []), n + 3 + 1⟩ hD (Nat.lt_succ_self _) e6
  unfold hLoc at hin
  generalize F_RangeReader_init [.ref (n + 3), .byt (pre ++ O ++ post), .int pre.length, .int ((pre.length + O.length : Nat) : Int)] ⟨[some (.ref ar), some (.byt O), some (.byt pre), some (.byt post), some (.ref (n + 1)), some (.ref (n + 2)), none, none], upd m3 (n + 3) (.inst 199 []), n + 3 + 1⟩ = X at hin
  have fW : ∀ (m2 : Nat -> AO), MFr [n + 3] (n + 3 + 1) (upd m3 (n + 3) (.inst 199 [])) m2 -> MFr [] n m m2 /\ m2 (n + 1) = .list (c0.ms.map .int) /\ m2 (n + 2) = .list [] /\ m2 ar = .list (acts.map actV):=fun m2 f => by
   refine ⟨fun i hi _ => ?_, ?_, ?_, ?_⟩
   ·exact (f i (by lia) (by simp; lia)).trans ((zun (by lia)).trans (f3 i hi (by simp)))
   ·exact (f _ (by lia) (by simp)).trans ((zun (by lia)).trans e3)
   ·exact (f _ (by lia) (by simp)).trans ((zun (by lia)).trans e4)
   ·exact (f _ (by lia) (by simp; lia)).trans ((zun (by lia)).trans e5)
  refine bd_post (Q':=fun v s' => v = .ref (n + 3) /\ s'.loc = [some (.ref ar), some (.byt O), some (.byt pre), some (.byt post), some (.ref (n + 1)), some (.ref (n + 2)), none, none] /\ tell O acts = tellA O acts c0 [] /\ Td O c0 /\ Rd (n + 3) pre O post c0.R (wh O c0 - c0.N) 0 s' /\ (MFr [] n m s'.mem /\ s'.mem (n + 1) = .list (c0.ms.map .int) /\ s'.mem (n + 2) = .list [] /\ s'.mem ar = .list (acts.map actV)) /\ n + 4 <= s'.nxt) (bd_post hin ?_ ?_) ?_ (fun _ _ h => h)
  ·rintro v ⟨l2, m2, n2⟩ ⟨rfl, h5, hz, hcd, rd, f1, f2, f4⟩
   dsimp only at f1 f2 f4
   subst f1
   exact ⟨rfl, rfl, tell_ok h5 hz hcd, td_c0 h5 hz hcd, rd, fW m2 f4, f2⟩
  ·rintro x ⟨l2, m2, n2⟩ ⟨f1, f4, f2, hx⟩
   dsimp only at f1 f2 f4
   subst f1
   obtain ⟨w1, w2, w3, _⟩:=fW m2 f4
   have hR : ∃ t : Str, tell O acts = ⟨[], t, c0.ms, none⟩ /\ ((x = 52 /\ t = "short") \/ (x = 76 /\ t = "header") \/ (x = 64 /\ t = "code")):=by
    rcases hx with ⟨rfl, h⟩ | ⟨rfl, h1, h2⟩ | ⟨rfl, h1, h2, h3⟩
    ·exact ⟨_, tell_52 h, .inl ⟨rfl, rfl⟩⟩
    ·exact ⟨_, tell_76 h1 h2, .inr (.inl ⟨rfl, rfl⟩)⟩
    ·exact ⟨_, tell_64 h1 h2 h3, .inr (.inr ⟨rfl, rfl⟩)⟩
   obtain ⟨t, ht, hx⟩:=hR
   exact ⟨[], (t, c0.ms), _, _, ht, hx, w3, w2, (show c0.ms.length <= 100 by decide), w1, by show n + 3 <= n2; lia, rfl⟩
  ·intro v hz1 hz2
   refine yN fun hgl => ?_
   obtain ⟨l2, m2, n2⟩:=hz1
   obtain ⟨rfl, f1, hT, td, rd, ⟨w1, w2, w3, w4⟩, f2⟩:=hz2
   refine hgl ?_; clear hgl
   dsimp only at f1 f2 w1 w2 w3 w4
   subst f1
   simp only [Zg0, Zt6, Zq57, bd_ok, ap_sForV, post_ok]
   repeat (first | with_reducible refine post_fin ?_ | with_reducible refine post_seq ?_)
   refine forV_post (vs:=acts.map actV) (Qr:=fun _ _ => False) (HeI ar O pre post acts n m (tell O acts)) (by rw [yG]; lia) ?_ (fun _ _ h => h.ear) ?_ ?_ (fun _ _ h => h.elim)
   ·exact ⟨⟨c0, [], none, hT.symm, td, rfl, ⟨⟨rd.lt, rd.e⟩, by show n + 1 < n2; lia, by lia, w2⟩, w3, rfl⟩, w4, w1, f2⟩
   ·intro j s v hv hI
    have hj : j < acts.length:=by
     have:=(List.getElem?_eq_some_iff.mp hv).1
     rwa [yG] at this
    exact heard_step hok hl har hD' j hj hI v hv
   ·rintro ⟨l4, m4, n4⟩ ⟨⟨c, ns, x7, hR, td4, hns, rs, enl, hloc⟩, ear, fr, nx⟩
    rw [yG, List.drop_length] at hR
    simp only [Zq56, post_ok]
    exact ⟨rfl, c, ns, x7, hR.symm, td4.g, rs, enl, hloc, fr, nx⟩
 ·intro f hz1 hz2
  refine yN fun hgl => ?_
  obtain ⟨l1, m1, n1⟩:=hz1
  obtain ⟨rfl, c, ns, x7, hR, g, rs, enl, hloc, fr, nx⟩:=hz2
  refine hgl ?_; clear hgl
  dsimp only at enl hloc fr nx
  subst hloc
  have e:=rs.rd.e
  have em:=rs.em
  dsimp only at e em
  have hml:=g.ms.len
  have hel2 : (c.ms.map PV.int).length <= zLs:=by rw [yG, hml]; decide
  have e' : ∀ o, upd m1 n1 o (n + 3) = .inst 199 (rf (pre ++ O ++ post) (pre.length + O.length) pre.length (pre.length + c.k + 5) c.R (wh O c - c.N)):=fun o => (zun (by lia)).trans e
  have hu:=fun l n' o => used_ap (l:=l) (n:=n') (e' o)
  have he:=fun l n' o => ended_ap (l:=l) (n:=n') (e' o)
  have hmt:=fun o r => mth_e (e' o) r
  unfold hLoc
  simp only [Zq2, Zg4, Zg5, Zg6, Zq3, Zq4, Zq5, Zq6, Zq35, Zq36, Zq37, Zq57, Zq59, Zq60, Zq61, Zq67, Zq68, bd_ok, ap_eListOf, post_ok, if_true, ap_loL, Res.loL, em, hel2, hmt, hu, he]
  rw [hR]
  refine ⟨n + 2, n1, ?_, (zun (by lia)).trans enl, zus _ _ _, by show n <= n + 2; lia, by show n + 2 < n1 + 1; lia, by show n <= n1; lia, Nat.lt_succ_self _, MFr.fr (fr.new (by lia)) (show n <= n1 + 1 by lia)⟩
  have q1 : ((pre.length + c.k + 5 : Nat) : Int) - (pre.length : Int) = (c.k : Int) + 5:=by lia
  have q2 : (wh O c - c.N == 0) = (wh O c == c.N):=by
   by_cases h : wh O c = c.N
   ·rw [h]; simp
   ·have h1 : ¬ wh O c - c.N = 0:=by lia
    rw [show (wh O c - c.N == 0) = false from beq_eq_false_iff_ne.mpr h1, show (wh O c == c.N) = false from beq_eq_false_iff_ne.mpr h]
  rw [q1, q2]
  rfl
 ·intro x s' h
  obtain ⟨h1, h2⟩:=heard_hand h
  refine ⟨h1, post_mono h2 ?_ fun _ _ h => h.elim⟩
  intro f s'' hf
  cases f with
  | nx => exact hf.elim
  | rt v =>
   obtain ⟨nl, md, b1, b2, b3, b4, b5, b6, b7, b8⟩:=hf
   exact ⟨nl, md, b1, b2, b3, b4, b5, b6, b7, rfl, b8.2.1, b8.2.2⟩
theorem sq_step {a : S} {r : List S} {s : AS} {P : AS -> Prop} {Q : Fl -> AS -> Prop} (h : (a s).post (fun f s' => f = .nx /\ P s') NoE) (h2 : ∀ s', P s' -> (sSeq r s').post Q NoE) : (sSeq (a :: r) s).post Q NoE:=by
 rw [zsc]
 refine post_sq (post_mono h ?_ fun _ _ h => h)
 rintro f s' ⟨rfl, hp⟩
 exact h2 s' hp
structure LB (ps : List (Act × List Int)) (ar nl dm : Nat) (m : Nat -> AO) (n : Nat) : Prop where
 ok : ∀ p ∈ ps, PairOk p
 len : ps.length <= 10
 k : (runA c0 ps).k <= 120
 ear : m ar = .list ((ps.map (·.1)).map actV)
 enl : m nl = .list ((ps.map numP).map .int)
 edm : m dm = .list ((runA c0 ps).ms.map .int)
 lar : ar < n
 lnl : nl < n
 ldm : dm < n
theorem LB.frame {ps : List (Act × List Int)} {ar nl dm n n' : Nat} {m m' : Nat -> AO} {W : List Nat} (h : LB ps ar nl dm m n) (f : MFr W n m m') (hn : n <= n') (h1 : ar ∉ W) (h2 : nl ∉ W) (h3 : dm ∉ W) : LB ps ar nl dm m' n' :=
 ⟨h.ok, h.len, h.k, (f _ h.lar h1).trans h.ear, (f _ h.lnl h2).trans h.enl, (f _ h.ldm h3).trans h.edm, yK h.lar hn, yK h.lnl hn, yK h.ldm hn⟩
theorem LB.g {ps : List (Act × List Int)} {ar nl dm n : Nat} {m : Nat -> AO} (h : LB ps ar nl dm m n) : Gd (runA c0 ps):=(nest_runA ps c0 gd_c0 h.ok).1
noncomputable def octs (ps : List (Act × List Int)) : List UInt8:=digs (runA c0 ps).N ((runA c0 ps).k + 5)
theorem octs_len (ps : List (Act × List Int)) : (octs ps).length = (runA c0 ps).k + 5:=digs_len _ _
theorem octs_vb {ps : List (Act × List Int)} (h : ∀ p ∈ ps, PairOk p) : vb (octs ps) = (runA c0 ps).N:=by
 have g:=(nest_runA ps c0 gd_c0 h).1
 refine vb_digs _ _ g.N0 ?_
 have h1:=g.NR
 have h2:=g.R1
 rw [Int.pow_add]
 have:=pow_pos (runA c0 ps).k
 show _ < 256 ^ (runA c0 ps).k * 1099511627776
 lia
noncomputable abbrev OP:=Option PV
noncomputable def l0 (sc : PV) (ar : Nat) (bo : Int) (nl : Nat) (O : List UInt8) (dm w md : Nat) (x8 x9 x10 x11 x12 x13 x14 x15 x16 x17 : OP) : List OP :=
 [some sc, some (.ref ar), some (.int bo), some (.ref nl), some (.byt O), some (.ref dm), some (.ref w), some (.ref md), x8, x9, x10, x11, x12, x13, x14, x15, x16, x17]
inductive P3 (script : List Int) (s : AS) : Prop where
 | mk (ps : List (Act × List Int)) (ar : Nat) (bo : Int) (nl dm w bar md : Nat) (h0 : LB ps ar nl dm s.mem s.nxt) (h1 : ar < w) (h2 : nl < w) (h3 : dm < w) (h4 : w < bar) (h5 : bar < md) (h6 : Ws w bar md c0 false s) (h7 : s.loc = l0 (.ints script) ar bo nl (octs ps) dm w md none none none none none none none none none none) : P3 script s
theorem winit_sp2 {s : AS} {w : Nat} (hw : w < s.nxt) (hi : s.mem w = .inst 283 []) {X : Res PV} (hX : F_RangeWriter_init [.ref w] s = X) : X.post (fun v s' => v = .none /\ Wr w s.nxt 4294967295 0 4294967295 0 false s' /\ Fr [w] s s') NoE:=by
 subst hX
 exact winit_sp hw hi
theorem law_123 {script : List Int} (hsl : script.length <= 63) {Q : Fl -> AS -> Prop} {r : List S} {m0 : Nat -> AO} {n0 : Nat} (h : ∀ s', P3 script s' -> (sSeq r s').post Q NoE) :
  (sSeq ([sUnp [1, 2] (eCall F_law_acts [(eL 0)]),
 sUnp [3, 4, 5] (eCall F_law_written [(eL 1), (eL 2)]),
 sSwap [6, 7] [(eNew 283 F_RangeWriter_init []), (eCall F_fresh_models [(eK (.int 80))])]] ++ r) ⟨[some (.ints script), none, none, none, none, none, none, none, none, none, none, none, none, none, none, none, none, none], m0, n0⟩).post Q NoE:=by
 refine sq_step (P:=fun s' => ∃ (acts : List Act) (ar : Nat) (bo : Int), (∀ a ∈ acts, ActOk a) /\ acts.length <= 10 /\ 0 <= bo /\ bo <= 1000 /\ s'.mem ar = .list (acts.map actV) /\ ar < s'.nxt /\ s'.loc = [some (.ints script), some (.ref ar), some (.int bo), none, none, none, none, none, none, none, none, none, none, none, none, none, none, none]) ?_ ?_
 ·simp only [Zg0, Zq3, Zq4, Zq5, Zq6, Zq34, Zq93, bd_ok]
  repeat (first | with_reducible refine post_fin ?_ | with_reducible refine post_seq ?_)
  refine bd_post (acts_sp hsl _) ?_ fun _ _ h => h
  rintro v ⟨l1, m1, n1⟩ ⟨acts, ar, bo, rfl, h1, h2, h3, h4, h5, h6, h7, f1, f2⟩
  dsimp only at f1 h5 h7
  subst f1
  simp only [Zu1, Zu2, Zq43, Zq90, Zq91, Zq92, Zq94, bd_ok, ap_unpack, post_ok, yA, yB, if_true, Nat.reduceAdd]
  exact ⟨trivial, acts, ar, bo, h1, h2, h3, h4, h5, h7, rfl⟩
 ·rintro ⟨l1, m1, n1⟩ ⟨acts, ar, bo, h1, h2, h3, h4, h5, h7, hloc⟩
  dsimp only at h5 h7 hloc
  subst hloc
  refine sq_step (P:=fun s' => ∃ (ps : List (Act × List Int)) (ar : Nat) (bo : Int) (nl dm : Nat), LB ps ar nl dm s'.mem s'.nxt /\ s'.loc = [some (.ints script), some (.ref ar), some (.int bo), some (.ref nl), some (.byt (octs ps)), some (.ref dm), none, none, none, none, none, none, none, none, none, none, none, none]) ?_ ?_
  ·simp only [Zg1, Zg2, Zq3, Zq4, Zq5, Zq6, Zq34, Zq93, bd_ok]
   repeat (first | with_reducible refine post_fin ?_ | with_reducible refine post_seq ?_)
   refine bd_post (written_sp h1 h2 h7 h5 ⟨h3, h4⟩) ?_ fun _ _ h => h
   intro v hz1 hz2
   refine yN fun hgl => ?_
   obtain ⟨l2, m2, n2⟩:=hz1
   obtain ⟨ps, nl, dm, rfl, k1, k2, k3, k4, k5, k6, k7, k8, k9, k10, f1, f2, f3⟩:=hz2
   refine hgl ?_; clear hgl
   dsimp only at k5 k6 k8 k10 f1 f2 f3
   subst f1
   simp only [Zu3, Zu4, Zu5, Zq43, Zq90, Zq91, Zq92, Zq94, bd_ok, ap_unpack, post_ok, yA, yB, if_true, Nat.reduceAdd]
   have hlen : ps.length <= 10:=by
    have:=congrArg List.length k1
    rw [yG] at this
    lia
   refine ⟨trivial, ps, ar, bo, nl, dm, ⟨k2, hlen, k4, ?_, k5, k6, yK h7 f2, k8, k10⟩, rfl⟩
   rw [k1]
   exact (f3 ar h7 (by simp)).trans h5
  ·rintro ⟨l2, m2, n2⟩ ⟨ps, ar, bo, nl, dm, lb, hloc⟩
   dsimp only at lb hloc
   subst hloc
   refine sq_step (P:=P3 script) ?_ h
   simp only [Zq3, Zq4, Zq38, Zq39, Zq88, bd_ok]
   repeat (first | with_reducible refine post_fin ?_ | with_reducible refine post_seq ?_)
   generalize hX : F_RangeWriter_init [.ref n2] ⟨[some (.ints script), some (.ref ar), some (.int bo), some (.ref nl), some (.byt (octs ps)), some (.ref dm), none, none, none, none, none, none, none, none, none, none, none, none], upd m2 n2 (.inst 283 []), n2 + 1⟩ = X
   have hx:=winit_sp2 (Nat.lt_succ_self n2) (zus _ _ _) hX
   rw [post_bd, post_bd, post_bd]
   refine post_mono hx ?_ fun _ _ h => h
   rintro v ⟨l3, m3, n3⟩ ⟨rfl, W, f1, f2, f3⟩
   dsimp only at W f1 f2 f3
   subst f1
   simp only [Zq2, Zu6, Zu7, Zq3, Zq4, Zq5, Zq6, Zq34, Zq40, Zq43, Zq89, Zq90, Zq91, Zq92, bd_ok, post_ok, yE, yF, fresh_ap2, List.reverse_cons, List.reverse_nil]
   have fm : MFr [] n2 m2 m3:=fun i hi _ => (f3 i (by lia) (by simp; lia)).trans (zun (by lia))
   have fm2 : MFr [] n2 m2 (upd (upd m3 n3 (.list [.int 1024])) (n3 + 1) (.list (c0.ms.map .int))):=(fm.new (by lia)).new (by lia)
   obtain ⟨w1, w2, w3, mb, low, cache, held, w4, w5, w6⟩:=W
   dsimp only at w1 w2 w4 w5
   refine ⟨trivial, ps, ar, bo, nl, dm, n2, n2 + 1, n3 + 1, lb.frame fm2 (show n2 <= n3 + 2 by lia) (by simp) (by simp) (by simp), lb.lar, lb.lnl, lb.ldm, Nat.lt_succ_self _, by lia, ⟨⟨?_, ?_, w3, mb, low, cache, held, ?_, ?_, w6⟩, ?_, by lia, by lia, zus _ _ _⟩, rfl⟩
   ·show n2 < n3 + 2; lia
   ·show n2 + 1 < n3 + 2; lia
   ·exact (zun (by lia)).trans ((zun (by lia)).trans w4)
   ·exact (zun (by lia)).trans ((zun (by lia)).trans w5)
   ·show n3 + 1 < n3 + 2; lia
theorem runA_append : ∀ (ps qs : List (Act × List Int)) (c : C), runA c (ps ++ qs) = runA (runA c ps) qs
 | [], _, _ => rfl
 | (_, _) :: r, qs, _ => runA_append r qs _
theorem runA_take_k {ps : List (Act × List Int)} (h : ∀ p ∈ ps, PairOk p) (j : Nat) : (runA c0 (ps.take j)).k <= (runA c0 ps).k /\ Gd (runA c0 (ps.take j)):=by
 have g1:=(nest_runA (ps.take j) c0 gd_c0 fun p hp => h p (List.mem_of_mem_take hp)).1
 obtain ⟨_, e, he, _⟩:=nest_runA (ps.drop j) _ g1 fun p hp => h p (List.mem_of_mem_drop hp)
 rw [<- runA_append, List.take_append_drop] at he
 exact ⟨by lia, g1⟩
theorem idx_at {vs : List PV} {j : Nat} {v : PV} (h : vs[j]? = some v) (hl : vs.length <= zLs) : idx vs (j : Int) = some v:=by
 have hlt:=(List.getElem?_eq_some_iff.mp h).1
 rw [idx_eq]
 rw [if_pos ⟨by lia, by lia⟩]
 exact h
structure LO (ps : List (Act × List Int)) (ar nl dm w bar md : Nat) (c : C) (s : AS) : Prop where
 lb : LB ps ar nl dm s.mem s.nxt
 a1 : ar < w
 a2 : nl < w
 a3 : dm < w
 a4 : w < bar
 a5 : bar < md
 ws : Ws w bar md c false s
inductive WI (script : List Int) (ps : List (Act × List Int)) (ar : Nat) (bo : Int) (nl dm w bar md : Nat) (j : Nat) (s : AS) : Prop where
 | mk (x8 : _) (h0 : LO ps ar nl dm w bar md (runA c0 (ps.take j)) s) (h1 : s.loc = l0 (.ints script) ar bo nl (octs ps) dm w md x8 none none none none none none none none none) : WI script ps ar bo nl dm w bar md j s
inductive P4 (script : List Int) (s : AS) : Prop where
 | mk (ps : List (Act × List Int)) (ar : Nat) (bo : Int) (nl dm w bar md : Nat) (x8 : OP) (h0 : LO ps ar nl dm w bar md (runA c0 ps) s) (h1 : s.loc = l0 (.ints script) ar bo nl (octs ps) dm w md x8 none none none none none none none none none) : P4 script s
theorem sbL_at {l : List (Option PV)} {m : Nat -> AO} {n i : Nat} {k : Int} {vs : List PV} {v : PV} (h1 : m i = .list vs) (h2 : idx vs k = some v) : subM (.ref i) (.int k) ⟨l, m, n⟩ = .ok v ⟨l, m, n⟩:=by
 rw [ap_sbL]
 unfold Res.sbL
 rw [h1]
 dsimp only
 rw [h2]
theorem write_sp2 {w bar md : Nat} {c : C} {s : AS} {a : Act} {bs : List Int} (h : Ws w bar md c false s) (g : Gd c) (hk : c.k <= 800) (hb : Bits bs) (hc : a.cnt = bs.length) (ha : ActOk a) {X : Res PV} (hX : F_law_write [.ref w, .ref md, actV a, .int (numOf a bs)] s = X) :
  X.post (fun v s' => v = .none /\ Ws w bar md (runB a c 1 bs) false s' /\ Fr [w, bar, md] s s') NoE:=by
 subst hX
 exact write_sp h g hk hb hc ha
theorem law_4 {script : List Int} {s : AS} (h : P3 script s) : (sForR 8 [(eLen (eL 1))] [sExp (eCall F_law_write [(eL 6), (eL 7), (eSub (eL 1) (eL 8)), (eSub (eL 3) (eL 8))])] s).post (fun f s' => f = .nx /\ P4 script s') NoE:=by
 obtain ⟨l, m, n⟩:=s
 obtain ⟨ps, ar, bo, nl, dm, w, bar, md, lb, a1, a2, a3, a4, a5, ws, hloc⟩:=h
 dsimp only at lb hloc
 subst hloc
 have L : zLs = 1048576:=by decide
 have hlen:=lb.len
 have hal : ((ps.map (·.1)).map actV).length = ps.length:=by rw [yG, yG]
 have hall : ((ps.map (·.1)).map actV).length <= zLs:=by lia
 have hnl : ((ps.map numP).map PV.int).length <= zLs:=by rw [yG, yG]; lia
 have hr:=rangeK1 (b:=(((ps.map (·.1)).map actV).length : Int)) (n:=ps.length) (by rw [hal]) (by lia)
 have ear:=lb.ear
 unfold l0
 simp only [Zg1, Zq3, Zq4, Zq5, Zq6, Zq95, Zq96, Zq97, Zq98, bd_ok, ap_eLen, rg_some, if_true, ap_lnR, Res.lnB, ear, hall, hr]
 refine forL_post (Qr:=fun _ _ => False) (WI script ps ar bo nl dm w bar md) ?_ ?_ ?_ (fun _ _ h => h.elim)
 ·exact ⟨none, ⟨lb, a1, a2, a3, a4, a5, ⟨⟨ws.wr.lw, ws.wr.lb, ws.wr.ne, ws.wr.ex⟩, ws.lm, ws.n1, ws.n2, ws.em⟩⟩, rfl⟩
 ·rintro j ⟨l1, m1, n1⟩ v hv ⟨x8, ⟨lb1, _, _, _, _, _, ws1⟩, hloc⟩
  rw [List.map_map] at hv
  obtain ⟨hj, rfl⟩ : j < ps.length /\ v = .int (j : Int):=range_get hv
  dsimp only at lb1 hloc
  subst hloc
  obtain ⟨⟨a, bs⟩, hp⟩ : ∃ p, ps[j]? = some p:=⟨_, yI hj⟩
  obtain ⟨p1, p2, p3⟩:=lb.ok _ (List.mem_of_getElem? hp)
  have i1:=idx_at (vs:=(ps.map (·.1)).map actV) (j:=j) (v:=actV a) (by rw [List.getElem?_map, List.getElem?_map, hp]; rfl) hall
  have i2:=idx_at (vs:=(ps.map numP).map PV.int) (j:=j) (v:=.int (numOf a bs)) (by rw [List.getElem?_map, List.getElem?_map, hp]; rfl) hnl
  have e1:=lb1.ear
  have e2:=lb1.enl
  obtain ⟨k1, g1⟩:=runA_take_k lb.ok j
  have hk:=lb.k
  have s1:=fun l n => sbL_at (l:=l) (n:=n) e1 i1
  have s2:=fun l n => sbL_at (l:=l) (n:=n) e2 i2
  unfold l0
  simp only [Zg1, Zg3, Zg6, Zg7, Zg8, Zu8, Zq3, Zq4, Zq5, Zq6, Zq34, Zq57, Zq62, Zq65, Zq66, bd_ok, s1, s2]
  repeat (first | with_reducible refine post_fin ?_ | with_reducible refine post_seq ?_)
  generalize hX : F_law_write [.ref w, .ref md, actV a, .int (numOf a bs)] ⟨[some (.ints script), some (.ref ar), some (.int bo), some (.ref nl), some (.byt (octs ps)), some (.ref dm), some (.ref w), some (.ref md), some (.int (j : Int)), none, none, none, none, none, none, none, none, none], m1, n1⟩ = X
  have hW : ∀ l, Ws w bar md (runA c0 (ps.take j)) false ⟨l, m1, n1⟩:=fun l => ⟨⟨ws1.wr.lw, ws1.wr.lb, ws1.wr.ne, ws1.wr.ex⟩, ws1.lm, ws1.n1, ws1.n2, ws1.em⟩
  have hx:=write_sp2 (a:=a) (bs:=bs) (hW _) g1 (by lia) p2 p3.symm p1 hX
  refine bd_post hx ?_ fun _ _ h => h
  rintro v ⟨l2, m2, n2⟩ ⟨rfl, ws2, f1, f2, f3⟩
  dsimp only at f1 f2 f3
  subst f1
  simp only [Zq56, Zq63, post_ok]
  have e3 : runA c0 (ps.take (j + 1)) = runB a (runA c0 (ps.take j)) 1 bs:=by
   rw [List.take_add_one, hp]
   exact runA_snoc _ _ _ _
  refine ⟨_, ⟨lb1.frame f3 f2 (by simp; lia) (by simp; lia) (by simp; lia), a1, a2, a3, a4, a5, ?_⟩, rfl⟩
  rw [e3]
  exact ws2
 ·rintro ⟨l1, m1, n1⟩ ⟨x8, lo, hloc⟩
  rw [yG, yG, List.length_range, List.take_length] at lo
  exact ⟨rfl, ps, ar, bo, nl, dm, w, bar, md, x8, lo, hloc⟩
theorem Ws.fr0 {w bar md : Nat} {c : C} {cl : Bool} {s : AS} {l' : List OP} {m' : Nat -> AO} {n' : Nat} (h : Ws w bar md c cl s) (f : MFr [] s.nxt s.mem m') (hn : s.nxt <= n') : Ws w bar md c cl ⟨l', m', n'⟩:=by
 obtain ⟨⟨a, b, d, mb, low, cache, held, e1, e2, e3⟩, lm, n1, n2, em⟩:=h
 exact ⟨⟨yK a hn, yK b hn, d, mb, low, cache, held, (f w a (by simp)).trans e1, (f bar b (by simp)).trans e2, e3⟩, yK lm hn, n1, n2, (f md lm (by simp)).trans em⟩
theorem LO.fr0 {ps : List (Act × List Int)} {ar nl dm w bar md : Nat} {c : C} {s : AS} {l' : List OP} {m' : Nat -> AO} {n' : Nat} (h : LO ps ar nl dm w bar md c s) (f : MFr [] s.nxt s.mem m') (hn : s.nxt <= n') : LO ps ar nl dm w bar md c ⟨l', m', n'⟩ :=
 ⟨h.lb.frame f hn (by simp) (by simp) (by simp), h.a1, h.a2, h.a3, h.a4, h.a5, h.ws.fr0 f hn⟩
structure LC (ps : List (Act × List Int)) (ar nl dm w bar md : Nat) (s : AS) : Prop where
 lb : LB ps ar nl dm s.mem s.nxt
 wc : Wc w bar (octs ps) s
 lm : md < s.nxt
 em : s.mem md = .list ((runA c0 ps).ms.map .int)
theorem Wc.fr0 {w bar : Nat} {O : List UInt8} {s : AS} {l' : List OP} {m' : Nat -> AO} {n' : Nat} (h : Wc w bar O s) (f : MFr [] s.nxt s.mem m') (hn : s.nxt <= n') : Wc w bar O ⟨l', m', n'⟩:=by
 obtain ⟨a, b, d, low, sp, cache, held, e1, e2⟩:=h
 exact ⟨yK a hn, yK b hn, d, low, sp, cache, held, (f w a (by simp)).trans e1, (f bar b (by simp)).trans e2⟩
theorem LC.fr0 {ps : List (Act × List Int)} {ar nl dm w bar md : Nat} {s : AS} {l' : List OP} {m' : Nat -> AO} {n' : Nat} (h : LC ps ar nl dm w bar md s) (f : MFr [] s.nxt s.mem m') (hn : s.nxt <= n') : LC ps ar nl dm w bar md ⟨l', m', n'⟩ :=
 ⟨h.lb.frame f hn (by simp) (by simp) (by simp), h.wc.fr0 f hn, yK h.lm hn, (f md h.lm (by simp)).trans h.em⟩
noncomputable def rows1 : List PV:=[rowV 0 0 1 2, rowV 0 3 1 (-1), rowV 1 0 3 8, rowV 1 0 2 (-1), rowV 2 4 2 4, rowV 3 44 3 (-1)]
noncomputable def rows2 : List PV:=[rowV 0 0 1 1, rowV 1 0 2 1, rowV 2 4 2 1, rowV 3 44 2 3]
inductive P5 (script : List Int) (s : AS) : Prop where
 | mk (ps : List (Act × List Int)) (ar : Nat) (bo : Int) (nl dm w bar md : Nat) (x8 : OP) (rw : Nat) (h0 : LO ps ar nl dm w bar md (runA c0 ps) s) (h1 : rw < s.nxt) (h2 : s.mem rw = .list rows1) (h3 : s.loc = l0 (.ints script) ar bo nl (octs ps) dm w md x8 (some (.ref rw)) none none none none none none none none) : P5 script s
theorem law_5 {script : List Int} {s : AS} (h : P4 script s) : (sAsg 9 (eList [(eTup [(eTup [(eK (.int 0)), (eK (.int 0)), (eK (.int 1))]), (eK (.int 2))]), (eTup [(eTup [(eK (.int 0)), (eK (.int 3)), (eK (.int 1))]), (eNeg (eK (.int 1)))]), (eTup [(eTup [(eK (.int 1)), (eK (.int 0)), (eK (.int 3))]), (eK (.int 8))]), (eTup [(eTup [(eK (.int 1)), (eK (.int 0)), (eK (.int 2))]), (eNeg (eK (.int 1)))]), (eTup [(eTup [(eK (.int 2)), (eK (.int 4)), (eK (.int 2))]), (eK (.int 4))]), (eTup [(eTup [(eK (.int 3)), (eK (.int 44)), (eK (.int 3))]), (eNeg (eK (.int 1)))])]) s).post (fun f s' => f = .nx /\ P5 script s') NoE:=by
 obtain ⟨l, m, n⟩:=s
 obtain ⟨ps, ar, bo, nl, dm, w, bar, md, x8, lo, hloc⟩:=h
 dsimp only at hloc
 subst hloc
 unfold l0
 simp only [Zq2, Zt9, Zq3, Zq4, Zq5, Zq6, Zq9, Zq10, Zq42, Zq67, Zq68, Zq69, Zq70, bd_ok, post_ok]
 exact ⟨trivial, ps, ar, bo, nl, dm, w, bar, md, x8, n, lo.fr0 (MFr.refl.new (yM _)) (Nat.le_succ _), Nat.lt_succ_self _, zus _ _ _, rfl⟩
theorem refused_sp2 {w md rw : Nat} {z : Int} {ms : List Int} {rows : List PV} {s : AS} (hm : s.mem md = .list (ms.map .int)) (hmd : md < s.nxt) (hl : ms.length <= zLs) (hi : ∃ fs, s.mem w = .inst 283 fs) (hw : w < s.nxt) (hr : s.mem rw = .list rows) (hrl : rows.length <= zLs) (hrw : rw < s.nxt)
  (hrow : ∀ m', MFr [] s.nxt s.mem m' -> ∀ row ∈ rows, RowNo w md m' row) (hsz : ∀ l m' n', MFr [] s.nxt s.mem m' -> s.nxt <= n' -> F_RangeWriter_size [.ref w] ⟨l, m', n'⟩ = .ok (.int z) ⟨l, m', n'⟩) {X : Res PV} (hX : F_law_refused [.ref w, .ref md, .ref rw] s = X) :
  X.post (fun v s' => v = .bool true /\ Fr [] s s') NoE:=by
 subst hX
 exact refused_sp hm hmd hl hi hw hr hrl hrw hrow hsz
theorem notBit {x : Int} (h : x < 0 \/ 2 <= x) : ¬ Bit x:=fun q => by rcases q with q | q <;> lia
theorem law_6 {script : List Int} {s : AS} (h : P5 script s) : (sIf (tOr (tNot (tVal (eCall F_law_refused [(eL 6), (eL 7), (eL 9)]))) (tCmp .ne (eMeth 283 F_RangeWriter_size (eL 6) []) (eLen (eL 4)))) [sRet (eK (.bool false))] [] s).post (fun f s' => f = .nx /\ P5 script s') NoE:=by
 obtain ⟨l, m, n⟩:=s
 obtain ⟨ps, ar, bo, nl, dm, w, bar, md, x8, rw, lo, hrw, erw, hloc⟩:=h
 dsimp only at hloc hrw erw
 subst hloc
 have L : zLs = 1048576:=by decide
 have ws:=lo.ws
 obtain ⟨mb, low, cache, held, e1, e2, I⟩:=ws.wr.ex
 have hk:=lo.lb.k
 have hml:=lo.lb.g.ms.len
 have em:=ws.em
 dsimp only at e1 em
 have hwn : w < n:=ws.wr.lw
 have hrow : ∀ m', MFr [] n m m' -> ∀ row ∈ rows1, RowNo w md m' row:=fun m' f row hr => by
  have e1':=(f w hwn (by simp)).trans e1
  unfold rows1 at hr
  simp only [List.mem_cons, List.not_mem_nil, or_false] at hr
  rcases hr with rfl | rfl | rfl | rfl | rfl | rfl
  ·exact row0 e1' (notBit (.inr (by decide)))
  ·exact row0 e1' (notBit (.inl (by decide)))
  ·exact row1 e1' (by decide) (by decide) (.inr (by decide))
  ·exact row1 e1' (by decide) (by decide) (.inl (by decide))
  ·exact row2 e1' (by decide) (by decide) (.inr (by decide))
  ·exact row3 e1' (by decide) (by decide) (.inl (by decide))
 have hsz : ∀ l m' n', MFr [] n m m' -> n <= n' -> F_RangeWriter_size [.ref w] ⟨l, m', n'⟩ = .ok (.int (((runA c0 ps).k : Int) + 5)) ⟨l, m', n'⟩:=fun l m' n' f hn =>
  size_ap (ws.fr0 (l':=l) f hn).wr (by lia)
 have hlo:=fun s => len_byt (bs:=octs ps) (by rw [octs_len]; lia) s
 have hlen : ((octs ps).length : Int) = ((runA c0 ps).k : Int) + 5:=by rw [octs_len]; lia
 unfold l0
 simp only [Zg6, Zg7, Zg9, Zq3, Zq4, Zq5, Zq6, Zq17, Zq18, Zq21, Zq34, Zq55, bd_ok]
 generalize hX : F_law_refused [.ref w, .ref md, .ref rw] ⟨[some (.ints script), some (.ref ar), some (.int bo), some (.ref nl), some (.byt (octs ps)), some (.ref dm), some (.ref w), some (.ref md), x8, some (.ref rw), none, none, none, none, none, none, none, none], m, n⟩ = X
 have hx:=refused_sp2 em ws.lm (by rw [hml]; decide) ⟨_, e1⟩ hwn erw (by decide) hrw hrow hsz hX
 rw [post_bd, post_bd, post_bd, post_bd]
 refine post_mono hx ?_ fun _ _ h => h
 rintro v ⟨l1, m1, n1⟩ ⟨rfl, f1, f2, f3⟩
 dsimp only at f1 f2 f3
 subst f1
 unfold l0
 have e1':=(f3 w hwn (by simp)).trans e1
 have hs:=fun l => hsz l m1 n1 f3 f2
 have hne : ((((runA c0 ps).k : Int) + 5) != ((runA c0 ps).k : Int) + 5) = false:=by simp
 simp only [Zg4, Zg6, Zq3, Zq11, Zq12, Zq19, Zq35, Zq36, Zq37, Zq56, Zcm2, bd_ok, ap_cmpI, ap_truthB, ap_eLen, post_ok, ifK_f, mth_e e1', hs, hlo, hlen, hne, Bool.not_true]
 exact ⟨trivial, ps, ar, bo, nl, dm, w, bar, md, x8, rw, lo.fr0 f3 f2, yK hrw f2, (f3 rw hrw (by simp)).trans erw, rfl⟩
inductive P7 (script : List Int) (s : AS) : Prop where
 | mk (ps : List (Act × List Int)) (ar : Nat) (bo : Int) (nl dm w bar md : Nat) (x8 x9 : OP) (h0 : LC ps ar nl dm w bar md s) (h1 : s.loc = l0 (.ints script) ar bo nl (octs ps) dm w md x8 x9 none none none none none none none none) : P7 script s
theorem done_sp2 {w bar : Nat} {sp N R : Int} {k : Nat} {s : AS} (h : Wr w bar sp N R k false s) (hk : k <= 900) {X : Res PV} (hX : F_RangeWriter_done [.ref w] s = X) :
  X.post (fun v s' => ∃ mb, v = .byt mb /\ vb mb = N /\ mb.length = k + 5 /\ Wc w bar mb s' /\ Fr [w, bar] s s') NoE:=by
 subst hX
 exact done_sp h hk
theorem law_7 {script : List Int} {s : AS} (h : P5 script s) : (sIf (tOr (tCmp .ne (eBytes (eMeth 283 F_RangeWriter_done (eL 6) [])) (eL 4)) (tOr (tCmp .ne (eMeth 283 F_RangeWriter_size (eL 6) []) (eLen (eL 4))) (tCmp .ne (eListOf (eL 7)) (eL 5)))) [sRet (eK (.bool false))] [] s).post (fun f s' => f = .nx /\ P7 script s') NoE:=by
 obtain ⟨l, m, n⟩:=s
 obtain ⟨ps, ar, bo, nl, dm, w, bar, md, x8, rw, lo, hrw, erw, hloc⟩:=h
 dsimp only at hloc
 subst hloc
 have L : zLs = 1048576:=by decide
 have ws:=lo.ws
 obtain ⟨mb, low, cache, held, e1, e2, I⟩:=ws.wr.ex
 have hk:=lo.lb.k
 have g:=lo.lb.g
 have hml:=g.ms.len
 have em:=ws.em
 dsimp only at e1 em
 have n1:=ws.n1
 have n2:=ws.n2
 have hlo:=fun s => len_byt (bs:=octs ps) (by rw [octs_len]; lia) s
 have b1:=lo.a1
 have b2:=lo.a2
 have b3:=lo.a3
 have b4:=lo.a4
 unfold l0
 simp only [Zg6, Zq3, Zq11, Zq21, Zq35, Zq36, Zq37, Zq55, bd_ok, ap_eBytes, mth_e e1]
 generalize hX : F_RangeWriter_done [.ref w] ⟨[some (.ints script), some (.ref ar), some (.int bo), some (.ref nl), some (.byt (octs ps)), some (.ref dm), some (.ref w), some (.ref md), x8, some (.ref rw), none, none, none, none, none, none, none, none], m, n⟩ = X
 have hx:=done_sp2 (⟨ws.wr.lw, ws.wr.lb, ws.wr.ne, ws.wr.ex⟩ : Wr w bar _ _ _ _ false ⟨_, m, n⟩) (by lia) hX
 rw [post_bd, post_bd, post_bd, post_bd]
 refine post_mono hx ?_ fun _ _ h => h
 rintro v ⟨l1, m1, n1'⟩ ⟨mb2, rfl, hv, hlen, wc, f1, f2, f3⟩
 dsimp only at f1 f2 f3
 subst f1
 unfold l0
 have hmb : mb2 = octs ps:=by
  unfold octs
  rw [<- hv, <- hlen]
  exact (digs_vb _ _ rfl).symm
 subst hmb
 obtain ⟨c1, c2, c3, low', sp', cache', held', w1, w2⟩:=id wc
 dsimp only at w1 w2
 have em1 : m1 md = .list ((runA c0 ps).ms.map .int):=(f3 md ws.lm (by simp [n1, n2])).trans em
 have lb1:=lo.lb.frame f3 f2 (by simp; lia) (by simp; lia) (by simp; lia)
 have edm1:=lb1.edm
 have ldm1:=lb1.ldm
 have hs:=fun l n => size_cl (l:=l) (n:=n) w1 w2 (by rw [octs_len]; lia)
 have hne : ((octs ps) != (octs ps)) = false:=by simp
 have hne2 : (((octs ps).length : Int) != ((octs ps).length : Int)) = false:=by simp
 have hl80 : ((runA c0 ps).ms.map PV.int).length <= zLs:=by rw [yG, hml]; decide
 have hl80' : (runA c0 ps).ms.length <= zLs:=by rw [hml]; decide
 have hcm:=fun s => cmL_ne s hl80' hl80'
 have hdmn : dm ≠ n1':=Nat.ne_of_lt ldm1
 have hde : (!decide ((runA c0 ps).ms = (runA c0 ps).ms)) = false:=by simp
 simp only [Zg4, Zg5, Zg6, Zg7, Zq3, Zq11, Zq12, Zq21, Zq35, Zq36, Zq37, Zcm2, bd_ok, ap_cmpI, ap_bytesB, ap_eLen, ap_eListOf, zus, post_ok, ifK_f, if_true, ap_cmB2, hne, mth_e w1, hs, hlo, hne2, ap_loL, Res.loL, em1, hl80, ap_cmL, zun hdmn, edm1, hcm]
 exact ⟨rfl, ps, ar, bo, nl, dm, w, bar, md, x8, _, ⟨lb1.frame (W:=[]) (MFr.refl.new (yM _)) (Nat.le_succ _) (by simp) (by simp) (by simp), wc.fr0 (MFr.refl.new (yM _)) (Nat.le_succ _), yK ws.lm (yL f2 (Nat.le_succ _)), (zun (Nat.ne_of_lt (yK ws.lm f2))).trans em1⟩, rfl⟩
inductive P8 (script : List Int) (s : AS) : Prop where
 | mk (ps : List (Act × List Int)) (ar : Nat) (bo : Int) (nl dm w bar md : Nat) (x8 : OP) (rw : Nat) (h0 : LC ps ar nl dm w bar md s) (h1 : rw < s.nxt) (h2 : s.mem rw = .list rows2) (h3 : s.loc = l0 (.ints script) ar bo nl (octs ps) dm w md x8 (some (.ref rw)) none none none none none none none none) : P8 script s
theorem law_8 {script : List Int} {s : AS} (h : P7 script s) : (sAsg 9 (eList [(eTup [(eTup [(eK (.int 0)), (eK (.int 0)), (eK (.int 1))]), (eK (.int 1))]), (eTup [(eTup [(eK (.int 1)), (eK (.int 0)), (eK (.int 2))]), (eK (.int 1))]), (eTup [(eTup [(eK (.int 2)), (eK (.int 4)), (eK (.int 2))]), (eK (.int 1))]), (eTup [(eTup [(eK (.int 3)), (eK (.int 44)), (eK (.int 2))]), (eK (.int 3))])]) s).post (fun f s' => f = .nx /\ P8 script s') NoE:=by
 obtain ⟨l, m, n⟩:=s
 obtain ⟨ps, ar, bo, nl, dm, w, bar, md, x8, x9, lc, hloc⟩:=h
 dsimp only at hloc
 subst hloc
 unfold l0
 simp only [Zq2, Zt9, Zq3, Zq4, Zq5, Zq6, Zq42, Zq67, Zq68, Zq69, Zq70, bd_ok, post_ok]
 exact ⟨trivial, ps, ar, bo, nl, dm, w, bar, md, x8, n, lc.fr0 (MFr.refl.new (yM _)) (Nat.le_succ _), Nat.lt_succ_self _, zus _ _ _, rfl⟩
theorem law_9 {script : List Int} {s : AS} (h : P8 script s) : (sIf (tOr (tNot (tVal (eCall F_law_refused [(eL 6), (eL 7), (eL 9)]))) (tCmp .ne (eBytes (eMeth 283 F_RangeWriter_done (eL 6) [])) (eL 4))) [sRet (eK (.bool false))] [] s).post (fun f s' => f = .nx /\ P7 script s') NoE:=by
 obtain ⟨l, m, n⟩:=s
 obtain ⟨ps, ar, bo, nl, dm, w, bar, md, x8, rw, lc, hrw, erw, hloc⟩:=h
 dsimp only at hloc hrw erw
 subst hloc
 have L : zLs = 1048576:=by decide
 obtain ⟨c1, c2, c3, low', sp', cache', held', w1, w2⟩:=id lc.wc
 dsimp only at w1 w2 c1 c2
 have hk:=lc.lb.k
 have hml:=lc.lb.g.ms.len
 have em:=lc.em
 dsimp only at em
 have hol : (octs ps).length <= zLs:=by rw [octs_len]; lia
 have hrow : ∀ m', MFr [] n m m' -> ∀ row ∈ rows2, RowNo w md m' row:=fun m' f row hr => by
  have e1':=(f w c1 (by simp)).trans w1
  unfold rows2 at hr
  simp only [List.mem_cons, List.not_mem_nil, or_false] at hr
  rcases hr with rfl | rfl | rfl | rfl
  ·exact row0c e1' (.inr rfl)
  ·exact row1c e1' (by decide) (by decide) (by decide) (by decide)
  ·exact row2c e1'
  ·exact row3c e1'
 have hsz : ∀ l m' n', MFr [] n m m' -> n <= n' -> F_RangeWriter_size [.ref w] ⟨l, m', n'⟩ = .ok (.int ((octs ps).length : Int)) ⟨l, m', n'⟩:=fun l m' n' f hn =>
  size_cl ((f w c1 (by simp)).trans w1) ((f bar c2 (by simp)).trans w2) hol
 unfold l0
 simp only [Zg6, Zg7, Zg9, Zq3, Zq4, Zq5, Zq6, Zq17, Zq18, Zq21, Zq34, Zq55, bd_ok]
 generalize hX : F_law_refused [.ref w, .ref md, .ref rw] ⟨[some (.ints script), some (.ref ar), some (.int bo), some (.ref nl), some (.byt (octs ps)), some (.ref dm), some (.ref w), some (.ref md), x8, some (.ref rw), none, none, none, none, none, none, none, none], m, n⟩ = X
 have hx:=refused_sp2 em lc.lm (by rw [hml]; decide) ⟨_, w1⟩ c1 erw (by decide) hrw hrow hsz hX
 rw [post_bd, post_bd, post_bd, post_bd]
 refine post_mono hx ?_ fun _ _ h => h
 rintro v ⟨l1, m1, n1⟩ ⟨rfl, f1, f2, f3⟩
 dsimp only at f1 f2 f3
 subst f1
 unfold l0
 have lc1 : ∀ l', LC ps ar nl dm w bar md ⟨l', m1, n1⟩:=fun l' => lc.fr0 f3 f2
 have w1':=(f3 w c1 (by simp)).trans w1
 have hd:=fun l' => done_cl (lc1 l').wc hol
 have hne : ((octs ps) != (octs ps)) = false:=by simp
 simp only [Zg4, Zg6, Zq3, Zq11, Zq12, Zq19, Zq35, Zq36, Zq37, Zq56, bd_ok, ap_truthB, ap_eBytes, ap_bytesB, post_ok, ifK_f, mth_e w1', hd, ap_cmB2, hne, Bool.not_true]
 exact ⟨trivial, ps, ar, bo, nl, dm, w, bar, md, x8, _, lc1 _, rfl⟩
structure TrOk (tr : TR) : Prop where
 n : tr.nums.length <= 10
 nv : ∀ x ∈ tr.nums, 0 <= x /\ x < 100000
 m : tr.ms.length <= 80
 mv : ∀ x ∈ tr.ms, 0 <= x /\ x < 100000
 t : tr.txt = "short" \/ tr.txt = "header" \/ tr.txt = "code" \/ tr.txt = ""
 f : ∀ x b, tr.fin = some (x, b) -> 0 <= x /\ x < 100000
noncomputable def intsD (ns : List Int) : List PyData:=ns.map .int
noncomputable def finD : Option (Int × Bool) -> PyData
 | none => .none
 | some (x, b) => .tuple [.int x, .bool b]
noncomputable def trD (tr : TR) : PyData:=.tuple [.list (intsD tr.nums), .str tr.txt, .list (intsD tr.ms), finD tr.fin]
noncomputable def Sm (x : Int) : Prop:=0 <= x /\ x < 100000
theorem int_short {x : Int} (h : Sm x) : (PyData.shown (.int x)).length <= 20:=by
 simp only [PyData.shown]
 exact yL (toString_length_le (k:=5) h.1 (by decide) h.2) (by decide)
theorem int_log {x : Int} (h : Sm x) : x.natAbs.log2 < 17:=by
 by_cases q : x.natAbs = 0
 ·rw [q]; decide
 ·have:=h.2; have:=h.1
  exact (Nat.log2_lt q).mpr (by lia)
theorem int_weight {x : Int} (h : Sm x) : (PyData.int x).weight <= 17:=by
 have:=int_log h
 simp only [PyData.weight]
 split <;> lia
theorem ints_leaf : ∀ {ns : List Int}, (∀ x ∈ ns, Sm x) -> PyData.leavesShortAll 20 (intsD ns) = true
 | [], _ => by simp [intsD, PyData.leavesShortAll]
 | x :: r, h => by
  have h1:=int_short (h x (.head _))
  have h2:=ints_leaf fun y hy => h y (.tail _ hy)
  show PyData.leavesShortAll 20 (.int x :: intsD r) = true
  simp only [PyData.leavesShortAll, PyData.leavesShort, h2, Bool.and_true, decide_eq_true_eq]
  exact h1
theorem ints_weight : ∀ {ns : List Int}, (∀ x ∈ ns, Sm x) -> PyData.weightAll (intsD ns) <= 18 * ns.length
 | [], _ => by simp [intsD, PyData.weightAll]
 | x :: r, h => by
  have h1:=int_weight (h x (.head _))
  have h2:=ints_weight fun y hy => h y (.tail _ hy)
  show PyData.weightAll (.int x :: intsD r) <= _
  simp only [PyData.weightAll, yA]
  lia
theorem ints_show : ∀ {ns : List Int}, (∀ x ∈ ns, Sm x) -> PyData.showableAll (intsD ns) = true
 | [], _ => by simp [intsD, PyData.showableAll]
 | x :: r, h => by
  have h1:=int_log (h x (.head _))
  have h2:=ints_show fun y hy => h y (.tail _ hy)
  show PyData.showableAll (.int x :: intsD r) = true
  simp only [PyData.showableAll, PyData.showable, h2, Bool.and_true, decide_eq_true_eq]
  lia
theorem ints_dict : ∀ (ns : List Int), PyData.hasDictAll (intsD ns) = false
 | [] => by simp [intsD, PyData.hasDictAll]
 | x :: r => by
  show PyData.hasDictAll (.int x :: intsD r) = false
  simp only [PyData.hasDictAll, PyData.hasDict, ints_dict r, Bool.or_false]
theorem ints_depth : ∀ (ns : List Int), PyData.depthAll (intsD ns) = 0
 | [] => by simp [intsD, PyData.depthAll]
 | x :: r => by
  show PyData.depthAll (.int x :: intsD r) = 0
  simp only [PyData.depthAll, PyData.depth, ints_depth r]
  rfl
theorem ints_data : ∀ (ns : List Int), dataInts (ns.map .int) = some (intsD ns)
 | [] => rfl
 | x :: r => by
  show (dataInts (r.map .int)).map (.int x :: ·) = _
  rw [ints_data r]; rfl
theorem txt_leaf {t : Str} (h : t = "short" \/ t = "header" \/ t = "code" \/ t = "") : (PyData.str t).leavesShort 20 = true /\ (PyData.str t).weight <= 6:=by
 rcases h with rfl | rfl | rfl | rfl <;> exact ⟨by decide +kernel, by decide +kernel⟩
theorem fin_leaf {f : Option (Int × Bool)} (h : ∀ x b, f = some (x, b) -> Sm x) : (finD f).leavesShort 20 = true /\ (finD f).weight <= 30 /\ (finD f).showable = true /\ (finD f).hasDict = false /\ (finD f).depth <= 1:=by
 cases f with
 | none => exact ⟨rfl, by decide, rfl, rfl, by decide⟩
 | some p =>
  obtain ⟨x, b⟩:=p
  have hx:=h x b rfl
  have h1:=int_short hx
  have h2:=int_weight hx
  have h3:=int_log hx
  have hb : (PyData.bool b).weight <= 10:=by cases b <;> decide
  refine ⟨?_, ?_, ?_, ?_, ?_⟩
  ·simp only [finD, PyData.leavesShort, PyData.leavesShortAll, Bool.and_true, decide_eq_true_eq]; exact h1
  ·simp only [finD, PyData.weight, PyData.weightAll] at h2 hb ⊢
   lia
  ·simp only [finD, PyData.showable, PyData.showableAll, Bool.and_true, decide_eq_true_eq]; lia
  ·simp only [finD, PyData.hasDict, PyData.hasDictAll, Bool.or_false]
  ·simp only [finD, PyData.depth, PyData.depthAll]; decide
theorem tr_shown {tr : TR} (h : TrOk tr) : (trD tr).shown.length <= zLs /\ (trD tr).showable = true /\ (trD tr).hasDict = false /\ (trD tr).depth <= 10:=by
 obtain ⟨f1, f2, f3, f4, f5⟩:=fin_leaf (f:=tr.fin) h.f
 obtain ⟨t1, t2⟩:=txt_leaf h.t
 have L : zLs = 1048576:=by decide
 have n1:=ints_leaf h.nv
 have n2:=ints_weight h.nv
 have n3:=ints_show h.nv
 have m1:=ints_leaf h.mv
 have m2:=ints_weight h.mv
 have m3:=ints_show h.mv
 have hn:=h.n
 have hm:=h.m
 refine ⟨?_, ?_, ?_, ?_⟩
 ·have hl : (trD tr).leavesShort 20 = true:=by
   simp only [trD, PyData.leavesShort, PyData.leavesShortAll, n1, m1, f1, Bool.and_true, Bool.true_and]
   simpa only [PyData.leavesShort] using t1
  have hw : (trD tr).weight <= 2000:=by
   simp only [trD, PyData.weight, PyData.weightAll] at t2 ⊢
   lia
  have:=PyData.shown_le 20 (by decide) (trD tr) hl
  have h22 : (20 + 2) * (trD tr).weight <= 22 * 2000:=Nat.mul_le_mul_left _ hw
  lia
 ·simp only [trD, PyData.showable, PyData.showableAll, n3, m3, f3, Bool.and_true]
 ·simp only [trD, PyData.hasDict, PyData.hasDictAll, ints_dict, f4, Bool.or_false]
 ·simp only [trD, PyData.depth, PyData.depthAll, ints_depth]
  exact Nat.succ_le_succ (yL (Nat.max_le.mpr ⟨yM 1, Nat.max_le.mpr ⟨by decide, Nat.max_le.mpr ⟨yM 1, Nat.max_le.mpr ⟨f5, by decide⟩⟩⟩⟩) (by decide : 1 <= 9))
theorem repr_ap {tr : TR} (h : TrOk tr) {nl md : Nat} {l : List OP} {m : Nat -> AO} {n : Nat} (h1 : m nl = .list (tr.nums.map .int)) (h2 : m md = .list (tr.ms.map .int)) :
  reprM (.tup [.ref nl, .str tr.txt, .ref md, finV tr.fin]) ⟨l, m, n⟩ = .ok (.str (trD tr).shown) ⟨l, m, n⟩:=by
 have hd : dataOfL m [.ref nl, .str tr.txt, .ref md, finV tr.fin] = some [.list (intsD tr.nums), .str tr.txt, .list (intsD tr.ms), finD tr.fin]:=by
  have e1 : dataOf1 m (.ref nl) = some (.list (intsD tr.nums)):=by
   unfold dataOf1
   simp only [h1, ints_data, Option.map_some]
  have e2 : dataOf1 m (.ref md) = some (.list (intsD tr.ms)):=by
   unfold dataOf1
   simp only [h2, ints_data, Option.map_some]
  have e3 : dataOfL m [finV tr.fin] = some [finD tr.fin]:=by
   cases tr.fin with
   | none => rfl
   | some p => obtain ⟨x, b⟩:=p; rfl
  simp only [dataOfL, e1, e2, e3]
  rfl
 unfold reprM
 dsimp only
 rw [hd]
 dsimp only
 exact if_pos (tr_shown h)
theorem tellB_ok {O : List UInt8} {a : Act} (ha : ActOk a) : ∀ (t : Nat) (c : C) (bs : List Int) (c' : C) (bs' : List Int), Td O c -> Bits bs -> bs.length + t = a.cnt -> tellB O a t c bs = .ok (c', bs') -> Td O c' /\ Bits bs' /\ bs'.length = a.cnt
 | 0, c, bs, c', bs', td, hb, hl, h => by cases h; exact ⟨td, hb, hl⟩
 | t + 1, c, bs, c', bs', td, hb, hl, h => by
  have hnd:=nodeOf_bd hb
  have hso:=spt_ok ha hnd.1 hnd.2 (by lia)
  rw [tellB_s] at h
  split at h
  ·cases h
  ·rename_i hbad
   split at h
   ·cases h
   ·rename_i hk
    exact tellB_ok ha t _ _ _ _ (td_step td hso hbad hk) (bits_snoc hb (tbit_bit _ _ _)) (by rw [yH]; simp; lia) h
theorem tellB_txt {O : List UInt8} {a : Act} : ∀ (t : Nat) (c : C) (bs : List Int) (e : Str × List Int), tellB O a t c bs = .error e -> e.1 = "short" \/ e.1 = "code"
 | 0, c, bs, e, h => by cases h
 | t + 1, c, bs, e, h => by
  rw [tellB_s] at h
  split at h
  ·cases h; exact .inr rfl
  ·split at h
   ·cases h; exact .inl rfl
   ·exact tellB_txt t _ _ e h
theorem numOf_bd {a : Act} (ha : ActOk a) {bs : List Int} (hb : Bits bs) (hl : bs.length = a.cnt) : 0 <= numOf a bs /\ numOf a bs < 100000:=by
 have h1:=lv_bd hb
 have h2:=lv_nonneg hb
 have h12:=ha.c
 have hs : ∀ j : Nat, j <= 12 -> (2 : Int) ^ j <= 4096:=by decide
 have:=hs bs.length (by lia)
 unfold numOf
 split <;> lia
theorem ms_small {ms : List Int} (h : MsOk ms) : ms.length <= 80 /\ ∀ x ∈ ms, 0 <= x /\ x < 100000:=⟨by rw [h.len]; decide, fun x hx => by have:=h.m x hx; lia⟩
theorem tellA_ok {O : List UInt8} (hO : O.length <= 50000) : ∀ (acts : List Act) (c : C) (ns : List Int), (∀ a ∈ acts, ActOk a) -> Td O c -> ns.length + acts.length <= 10 -> (∀ x ∈ ns, 0 <= x /\ x < 100000) -> TrOk (tellA O acts c ns)
 | [], c, ns, _, td, hl, hn => by
  obtain ⟨m1, m2⟩:=ms_small td.g.ms
  refine ⟨(show ns.length <= 10 by simpa using hl), hn, m1, m2, .inr (.inr (.inr rfl)), ?_⟩
  intro x b h
  cases h
  have:=td.len
  lia
 | a :: r, c, ns, hok, td, hl, hn => by
  have ha:=hok a (.head _)
  rw [tellA]
  cases h : tellB O a a.cnt c [] with
  | error e =>
   have hms:=tellB_ms ha a.cnt c [] e td.g (fun _ h => by cases h) (by simp) h
   obtain ⟨m1, m2⟩:=ms_small hms
   refine ⟨by show ns.length <= 10; lia, hn, m1, m2, ?_, fun x b h => by cases h⟩
   rcases tellB_txt _ _ _ _ h with q | q
   ·exact .inl q
   ·exact .inr (.inr (.inl q))
  | ok p =>
   obtain ⟨c', bs⟩:=p
   obtain ⟨td', hb, hbl⟩:=tellB_ok ha a.cnt c [] c' bs td (fun _ h => by cases h) (by simp) h
   refine tellA_ok hO r c' _ (fun x hx => hok x (.tail _ hx)) td' (by rw [yH]; simp at hl ⊢; lia) ?_
   intro x hx
   rcases List.mem_append.mp hx with h1 | h1
   ·exact hn x h1
   ·rw [List.mem_singleton.mp h1]; exact numOf_bd ha hb hbl
theorem tell_trok {O : List UInt8} {acts : List Act} (hO : O.length <= 50000) (hok : ∀ a ∈ acts, ActOk a) (hl : acts.length <= 10) : TrOk (tell O acts):=by
 obtain ⟨m1, m2⟩:=ms_small gd_c0.ms
 have base : ∀ t : Str, (t = "short" \/ t = "header" \/ t = "code" \/ t = "") -> TrOk ⟨[], t, c0.ms, none⟩:=fun t ht => ⟨Nat.zero_le _, fun x hx => (by cases hx), m1, m2, ht, fun x b h => (by cases h)⟩
 unfold tell
 split
 ·exact base _ (.inl rfl)
 ·rename_i q1
  split
  ·exact base _ (.inr (.inl rfl))
  ·rename_i q2
   split
   ·exact base _ (.inr (.inr (.inl rfl)))
   ·rename_i q3
    have hz : (O.getD 0 0).toNat = 0:=by
     by_cases h : (O.getD 0 0).toNat = 0
     ·exact h
     ·exact absurd h q2
    have h5 : 5 <= O.length:=by
     by_cases h : O.length < 5
     ·exact absurd (.inr ⟨hz, h⟩) q1
     ·lia
    exact tellA_ok hO acts c0 [] hok (td_c0 h5 hz q3) (by simpa using hl) (fun x hx => by cases hx)
inductive P10 (script : List Int) (s : AS) : Prop where
 | mk (ps : List (Act × List Int)) (ar : Nat) (bo : Int) (nl dm w bar md : Nat) (x8 x9 : OP) (sd : Int) (h0 : LB ps ar nl dm s.mem s.nxt) (h1 : s.loc = l0 (.ints script) ar bo nl (octs ps) dm w md x8 x9 (some (.int sd)) none none none none none none none) : P10 script s
theorem sum_byt {bs : List UInt8} (h : bs.length <= zLs) (s : AS) : sumM (.byt bs) s = .ok (.int (bs.map fun b => (b.toNat : Int)).sum) s:=if_pos h
theorem law_10 {script : List Int} {s : AS} (h : P7 script s) : (sAsg 10 (eBin .add (eSum (eL 3)) (eSum (eL 4))) s).post (fun f s' => f = .nx /\ P10 script s') NoE:=by
 obtain ⟨l, m, n⟩:=s
 obtain ⟨ps, ar, bo, nl, dm, w, bar, md, x8, x9, lc, hloc⟩:=h
 dsimp only at hloc
 subst hloc
 have L : zLs = 1048576:=by decide
 have hk:=lc.lb.k
 have hlen:=lc.lb.len
 have enl:=lc.lb.enl
 dsimp only at enl
 have hs1:=fun s => smL_ints s (ns:=ps.map numP) (by rw [yG]; lia)
 have hs2:=fun s => sum_byt (bs:=octs ps) (by rw [octs_len]; lia) s
 unfold l0
 simp only [Zg3, Zg4, Zt10, Zq7, Zq8, Zq42, bd_ok, ofI_some, ap_binI, ap_eSum, i_add, post_ok, ap_smL, enl, hs1, hs2]
 exact ⟨trivial, ps, ar, bo, nl, dm, w, bar, md, x8, x9, _, lc.lb, rfl⟩
theorem repL {v : PV} (y : Int) : rep [v] y = List.replicate y.toNat v:=by
 unfold rep
 induction y.toNat with
 | zero => rfl
 | succ n ih => rw [List.replicate_succ, List.flatten_cons, ih]; rfl
theorem ap_mulL {i : Nat} {v : PV} {y : Int} {l : List OP} {m : Nat -> AO} {n : Nat} (h1 : m i = .list [v]) (h0 : 0 <= y) (h2 : y <= zLs) : binM .mul (.ref i) (.int y) ⟨l, m, n⟩ = .ok (.ref n) ⟨l, upd m n (.list (List.replicate y.toNat v)), n + 1⟩:=by
 unfold binM
 dsimp only
 rw [h1]
 dsimp only
 rw [if_pos ⟨rfl, h0, h2⟩, repL]
 rfl
theorem by_ints {i : Nat} {ns : List Int} {l : List OP} {m : Nat -> AO} {n : Nat} (h1 : m i = .list (ns.map .int)) (h2 : ∀ x ∈ ns, 0 <= x /\ x < 256) (h3 : ns.length <= zLs) : bytesM (.ref i) ⟨l, m, n⟩ = .ok (.byt (ns.map fun x => UInt8.ofNat x.toNat)) ⟨l, m, n⟩:=by
 rw [ap_byB]
 unfold Res.byB
 rw [h1]
 dsimp only
 rw [toBytes_map ns h2]
 dsimp only
 exact if_pos (by rw [yG]; exact h3)
inductive P11 (script : List Int) (s : AS) : Prop where
 | mk (ps : List (Act × List Int)) (ar : Nat) (bo : Int) (nl dm w bar md : Nat) (x8 x9 : OP) (sd : Int) (be bh : List UInt8) (h0 : LB ps ar nl dm s.mem s.nxt) (h1 : be.length <= 10) (h2 : bh.length <= 10) (h3 : s.loc = l0 (.ints script) ar bo nl (octs ps) dm w md x8 x9 (some (.int sd)) (some (.byt be)) (some (.byt bh)) none none none none none) : P11 script s
theorem law_11 {script : List Int} {s : AS} (h : P10 script s) : (sSwap [11, 12] [(eBytes (eBin .mul (eList [(eK (.int 9))]) (eBin .mod (eL 10) (eK (.int 3))))), (eBytes (eCut (eList [(eK (.int 0)), (eK (.int 255)), (eK (.int 7))]) none (some (eBin .mod (eBin .fdiv (eL 10) (eK (.int 3))) (eK (.int 4))))))] s).post (fun f s' => f = .nx /\ P11 script s') NoE:=by
 obtain ⟨l, m, n⟩:=s
 obtain ⟨ps, ar, bo, nl, dm, w, bar, md, x8, x9, sd, lb, hloc⟩:=h
 dsimp only at hloc
 subst hloc
 have L : zLs = 1048576:=by decide
 have h3 : intOp .mod sd 3 = some (sd % 3):=i_mod (by decide)
 have h4 : intOp .fdiv sd 3 = some (sd / 3):=i_fd (by decide) (by decide)
 have h5 : intOp .mod (sd / 3) 4 = some (sd / 3 % 4):=i_mod (by decide)
 have q1:=fun (l : List OP) (m : Nat -> AO) (n : Nat) => ap_mulL (i:=n) (v:=.int 9) (y:=sd % 3) (l:=l) (m:=upd m n (.list [.int 9])) (n:=n + 1) (zus _ _ _) (by lia) (by lia)
 have q2:=fun (l : List OP) (m : Nat -> AO) (n : Nat) => by_ints (i:=n) (ns:=List.replicate (sd % 3).toNat 9) (l:=l) (m:=upd m n (.list (List.replicate (sd % 3).toNat (.int 9)))) (n:=n + 1) (by rw [zus, List.map_replicate]) (fun x hx => by rw [List.eq_of_mem_replicate hx]; decide) (by rw [List.length_replicate]; lia)
 have q3:=fun (l : List OP) (m : Nat -> AO) (n : Nat) => cut_to (i:=n) (vs:=[.int 0, .int 255, .int 7]) (k:=sd / 3 % 4) (l:=l) (m:=upd m n (.list [.int 0, .int 255, .int 7])) (n:=n + 1) (zus _ _ _) (by decide) (by lia) (by lia)
 have q4:=fun (l : List OP) (m : Nat -> AO) (n : Nat) => by_ints (i:=n) (ns:=[0, 255, 7].take (sd / 3 % 4).toNat) (l:=l) (m:=upd m n (.list (List.take (sd / 3 % 4).toNat [.int 0, .int 255, .int 7]))) (n:=n + 1) (by rw [zus, List.map_take]; rfl) (fun x hx => by
  have:=List.mem_of_mem_take hx
  simp at this
  lia) (by rw [List.length_take]; exact yL (Nat.min_le_right _ _) (by decide))
 unfold l0
 simp only [Zq2, Zg10, Zu11, Zu12, Zq3, Zq4, Zq5, Zq6, Zq7, Zq8, Zq43, Zq69, Zq70, Zq88, Zq89, Zq90, Zq91, Zq92, bd_ok, ofI_some, ap_binI, ap_eBytes, post_ok, yE, yF, h3, h4, h5, q1, q2, ap_eCut2, q3, q4, List.reverse_cons, List.reverse_nil]
 have lb' : LB ps ar nl dm m n:=lb
 refine ⟨trivial, ps, ar, bo, nl, dm, w, bar, md, x8, x9, sd, _, _, lb'.frame (W:=[]) ?_ (show n <= n + 1 + 1 + 1 + 1 by lia) (by simp) (by simp) (by simp), ?_, ?_, rfl⟩
 ·repeat' first | exact MFr.refl | (refine MFr.own ?_ (.head _)) | (refine MFr.own ?_ (.tail _ (.head _))) | (refine MFr.own ?_ (.tail _ (.tail _ (.head _)))) | (refine MFr.new ?_ (by lia))
 ·rw [yG, List.length_replicate]; lia
 ·rw [yG, List.length_take]; exact yL (Nat.min_le_right _ _) (by decide)
theorem LB.acts {ps : List (Act × List Int)} {ar nl dm n : Nat} {m : Nat -> AO} (h : LB ps ar nl dm m n) : (∀ a ∈ ps.map (·.1), ActOk a) /\ (ps.map (·.1)).length <= 10:=by
 refine ⟨fun a ha => ?_, by rw [yG]; exact h.len⟩
 obtain ⟨p, hp, rfl⟩:=List.mem_map.mp ha
 exact (h.ok p hp).1
theorem heard_sp2 {ar : Nat} {O pre post : List UInt8} {acts : List Act} {s : AS} (hok : ∀ a ∈ acts, ActOk a) (hl : acts.length <= 10) (har : ar < s.nxt) (hm : s.mem ar = .list (acts.map actV)) (hD : (pre ++ O ++ post).length <= 60000) {X : Res PV} (hX : F_law_heard [.ref ar, .byt O, .byt pre, .byt post] s = X) :
  X.post (RetOk (tell O acts) s) NoE:=by
 subst hX
 exact heard_sp hok hl har hm hD
theorem told_sp2 {ar : Nat} {O : List UInt8} {acts : List Act} {s : AS} (hok : ∀ a ∈ acts, ActOk a) (hl : acts.length <= 10) (har : ar < s.nxt) (hm : s.mem ar = .list (acts.map actV)) (hO : O.length <= 50000) {X : Res PV} (hX : F_law_told [.ref ar, .byt O] s = X) :
  X.post (RetOk (tell O acts) s) NoE:=by
 subst hX
 exact told_sp hok hl har hm hO
theorem ap_cmS (x y : Str) (s : AS) : cmpM .ne (.str x) (.str y) s = .ok (x != y) s:=rfl
theorem law_12 {script : List Int} {s : AS} (h : P11 script s) : (sIf (tCmp .ne (eRepr (eCall F_law_heard [(eL 1), (eL 4), (eL 11), (eL 12)])) (eRepr (eTup [(eL 3), (eK (.str "")), (eL 5), (eTup [(eLen (eL 4)), (eK (.bool true))])]))) [sRet (eK (.bool false))] [] s).post (fun f s' => f = .nx /\ P11 script s') NoE:=by
 obtain ⟨l, m, n⟩:=s
 obtain ⟨ps, ar, bo, nl, dm, w, bar, md, x8, x9, sd, be, bh, lb, hbe, hbh, hloc⟩:=h
 dsimp only at hloc lb
 subst hloc
 have L : zLs = 1048576:=by decide
 have hk:=lb.k
 obtain ⟨ha1, ha2⟩:=lb.acts
 have hol:=octs_len ps
 have hlo:=fun s => len_byt (bs:=octs ps) (by lia) s
 have htell:=own_tell (O:=octs ps) lb.ok hol (octs_vb lb.ok)
 have htr:=tell_trok (O:=octs ps) (acts:=ps.map (·.1)) (by lia) ha1 ha2
 unfold l0
 simp only [Zg1, Zg4, Zg11, Zg12, Zq3, Zq4, Zq5, Zq6, Zq11, Zq34, Zq55, bd_ok, ap_eRepr]
 generalize hX : F_law_heard [.ref ar, .byt (octs ps), .byt be, .byt bh] ⟨[some (.ints script), some (.ref ar), some (.int bo), some (.ref nl), some (.byt (octs ps)), some (.ref dm), some (.ref w), some (.ref md), x8, x9, some (.int sd), some (.byt be), some (.byt bh), none, none, none, none, none], m, n⟩ = X
 have hx:=heard_sp2 (s:=⟨[some (.ints script), some (.ref ar), some (.int bo), some (.ref nl), some (.byt (octs ps)), some (.ref dm), some (.ref w), some (.ref md), x8, x9, some (.int sd), some (.byt be), some (.byt bh), none, none, none, none, none], m, n⟩) ha1 ha2 lb.lar lb.ear (by rw [yH, yH]; lia) hX
 rw [post_bd, post_bd, post_bd]
 refine post_mono hx ?_ fun _ _ h => h
 rintro v ⟨l1, m1, n1⟩ ⟨nl2, md2, rfl, r1, r2, r3, r4, r5, r6, f1, f2, f3⟩
 dsimp only at r1 r2 f1 f2 f3
 subst f1
 have lb1:=lb.frame f3 f2 (by simp) (by simp) (by simp)
 have rp1:=fun l => repr_ap htr (l:=l) (n:=n1) r1 r2
 have rp2 : ∀ l, reprM (.tup [.ref nl, .str "", .ref dm, .tup [.int (octs ps).length, .bool true]]) ⟨l, m1, n1⟩ = .ok (.str (trD (tell (octs ps) (ps.map (·.1)))).shown) ⟨l, m1, n1⟩:=fun l => by
  have:=repr_ap (tr:=⟨ps.map numP, "", (runA c0 ps).ms, some ((octs ps).length, true)⟩) (by rw [<- htell]; exact htr) (l:=l) (n:=n1) lb1.enl lb1.edm
  rw [htell]
  exact this
 have hne : ∀ x : Str, (x != x) = false:=fun x => by simp
 simp only [Zq2, Zg3, Zg4, Zg5, Zq3, Zq4, Zq5, Zq6, Zq12, Zq56, Zq67, Zq68, bd_ok, ap_eLen, ap_eRepr, post_ok, ifK_f, rp1, rp2, hlo, ap_cmS, hne]
 exact ⟨trivial, ps, ar, bo, nl, dm, w, bar, md, x8, x9, sd, be, bh, lb1, hbe, hbh, rfl⟩
inductive P13 (script : List Int) (s : AS) : Prop where
 | mk (ps : List (Act × List Int)) (ar : Nat) (bo : Int) (nl dm w bar md : Nat) (x8 x9 : OP) (sd : Int) (be bh : List UInt8) (pl : Nat) (fa : List UInt8) (h0 : LB ps ar nl dm s.mem s.nxt) (h1 : be.length <= 10) (h2 : bh.length <= 10) (h3 : pl < (octs ps).length) (h4 : fa.length <= 50) (h5 : s.loc = l0 (.ints script) ar bo nl (octs ps) dm w md x8 x9 (some (.int sd)) (some (.byt be)) (some (.byt bh)) (some (.int pl)) (some (.byt fa)) none none none) : P13 script s
theorem law_13 {script : List Int} {s : AS} (h : P11 script s) : (sSwap [13, 14] [(eBin .mod (eL 10) (eLen (eL 4))), (eBytes (eBin .add (eList [(eBin .mul (eIntB (tCmp .eq (eBin .mod (eL 10) (eK (.int 5))) (eK (.int 0)))) (eK (.int 3)))]) (eCompZ [(eBin .mod (eL 10) (eK (.int 31)))] (fun x => (pBin .mod (pBin .add (pBin .mul (pL 10) (pBin .pow (pBin .add (pK x) (pK (.int 3))) (pK (.int 3)))) (pBin .mul (pK (.int 91)) (pK x))) (pK (.int 256)))))))] s).post (fun f s' => f = .nx /\ P13 script s') NoE:=by
 obtain ⟨l, m, n⟩:=s
 obtain ⟨ps, ar, bo, nl, dm, w, bar, md, x8, x9, sd, be, bh, lb, hbe, hbh, hloc⟩:=h
 dsimp only at hloc lb
 subst hloc
 have L : zLs = 1048576:=by decide
 have hk:=lb.k
 have hol:=octs_len ps
 have hlo:=fun s => len_byt (bs:=octs ps) (by lia) s
 have hpos : (0 : Int) < ((octs ps).length : Int):=by lia
 have g1 : intOp .mod sd ((octs ps).length : Int) = some (sd % ((octs ps).length : Int)):=i_mod hpos
 have p0:=Int.emod_nonneg sd (Int.ne_of_gt hpos)
 have p1:=Int.emod_lt_of_pos sd hpos
 obtain ⟨pl, hpl⟩ : ∃ pl : Nat, sd % ((octs ps).length : Int) = pl:=⟨_, (Int.toNat_of_nonneg p0).symm⟩
 rw [hpl] at g1
 have g5 : intOp .mod sd 5 = some (sd % 5):=i_mod (by decide)
 have g31 : intOp .mod sd 31 = some (sd % 31):=i_mod (by decide)
 obtain ⟨b, hb, hb01⟩ : ∃ b : Int, (if sd % 5 = 0 then (1 : Int) else 0) = b /\ (b = 0 \/ b = 1):=by
  split
  ·exact ⟨1, rfl, .inr rfl⟩
  ·exact ⟨0, rfl, .inl rfl⟩
 have g3 : intOp .mul b 3 = some (b * 3):=i_mul (.inr (by decide))
 obtain ⟨N, hN, hN30⟩ : ∃ N : Nat, sd % 31 = (N : Int) /\ N <= 30:=⟨(sd % 31).toNat, by lia, by lia⟩
 rw [hN] at g31
 have hr:=rangeK1 (b:=(N : Int)) (n:=N) rfl (by lia)
 have hg : ∀ (m' : Nat -> AO) (n' : Nat), ∀ k ∈ (List.range N).map (fun (k : Nat) => (k : Int)), (fun x => pBin .mod (pBin .add (pBin .mul (pL 10) (pBin .pow (pBin .add (pK x) (pK (.int 3))) (pK (.int 3)))) (pBin .mul (pK (.int 91)) (pK x))) (pK (.int 256))) (.int k) ⟨[some (.ints script), some (.ref ar), some (.int bo), some (.ref nl), some (.byt (octs ps)), some (.ref dm), some (.ref w), some (.ref md), x8, x9, some (.int sd), some (.byt be), some (.byt bh), none, none, none, none, none], m', n'⟩ = some (.int ((sd * (k + 3) ^ 3 + 91 * k) % 256)):=fun m' n' k hk => by
  obtain ⟨j, hj, rfl⟩:=List.mem_map.mp hk
  have hj:=List.mem_range.mp hj
  have hcube : ∀ i : Nat, i <= 30 -> (((i : Int) + 3) ^ 3).natAbs < 2 ^ 64:=by decide
  refine pBin_at (pBin_at (pBin_at (pL_at rfl) (pBin_at (pBin_at rfl rfl rfl) rfl (i_pow (by decide) (by decide) (nab (by lia) (by lia)))) (i_mul (.inr (hcube j (by lia))))) (pBin_at rfl rfl (i_mul (.inl (by decide)))) rfl) rfl (i_mod (by decide))
 have hcm:=fun (m' : Nat -> AO) (n' : Nat) => compR_ap (elt:=fun x => pBin .mod (pBin .add (pBin .mul (pL 10) (pBin .pow (pBin .add (pK x) (pK (.int 3))) (pK (.int 3)))) (pBin .mul (pK (.int 91)) (pK x))) (pK (.int 256))) (l:=[some (.ints script), some (.ref ar), some (.int bo), some (.ref nl), some (.byt (octs ps)), some (.ref dm), some (.ref w), some (.ref md), x8, x9, some (.int sd), some (.byt be), some (.byt bh), none, none, none, none, none]) (m:=m') (n:=n') (g:=fun k => (sd * (k + 3) ^ 3 + 91 * k) % 256) _ (hg m' n')
 generalize hks : (((List.range N).map fun (k : Nat) => (k : Int)).map fun k => (sd * (k + 3) ^ 3 + 91 * k) % 256) = ks at *
 have hkl : ks.length = N:=by rw [<- hks, yG, yG, List.length_range]
 have hkb : ∀ x ∈ ks, 0 <= x /\ x < 256:=fun x hx => by
  rw [<- hks] at hx
  obtain ⟨k, _, rfl⟩:=List.mem_map.mp hx
  exact m256 _
 have q1:=fun (l : List OP) (m : Nat -> AO) (n : Nat) => ap_addL (i:=n) (j:=n + 1) (vs:=[.int (b * 3)]) (us:=ks.map .int) (l:=l) (m:=upd (upd m n (.list [.int (b * 3)])) (n + 1) (.list (ks.map .int))) (n:=n + 1 + 1) ((zun (by lia)).trans (zus _ _ _)) (zus _ _ _) (by rw [yG, hkl]; simp; lia)
 have q2:=fun (l : List OP) (m : Nat -> AO) (n : Nat) => by_ints (i:=n) (ns:=(b * 3) :: ks) (l:=l) (m:=upd m n (.list (.int (b * 3) :: ks.map .int))) (n:=n + 1) (zus _ _ _) (fun x hx => by
  rcases List.mem_cons.mp hx with rfl | h
  ·lia
  ·exact hkb x h) (by rw [yA, hkl]; lia)
 unfold l0
 simp only [Zg4, Zg10, Zq4, Zq7, Zq8, Zq88, bd_ok, ap_eLen]
 simp only [Zq2, Zg10, Zq3, Zq4, Zq5, Zq6, Zq7, Zq8, Zq11, Zq12, Zq24, Zq25, Zq69, Zq70, Zq95, Zq96, Zcm1, bd_ok, ofI_some, ap_binI, ap_cmpI, ap_eBytes, rg_some, beq_iff_eq, ap_eCompZ, hlo, g1, g5, g31, hb, g3, hr, hcm, q1]
 simp only [Zu13, Zu14, Zq3, Zq5, Zq6, Zq43, Zq89, Zq90, Zq91, Zq92, bd_ok, post_ok, yF, yE, q2, List.reverse_cons, List.reverse_nil]
 refine ⟨trivial, ps, ar, bo, nl, dm, w, bar, md, x8, x9, sd, be, bh, pl, _, lb.frame (W:=[]) ?_ (show n <= n + 1 + 1 + 1 by lia) (by simp) (by simp) (by simp), hbe, hbh, by lia, ?_, rfl⟩
 ·repeat' first | exact MFr.refl | (refine MFr.own ?_ (.head _)) | (refine MFr.own ?_ (.tail _ (.head _))) | (refine MFr.own ?_ (.tail _ (.tail _ (.head _)))) | (refine MFr.new ?_ (by lia))
 ·rw [yG, yA, hkl]; lia
theorem cutB_to {bs : List UInt8} {k : Int} (h : bs.length <= zLs) (h0 : 0 <= k) (h1 : k < zLs) (s : AS) : cutM (.byt bs) none (some k) s = .ok (.byt (bs.take k.toNat)) s:=by
 unfold cutM cutL
 dsimp only
 rw [if_pos (by simp [okBound, dcd_iff, h, h0, h1])]
 rfl
theorem cutB_from {bs : List UInt8} {k : Int} (h : bs.length <= zLs) (h0 : 0 <= k) (h1 : k < zLs) (s : AS) : cutM (.byt bs) (some k) none s = .ok (.byt (bs.drop k.toNat)) s:=by
 unfold cutM cutL
 dsimp only
 rw [if_pos (by simp [okBound, dcd_iff, h, h0, h1])]
 rfl
inductive P14 (script : List Int) (s : AS) : Prop where
 | mk (ps : List (Act × List Int)) (ar : Nat) (bo : Int) (nl dm w bar md : Nat) (x8 x9 : OP) (sd : Int) (be bh : List UInt8) (x13 : OP) (fa bt : List UInt8) (h0 : LB ps ar nl dm s.mem s.nxt) (h1 : be.length <= 10) (h2 : bh.length <= 10) (h3 : fa.length <= 50) (h4 : bt.length <= 500) (h5 : s.loc = l0 (.ints script) ar bo nl (octs ps) dm w md x8 x9 (some (.int sd)) (some (.byt be)) (some (.byt bh)) x13 (some (.byt fa)) (some (.byt bt)) none none) : P14 script s
theorem law_14 {script : List Int} {s : AS} (h : P13 script s) : (sAsg 15 (eBin .add (eBin .add (eCut (eL 4) none (some (eL 13))) (eBytes (eList [(eBin .mod (eBin .add (eBin .add (eSub (eL 4) (eL 13)) (eK (.int 1))) (eBin .mod (eBin .fdiv (eL 10) (eK (.int 7))) (eK (.int 255)))) (eK (.int 256)))]))) (eCut (eL 4) (some (eBin .add (eL 13) (eK (.int 1)))) none)) s).post (fun f s' => f = .nx /\ P14 script s') NoE:=by
 obtain ⟨l, m, n⟩:=s
 obtain ⟨ps, ar, bo, nl, dm, w, bar, md, x8, x9, sd, be, bh, pl, fa, lb, hbe, hbh, hpl, hfa, hloc⟩:=h
 dsimp only at hloc lb
 subst hloc
 have L : zLs = 1048576:=by decide
 have hk:=lb.k
 have hol:=octs_len ps
 have c1:=fun s => cutB_to (bs:=octs ps) (k:=(pl : Int)) (by lia) (by lia) (by lia) s
 have c2:=fun s => cutB_from (bs:=octs ps) (k:=(pl : Int) + 1) (by lia) (by lia) (by lia) s
 have c3:=fun s => sbB_at (bs:=octs ps) (k:=pl) (by lia) hpl s
 have g7 : intOp .fdiv sd 7 = some (sd / 7):=i_fd (by decide) (by decide)
 have g255 : intOp .mod (sd / 7) 255 = some (sd / 7 % 255):=i_mod (by decide)
 generalize ((octs ps).getD pl 0).toNat = g at c3
 have hv : ∀ x : Int, intOp .mod x 256 = some (x % 256):=fun x => i_mod (by decide)
 have hv3 : ∀ x : Int, 0 <= x % 256 /\ x % 256 < 256:=m256
 have q1:=fun (l : List OP) (m : Nat -> AO) (n : Nat) => by_ints (i:=n) (ns:=[((g : Int) + 1 + sd / 7 % 255) % 256]) (l:=l) (m:=upd m n (.list [.int (((g : Int) + 1 + sd / 7 % 255) % 256)])) (n:=n + 1) (zus _ _ _) (fun x hx => by rw [List.mem_singleton.mp hx]; exact hv3 _) (by rw [List.length_singleton]; lia)
 have t1 : ((octs ps).take (pl : Int).toNat).length <= 130:=by rw [List.length_take]; exact yL (Nat.min_le_right _ _) (by lia)
 have t2 : ((octs ps).drop ((pl : Int) + 1).toNat).length <= 130:=by rw [List.length_drop]; lia
 have b1:=fun s => ap_addB (x:=(octs ps).take (pl : Int).toNat) (y:=[((g : Int) + 1 + sd / 7 % 255) % 256].map fun x => UInt8.ofNat x.toNat) (by rw [yG, List.length_singleton]; lia) s
 have b2:=fun s => ap_addB (x:=(octs ps).take (pl : Int).toNat ++ [((g : Int) + 1 + sd / 7 % 255) % 256].map fun x => UInt8.ofNat x.toNat) (y:=(octs ps).drop ((pl : Int) + 1).toNat) (by rw [yH, yG, List.length_singleton]; lia) s
 unfold l0
 simp only [Zq2, Zg4, Zg10, Zg13, Zt15, Zq3, Zq4, Zq5, Zq6, Zq7, Zq8, Zq42, Zq65, Zq66, Zq69, Zq70, bd_ok, ofI_some, ap_binI, ap_eBytes, i_add, post_ok, ap_eCut2, ap_eCut1, c1, c2, c3, g7, g255, hv, q1, b1, b2]
 refine ⟨trivial, ps, ar, bo, nl, dm, w, bar, md, x8, x9, sd, be, bh, _, fa, _, lb.frame (W:=[]) ?_ (show n <= n + 1 by lia) (by simp) (by simp) (by simp), hbe, hbh, hfa, ?_, rfl⟩
 ·repeat' first | exact MFr.refl | (refine MFr.own ?_ (.head _)) | (refine MFr.own ?_ (.tail _ (.head _))) | (refine MFr.own ?_ (.tail _ (.tail _ (.head _)))) | (refine MFr.new ?_ (by lia))
 ·rw [yH, yH, yG, List.length_singleton]; lia
noncomputable def ByL (vs : List PV) : Prop:=∀ v ∈ vs, ∃ o : List UInt8, v = .byt o /\ o.length <= 1000
inductive P15 (script : List Int) (s : AS) : Prop where
 | mk (ps : List (Act × List Int)) (ar : Nat) (bo : Int) (nl dm w bar md : Nat) (x8 x9 : OP) (sd : Int) (be bh : List UInt8) (x13 x14 x15 : OP) (so : Nat) (vs : List PV) (h0 : LB ps ar nl dm s.mem s.nxt) (h1 : be.length <= 10) (h2 : bh.length <= 10) (h3 : s.mem so = .list vs) (h4 : so < s.nxt) (h5 : vs.length = 4) (h6 : ByL vs) (h7 : s.loc = l0 (.ints script) ar bo nl (octs ps) dm w md x8 x9 (some (.int sd)) (some (.byt be)) (some (.byt bh)) x13 x14 x15 (some (.ref so)) none) : P15 script s
theorem law_15 {script : List Int} {s : AS} (h : P14 script s) : (sAsg 16 (eList [(eL 15), (eCut (eL 4) none (some (eBin .sub (eBin .sub (eLen (eL 4)) (eK (.int 1))) (eBin .mod (eL 10) (eK (.int 4)))))), (eL 14), (eBin .add (eBytes (eList [(eK (.int 0)), (eK (.int 255)), (eK (.int 255)), (eK (.int 255)), (eK (.int 255))])) (eL 14))]) s).post (fun f s' => f = .nx /\ P15 script s') NoE:=by
 obtain ⟨l, m, n⟩:=s
 obtain ⟨ps, ar, bo, nl, dm, w, bar, md, x8, x9, sd, be, bh, x13, fa, bt, lb, hbe, hbh, hfa, hbt, hloc⟩:=h
 dsimp only at hloc lb
 subst hloc
 have L : zLs = 1048576:=by decide
 have hk:=lb.k
 have hol:=octs_len ps
 have hlo:=fun s => len_byt (bs:=octs ps) (by lia) s
 have g4 : intOp .mod sd 4 = some (sd % 4):=i_mod (by decide)
 have c1:=fun s => cutB_to (bs:=octs ps) (k:=((octs ps).length : Int) - 1 - sd % 4) (by lia) (by lia) (by lia) s
 have q1:=fun (l : List OP) (m : Nat -> AO) (n : Nat) => by_ints (i:=n) (ns:=[0, 255, 255, 255, 255]) (l:=l) (m:=upd m n (.list [.int 0, .int 255, .int 255, .int 255, .int 255])) (n:=n + 1) (zus _ _ _) (by decide) (by decide)
 generalize hz : ([0, 255, 255, 255, 255] : List Int).map (fun x => UInt8.ofNat x.toNat) = zs at *
 have hzl : zs.length = 5:=by rw [<- hz]; rfl
 have b1:=fun s => ap_addB (x:=zs) (y:=fa) (by lia) s
 unfold l0
 simp only [Zq2, Zg4, Zg10, Zg14, Zg15, Zt16, Zq3, Zq4, Zq5, Zq6, Zq7, Zq8, Zq42, Zq69, Zq70, bd_ok, ofI_some, ap_binI, ap_eBytes, ap_eLen, i_sub, post_ok, ap_eCut2, hlo, g4, c1, q1, b1]
 refine ⟨trivial, ps, ar, bo, nl, dm, w, bar, md, x8, x9, sd, be, bh, _, _, _, _, _, lb.frame (W:=[]) ?_ (show n <= n + 1 + 1 by lia) (by simp) (by simp) (by simp), hbe, hbh, zus _ _ _, Nat.lt_succ_self _, rfl, ?_, rfl⟩
 ·repeat' first | exact MFr.refl | (refine MFr.own ?_ (.head _)) | (refine MFr.own ?_ (.tail _ (.head _))) | (refine MFr.own ?_ (.tail _ (.tail _ (.head _)))) | (refine MFr.new ?_ (by lia))
 ·intro v hv
  simp only [List.mem_cons, List.not_mem_nil, or_false] at hv
  rcases hv with rfl | rfl | rfl | rfl
  ·exact ⟨_, rfl, by lia⟩
  ·exact ⟨_, rfl, by rw [List.length_take]; exact yL (Nat.min_le_right _ _) (by lia)⟩
  ·exact ⟨_, rfl, by lia⟩
  ·exact ⟨_, rfl, by rw [yH]; lia⟩
theorem idx_any {vs : List PV} {r : Int} (h0 : 0 <= r) (h1 : r < (vs.length : Int)) (hl : vs.length <= zLs) : ∃ v, idx vs r = some v /\ v ∈ vs:=by
 have hlt : r.toNat < vs.length:=by lia
 refine ⟨vs[r.toNat], ?_, List.getElem_mem hlt⟩
 rw [idx_eq]
 rw [if_pos ⟨h0, by lia⟩, yI hlt]
inductive LI (script : List Int) (lo : Nat) (vs : List PV) (u1 : Nat) (s : AS) : Prop where
 | mk (ps : List (Act × List Int)) (ar : Nat) (bo : Int) (nl dm w bar md : Nat) (x8 x9 : OP) (sd : Int) (be bh : List UInt8) (x13 x14 x15 x16 x17 : OP) (h0 : LB ps ar nl dm s.mem s.nxt) (h1 : be.length <= 10) (h2 : bh.length <= 10) (h3 : s.mem lo = .list vs) (h4 : lo < s.nxt) (h5 : s.loc = l0 (.ints script) ar bo nl (octs ps) dm w md x8 x9 (some (.int sd)) (some (.byt be)) (some (.byt bh)) x13 x14 x15 x16 x17) : LI script lo vs u1 s
theorem law_loop {script : List Int} {lo : Nat} {vs : List PV} {o : List UInt8} (ho : o.length <= 1000) {j : Nat} {s : AS} (h : LI script lo vs j s) :
  ((setL 17 (.byt o) s).bd fun _ s => sSeq [sIf (tCmp .ne (eRepr (eCall F_law_heard [(eL 1), (eL 17), (eL 11), (eL 12)])) (eRepr (eCall F_law_told [(eL 1), (eL 17)]))) [sRet (eK (.bool false))] []] s).post (fun f s' => match f with | .nx => LI script lo vs (j + 1) s' | .rt _ => False) NoE:=by
 obtain ⟨l, m, n⟩:=s
 obtain ⟨ps, ar, bo, nl, dm, w, bar, md, x8, x9, sd, be, bh, x13, x14, x15, x16, x17, lb, hbe, hbh, elo, hlo, hloc⟩:=h
 dsimp only at hloc lb elo hlo
 subst hloc
 have L : zLs = 1048576:=by decide
 obtain ⟨ha1, ha2⟩:=lb.acts
 have htr:=tell_trok (O:=o) (acts:=ps.map (·.1)) (by lia) ha1 ha2
 unfold l0
 simp only [Zg1, Zg11, Zg12, Zg17, Zu17, Zq3, Zq4, Zq5, Zq6, Zq11, Zq34, Zq55, Zq57, bd_ok, ap_eRepr]
 repeat (first | with_reducible refine post_fin ?_ | with_reducible refine post_seq ?_)
 generalize hX : F_law_heard [.ref ar, .byt o, .byt be, .byt bh] ⟨[some (.ints script), some (.ref ar), some (.int bo), some (.ref nl), some (.byt (octs ps)), some (.ref dm), some (.ref w), some (.ref md), x8, x9, some (.int sd), some (.byt be), some (.byt bh), x13, x14, x15, x16, some (.byt o)], m, n⟩ = X
 have hx:=heard_sp2 (s:=⟨[some (.ints script), some (.ref ar), some (.int bo), some (.ref nl), some (.byt (octs ps)), some (.ref dm), some (.ref w), some (.ref md), x8, x9, some (.int sd), some (.byt be), some (.byt bh), x13, x14, x15, x16, some (.byt o)], m, n⟩) ha1 ha2 lb.lar lb.ear (by rw [yH, yH]; lia) hX
 rw [post_bd, post_bd, post_bd]
 refine post_mono hx ?_ fun _ _ h => h
 rintro v ⟨l1, m1, n1⟩ ⟨nl2, md2, rfl, r1, r2, r3, r4, r5, r6, f1, f2, f3⟩
 dsimp only at r1 r2 f1 f2 f3
 subst f1
 have lb1:=lb.frame f3 f2 (by simp) (by simp) (by simp)
 have rp1:=fun l => repr_ap htr (l:=l) (n:=n1) r1 r2
 simp only [Zg1, Zg17, Zq3, Zq4, Zq5, Zq6, Zq12, Zq34, Zq56, bd_ok, ap_eRepr, post_ok, rp1]
 generalize hY : F_law_told [.ref ar, .byt o] ⟨[some (.ints script), some (.ref ar), some (.int bo), some (.ref nl), some (.byt (octs ps)), some (.ref dm), some (.ref w), some (.ref md), x8, x9, some (.int sd), some (.byt be), some (.byt bh), x13, x14, x15, x16, some (.byt o)], m1, n1⟩ = Y
 have hy:=told_sp2 (s:=⟨[some (.ints script), some (.ref ar), some (.int bo), some (.ref nl), some (.byt (octs ps)), some (.ref dm), some (.ref w), some (.ref md), x8, x9, some (.int sd), some (.byt be), some (.byt bh), x13, x14, x15, x16, some (.byt o)], m1, n1⟩) ha1 ha2 lb1.lar lb1.ear (by lia) hY
 rw [post_bd, post_bd]
 refine post_mono hy ?_ fun _ _ h => h
 rintro v ⟨l2, m2, n2⟩ ⟨nl3, md3, rfl, t1, t2, t3, t4, t5, t6, u1, u2, u3⟩
 dsimp only at t1 t2 u1 u2 u3
 subst u1
 have lb2:=lb1.frame u3 u2 (by simp) (by simp) (by simp)
 have rp2:=fun l => repr_ap htr (l:=l) (n:=n2) t1 t2
 have hne : ∀ x : Str, (x != x) = false:=fun x => by simp
 simp only [Zq56, post_ok, ifK_f, rp2, ap_cmS, hne]
 exact ⟨ps, ar, bo, nl, dm, w, bar, md, x8, x9, sd, be, bh, x13, x14, x15, x16, _, lb2, hbe, hbh, (u3 lo (yK hlo f2) (by simp)).trans ((f3 lo hlo (by simp)).trans elo), yK hlo (yL f2 u2), rfl⟩
theorem law_16 {script : List Int} {s : AS} (h : P15 script s) : (sForV (setL 17) (eList [(eSub (eL 16) (eBin .mod (eBin .fdiv (eL 10) (eK (.int 2))) (eK (.int 4)))), (eSub (eL 16) (eBin .mod (eBin .add (eBin .add (eBin .fdiv (eL 10) (eK (.int 2))) (eK (.int 1))) (eBin .mod (eBin .fdiv (eL 10) (eK (.int 8))) (eK (.int 3)))) (eK (.int 4))))]) [sIf (tCmp .ne (eRepr (eCall F_law_heard [(eL 1), (eL 17), (eL 11), (eL 12)])) (eRepr (eCall F_law_told [(eL 1), (eL 17)]))) [sRet (eK (.bool false))] []] s).post (fun f s' => f = .nx /\ True) NoE:=by
 obtain ⟨l, m, n⟩:=s
 obtain ⟨ps, ar, bo, nl, dm, w, bar, md, x8, x9, sd, be, bh, x13, x14, x15, so, vs, lb, hbe, hbh, eso, hso, hvl, hvs, hloc⟩:=h
 dsimp only at hloc lb eso hso
 subst hloc
 have L : zLs = 1048576:=by decide
 have g2 : intOp .fdiv sd 2 = some (sd / 2):=i_fd (by decide) (by decide)
 have g8 : intOp .fdiv sd 8 = some (sd / 8):=i_fd (by decide) (by decide)
 have g3 : intOp .mod (sd / 8) 3 = some (sd / 8 % 3):=i_mod (by decide)
 have g4 : ∀ x : Int, intOp .mod x 4 = some (x % 4):=fun x => i_mod (by decide)
 obtain ⟨v1, i1, m1⟩:=idx_any (vs:=vs) (r:=sd / 2 % 4) (by lia) (by lia) (by lia)
 obtain ⟨v2, i2, m2⟩:=idx_any (vs:=vs) (r:=(sd / 2 + 1 + sd / 8 % 3) % 4) (by lia) (by lia) (by lia)
 obtain ⟨o1, rfl, ho1⟩:=hvs v1 m1
 obtain ⟨o2, rfl, ho2⟩:=hvs v2 m2
 have s1:=fun l n => sbL_at (l:=l) (n:=n) eso i1
 have s2:=fun l n => sbL_at (l:=l) (n:=n) eso i2
 unfold l0
 simp only [Zq2, Zg10, Zg16, Zq3, Zq4, Zq5, Zq6, Zq7, Zq8, Zq65, Zq66, Zq69, Zq70, bd_ok, ofI_some, ap_binI, ap_sForV, i_add, g2, g8, g3, g4, s1, s2]
 refine forV_post (vs:=[.byt o1, .byt o2]) (Qr:=fun _ _ => False) (LI script n [.byt o1, .byt o2]) (show 2 <= zLs by decide) ?_ ?_ ?_ ?_ (fun _ _ h => h.elim)
 ·exact ⟨ps, ar, bo, nl, dm, w, bar, md, x8, x9, sd, be, bh, _, _, _, _, _, lb.frame (W:=[]) (MFr.refl.new (yM _)) (Nat.le_succ _) (by simp) (by simp) (by simp), hbe, hbh, zus _ _ _, Nat.lt_succ_self _, rfl⟩
 ·rintro j s ⟨_, _, _, _, _, _, _, _, _, _, _, _, _, _, _, _, _, _, _, _, _, e, _⟩
  exact e
 ·intro j s v hv hI
  have hv2:=List.mem_of_getElem? hv
  simp only [List.mem_cons, List.not_mem_nil, or_false] at hv2
  rcases hv2 with rfl | rfl
  ·exact law_loop ho1 hI
  ·exact law_loop ho2 hI
 ·intro s' _
  exact ⟨rfl, trivial⟩
theorem law_tail {script : List Int} {s : AS} (h : P3 script s) : (sSeq (B_law.drop 3) s).post (fun f _ => f = .rt (.bool true)) NoE:=by
 show (sSeq (_ :: _ :: _ :: _ :: _ :: _ :: _ :: _ :: _ :: _ :: _ :: _ :: _ :: _ :: []) s).post _ _
 refine sq_step (law_4 h) fun s h => ?_
 refine sq_step (law_5 h) fun s h => ?_
 refine sq_step (law_6 h) fun s h => ?_
 refine sq_step (law_7 h) fun s h => ?_
 refine sq_step (law_8 h) fun s h => ?_
 refine sq_step (law_9 h) fun s h => ?_
 refine sq_step (law_10 h) fun s h => ?_
 refine sq_step (law_11 h) fun s h => ?_
 refine sq_step (law_12 h) fun s h => ?_
 refine sq_step (law_13 h) fun s h => ?_
 refine sq_step (law_14 h) fun s h => ?_
 refine sq_step (law_15 h) fun s h => ?_
 refine sq_step (law_16 h) fun s h => ?_
 simp only [Zq2, Zq57, Zq59, Zq60, Zq61, bd_ok, post_ok]
theorem B_law_eq : B_law = [sUnp [1, 2] (eCall F_law_acts [(eL 0)]),
 sUnp [3, 4, 5] (eCall F_law_written [(eL 1), (eL 2)]),
 sSwap [6, 7] [(eNew 283 F_RangeWriter_init []), (eCall F_fresh_models [(eK (.int 80))])]] ++ B_law.drop 3:=rfl
theorem law_true {script : List Int} (hsl : script.length <= 63) (s : AS) : (F_law [.ints script] s).post (fun v _ => v = .bool true) NoE:=by
 obtain ⟨l, m, n⟩:=s
 unfold F_law
 rw [fnM_ap, B_law_eq]
 have h:=law_123 hsl (Q:=fun f _ => f = .rt (.bool true)) (r:=B_law.drop 3) (m0:=m) (n0:=n) fun s' h => law_tail h
 refine post_fin (post_mono h ?_ fun _ _ h => h)
 rintro f s' rfl
 rfl
end Mine
end
section
open PySem PySem.W PyProof.Rows PySem.Calls
set_option maxRecDepth 100000
set_option maxHeartbeats 4000000
namespace Mine
theorem topJ {X : Cx} (hX : X.Ok) {F' : FnC} (hF' : F'.Ok) {stmts : List Stmt} {k N n : Nat} {cb : List S} (D : DefK X.K F' stmts k) (hb : SSsJ X n F' stmts (sSeq cb)) (hn : n <= 200) {s : Shared} (hB : X.B = s.heap) (hg : s.gens = X.G) (ho : s.os = X.os)
  {vs : List PV} {xs : List Value} (hl : vs.length = k) (hv : VRs X.B [] (fun _ => 0) 0 vs xs) {Q : Value -> Shared -> Prop} {Er : Value -> Shared -> Prop}
  {σ1 : AS} {l0 : List (Option PV)} (hP : fnM N cb vs ⟨l0, fun _ => .dead, 0⟩ = .ok (.bool true) σ1)
  (hQ : ∀ s', (∀ b o, s.heap.get? b = some o -> s'.heap.get? b = some o) -> s'.os = s.os -> s'.gens = s.gens -> Q (.bool true) s') :
  codeJ (model X.prog X.w) callerA (.call (.ref F'.fa) ⟨xs, []⟩) (RC Q Er) s:=by
 obtain ⟨name, params, dV, kV, doc, pm, an, ct, oc, od, osl, hlk, hbind⟩:=D.ex
 have hk : F'.scope.kind = .function:=hF'.fn
 have hlx : xs.length = k:=by rw [<- hv.length, hl]
 have hIn : X.K.In s.heap:=hB ▸ hX.K
 have hkind : ∀ x ∈ (F'.vars.take k).zip xs, F'.scope.names.lookup x.1 = some .local \/ (F'.scope.names.lookup x.1 = some .cell /\ ((cellsFrom (s.heap.objs.size + 1) F'.scope.names []).lookup x.1).isSome = true):=fun x hx => by
  have hm : x.1 ∈ F'.vars:=List.mem_of_mem_take (List.of_mem_zip (show (x.1, x.2) ∈ _ from hx)).1
  exact (hF'.kind _ hm).imp id fun h => ⟨h, D.ckd _ _ hm h⟩
 refine codeJ_call_function (by decide +kernel) (hIn _ _ hlk) rfl D.co D.gen rfl (codeRec_of hIn D.code) (hbind xs hlx s hIn _ _ _ _ ?_)
 refine wpAny_newFunctionEnv_cells hk hkind fun env' he s1 I => ?_
 subst he
 refine ⟨(hB ▸ hX.T.nolimit).keeps I.toInCall.keep, codeJ_func ?_⟩
 have keep:=I.toInCall.keep
 have dn:=I.done
 have hg1 : s1.gens = s.gens:=by obtain ⟨h', tk, rfl, _⟩:=dn; rfl
 have ho1 : s1.os = s.os:=by obtain ⟨h', tk, rfl, _⟩:=dn; rfl
 obtain ⟨cells, NC, CA⟩:=Cl.news (h₀:=s.heap) (h:=s1.heap) (L:=s.heap.objs.size) (cm:=bindC (kdOf F') ((F'.vars.take k).zip xs) fun _ => none) (yM _) (cs:=cellsFrom (s.heap.objs.size + 1) F'.scope.names [])
  fun n c hm => ⟨I.cell n c (lookup_of_mem_nodup (cellsFrom_names F'.scope.names 0 (s.heap.objs.size + 1) [] [] rfl ▸ D.cnd) hm), I.above n c hm⟩
 have cnd : (keys cells).Nodup:=by
  have ap:=I.apart
  clear NC
  have key : ∀ {cs : List (Str × Addr)} {cells : Led} {cm : Str -> Option Value}, CellsAre cm cs cells -> keys cells = cs.map (·.2):=by
   intro cs cells cm h
   induction h with
   | nil => rfl
   | cons _ _ ih => show _ :: keys _ = _ :: _; rw [ih]
  rw [key CA]
  exact List.pairwise_map.mpr ap
 have S1 : St X F' s.heap.objs.size (cellsFrom (s.heap.objs.size + 1) F'.scope.names []) [] { mo:=[], ce:=cells, tp:=[], fz:=[], fo:=[], al:=fun _ => 0, be:=fun _ => 0, m:=bindL (kdOf F') ((F'.vars.take k).zip xs) fun _ => none }
   ⟨vs.map some ++ List.replicate (N - vs.length) none, fun _ => .dead, 0⟩ s1:=by
  refine ⟨⟨?_, .nil, fun i h => absurd h (Nat.not_lt_zero _), fun i j h => absurd h (Nat.not_lt_zero _), fun i h => absurd h (Nat.not_lt_zero _), fun i v e => ?_, fun nm c e => ?_, fun nm nm' c e e' => name_of_addr I.apart (mem_of_lookup e) (mem_of_lookup e'), fun nm hm hk => D.ckd _ nm hm hk⟩, ⟨I.toInCall.ns, fun b o e => keep b o (hB ▸ e), by rw [hB]; exact yM _⟩, fun p hp => ?_, hg1.trans hg, ho1.trans ho⟩
  ·show (keys ([] ++ (cells ++ ([] ++ ([] ++ []))))).Nodup
   simp only [yF, List.append_nil]
   exact cnd
  ·have hi : i < vs.length:=by
    rcases Nat.lt_or_ge i vs.length with h | h
    ·exact h
    ·rw [List.getElem?_append_right (by simpa using h)] at e
     have:=List.mem_of_getElem? e
     have:=(List.mem_replicate.mp this).2
     cases this
   rw [List.getElem?_append_left (by simpa using hi), List.getElem?_map] at e
   obtain ⟨v', e1, e2⟩:=Option.map_eq_some_iff.mp e
   cases e2
   obtain ⟨x, ex, hx⟩:=hv.get e1
   have hik : i < k:=hl ▸ hi
   have hiv : i < F'.vars.length:=yK hik D.kle
   refine ⟨F'.vars[i], yI hiv, x, hx, ?_⟩
   have e3 : (F'.vars.take k)[i]? = some F'.vars[i]:=by rw [List.getElem?_take_of_lt hik]; exact yI hiv
   have nd : (F'.vars.take k).Nodup:=hF'.nd.sublist (List.take_sublist _ _)
   have g:=bind_get (kd:=kdOf F') (m:=fun _ => none) (c:=fun _ => none) nd e3 ex
   have hmem : F'.vars[i] ∈ F'.vars:=List.getElem_mem _
   rcases hF'.kind _ hmem with hk | hk
   ·exact .inl ⟨hk, g.1 hk⟩
   ·obtain ⟨c, hc⟩:=Option.isSome_iff_exists.mp (D.ckd (s.heap.objs.size + 1) _ hmem hk)
    obtain ⟨o, h1, h2⟩:=CellsAre.get CA hc
    exact .inr ⟨hk, c, o, hc, h1, by rw [h2, g.2 hk]⟩
  ·obtain ⟨o, h1, h2⟩:=CellsAre.get CA e
   exact ⟨o, _, h1, h2⟩
  ·have hp' : p ∈ cells:=by
    have : p ∈ ([] ++ (cells ++ ([] ++ ([] ++ []))) : Led):=hp
    simpa using this
   exact ⟨(NC p hp').1, (NC p hp').2.1, hB ▸ (NC p hp').2.2⟩
 have hA1 : Ar (callerA.deeper (F'.env s.heap.objs.size (cellsFrom (s.heap.objs.size + 1) F'.scope.names []))) n (F'.env s.heap.objs.size (cellsFrom (s.heap.objs.size + 1) F'.scope.names [])) []:=by
  refine ⟨?_, ?_, Around.frames_deeper rfl, rfl, .inl rfl⟩
  ·have : callerA.depth = 301:=by decide +kernel
   show callerA.depth + 1 + 2 * n <= 900
   lia
  ·show 4 + 3 + 10 * n <= 9000
   lia
 refine hb _ _ _ _ _ _ s1 _ _ hA1 S1 ?_
 unfold fnM at hP
 cases e : sSeq cb ⟨vs.map some ++ List.replicate (N - vs.length) none, fun _ => .dead, 0⟩ with
 | stuck => rw [e] at hP; cases hP
 | ok f σ2 =>
  rw [e] at hP
  intro fv w1 s2 S2 E2 V2
  have fin : ∀ s', s'.heap = s2.heap -> s'.os = s2.os -> s'.gens = s2.gens -> Q (.bool true) s':=fun s' a1 a2 a3 =>
   hQ s' (fun b o e => by rw [a1]; exact S2.fr.keep b o (hB ▸ e)) (a2.trans (S2.os.trans ho.symm)) (a3.trans (S2.gens.trans hg.symm))
  cases V2 with
  | nx => cases hP
  | rt h =>
   have hv2 : _ = PV.bool true:=(Res.ok.inj hP).1
   subst hv2
   cases h
   exact fin s2 rfl rfl rfl
 | exc C σ2 => rw [e] at hP; cases hP
theorem law_res {ns : List Int} (h : ns.length <= 63) : ∃ σ1, fnM 18 B_law [.ints ns] ⟨[], fun _ => .dead, 0⟩ = .ok (.bool true) σ1:=by
 have:=law_true h ⟨[], fun _ => .dead, 0⟩
 unfold F_law at this
 revert this
 generalize fnM 18 B_law [.ints ns] ⟨[], fun _ => .dead, 0⟩ = r
 intro this
 cases r with
 | ok v s => exact ⟨s, by rw [show v = .bool true from this]⟩
 | exc c s => exact this.elim
 | stuck w => exact this.elim
theorem law_walk {X : Cx} {P : Params} (hX : X.Ok) (hK : X.K = hd.heap_1 P) {s : Shared} (hB : X.B = s.heap) (hg : s.gens = X.G) (ho : s.os = X.os) {l : Addr} {xs : List Value} {ns : List Int} (hL : s.heap.IsList l xs.toArray) (hI : IntsAre xs ns) (hn : ns.length <= 63) {Q : Value -> Shared -> Prop} {Er : Value -> Shared -> Prop}
  (hQ : ∀ s', (∀ b o, s.heap.get? b = some o -> s'.heap.get? b = some o) -> s'.os = s.os -> s'.gens = s.gens -> Q (.bool true) s') : wpJ (model X.prog X.w) callerA (call (.ref 361) [.ref l]) Q Er s:=by
 obtain ⟨σ1, hP⟩:=law_res hn
 have hD : DefK X.K (f361 P) (d361 P).body 1:=by rw [hK]; exact D361 P
 have hb:=@s361 P X 100 hX hK (by decide)
 have hv : VRs X.B [] (fun _ => 0) 0 [.ints ns] [.ref l]:=.cons (.ints ns xs l (hB ▸ hL) hI) .nil
 exact wpJ_call (topJ (N:=18) hX (ok361 (P:=P)) hD hb (by decide) hB hg ho rfl hv hP hQ)
theorem final : PySem.Challenge.rw_no0097_01.Holds:=Mine.hd (by
 intro w s₀ s₁ mg mb G Y fa o pm cd doc dV kV ho hd' hcd hD hmg hg args vals as hpre hlay hrd hwl hlo
 have KX:=kIn_of Y
 have T:=G.T
 have hfa : mg ("law" : Str) = some (.ref 361):=mg_of KX T.g (by kernel_rfl)
 have hfb : mg ("law" : Str) = some (.ref fa):=hmg
 rw [hfa] at hfb
 cases hfb
 clear hcd hD hd' ho hmg Y G
 wrow_args hpre hlay hrd hwl hlo
 rename_i ns _ _ _ _ _ _ _ l xs _ hL _ _ _ hI _ hlen _
 refine law_walk (X:=⟨_, w, hd.heap_1 w.params, s₁.heap, _, _, _, mg, mb, s₁.gens, s₁.os⟩) (P:=w.params) ⟨KX, T⟩ rfl rfl rfl rfl hL hI (by omega) fun s' keep h1 h2 => ?_
 exact ⟨.inl ⟨.bool true, .bool true, [], rfl, fun _ => rfl, .bool true, by kernel_rfl, fun _ => ⟨.nil, fun a h => nomatch h⟩⟩, .of_keep keep, h1, .of_eq (h2.trans hg)⟩)
end Mine
end
set_option maxRecDepth 100000 in
theorem PySem.Challenge.cw_no0097_01_holds : PySem.Challenge.rw_no0097_01.Holds :=
 Mine.final
