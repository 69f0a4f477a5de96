import PyProof.Rows.All
import Wide.All
import OpenK.AllK
import Wide.FinOn
import KE.KStateDown
import HandS.ForMost
import KE.DataFind
import HandS.More
import HandS.IsInst
import HandS.Deep
import HandS.Style
import HandS.TupAny
import HandS.HeadHook1
import HandS.RaiseMore
import HandS.Text
import HandS.Dict
import HandS.Conv
import PyProof.Rows.StrMeet
import KE.GoesNew
import KE.GoesNewDict
import KE.GoesMore
import KE.KDictWalk
import PyProof.InstEq
import HandS.ClsMeth
import HandS.OwnEq
import HandS.DictComp
import KE.KDictZip
import HandS.Codes
import HandS.Words
import HandS.Defaults
import HandS.Exc
import HandS.HeadEnd
import HandS.HeadHook2
import HandS.Ends
import HandS.Head0
import HandS.Head1
import HandS.Head2
import PyProof.EqLayable
import PySem.Challenge.RW_forcedbook_k22_runs_judged
set_option Elab.async false
set_option linter.all false
set_option maxRecDepth 100000
set_option maxHeartbeats 0
/-! MP: a small language of slots and places: its terms, its meaning. -/
namespace MP
open PySem

/-- a value: tuples are told deep, lists and dicts and instances by their places -/
inductive MV where
  | non | bl (b : Bool) | int (i : Int) | str (s : Str) | tup (xs : List MV) | ref (l : Nat) | ro (xs : List MV)
  | rod (t : Bool) (ks vs : List MV) | obj (c : Str) (ns : List Str) (vs : List MV)
  deriving Inhabited

/-- what stands at a place; t: a dict by tuples -/
inductive MO where
  | lst (xs : List MV)
  | dct (t : Bool) (kvs : List (MV × MV))
  | ins (c : Str) (fs : List (Str × MV))
  | gap
  deriving Inhabited

abbrev MH := List MO

inductive Res (α : Type) where
  | ok (a : α) (h : MH)
  | exc (e : MV) (h : MH)
  | stuck

def M (α : Type) := MH → Res α
def M.ret {α : Type} (a : α) : M α := fun h => .ok a h
def M.stk {α : Type} : M α := fun _ => .stuck
def M.bnd {α β : Type} (x : M α) (f : α → M β) : M β := fun h => match x h with
  | .ok a h' => f a h'
  | .exc e h' => .exc e h'
  | .stuck => .stuck
instance : Monad M where
  pure := M.ret
  bind := M.bnd
@[simp] theorem M.pure_eq {α : Type} (a : α) : (pure a : M α) = M.ret a := rfl
@[simp] theorem M.bind_eq {α β : Type} (x : M α) (f : α → M β) : (x >>= f) = M.bnd x f := rfl
def M.alloc (o : MO) : M MV := fun h => .ok (.ref h.length) (h ++ [o])
/-- a test that must hold -/
def M.chk (b : Bool) : M Unit := if b then .ret () else .stk
def M.get : M MH := fun h => .ok h h
def M.put (l : Nat) (o : MO) : M Unit := fun h => .ok () (h.set l o)
def M.opt {α : Type} (o : Option α) : M α := match o with
  | some a => .ret a
  | none => .stk

/-! ### values -/
def mapO {α β : Type} (f : α → Option β) : List α → Option (List β)
  | [] => some []
  | x :: r => match f x, mapO f r with
    | some y, some ys => some (y :: ys)
    | _, _ => none
/-- a value as data, through the places -/
def reify (h : MH) : Nat → MV → Option PyData
  | _, .non => some .none
  | _, .bl b => some (.bool b)
  | _, .int i => some (.int i)
  | _, .str s => some (.str s)
  | 0, .tup _ => none
  | 0, .ref _ => none
  | 0, .ro _ => none
  | 0, .rod _ _ _ => none
  | _, .obj _ _ _ => none
  | _ + 1, .rod true _ _ => none
  | n + 1, .rod false ks vs => match mapO (reify h n) ks, mapO (reify h n) vs with
    | some ks, some vs => some (.dict (ks.zip vs))
    | _, _ => none
  | n + 1, .tup xs => (mapO (reify h n) xs).map .tuple
  | n + 1, .ro xs => (mapO (reify h n) xs).map .list
  | n + 1, .ref l => match h[l]? with
    | some (.lst xs) => (mapO (reify h n) xs).map .list
    | some (.dct false kvs) => match mapO (reify h n) (kvs.map (·.1)), mapO (reify h n) (kvs.map (·.2)) with
      | some ks, some vs => some (.dict (ks.zip vs))
      | _, _ => none
    | _ => none

/-! the model's lines, kept shut -/
@[irreducible] def fits (n : Nat) : Bool := decide (n ≤ sizeLine)
@[irreducible] def fitsL (n : Nat) : Bool := decide (n < sizeLine)
@[irreducible] def fitsJ (n : Nat) : Bool := decide (n ≤ 16777216)
@[irreducible] def small64 (i : Int) : Bool := decide (-(2 ^ 64) < i ∧ i < 2 ^ 64)
@[irreducible] def small63 (i : Int) : Bool := decide (-(2 ^ 63) ≤ i ∧ i < 2 ^ 63)
@[irreducible] def smallR (i : Int) : Bool := decide (-(2 ^ 62) ≤ i ∧ i < 2 ^ 62)
@[irreducible] def okDiv (j : Int) : Bool := decide (0 < j ∧ j < 1073741824)
@[irreducible] def okPow (a b : Int) : Bool := decide (0 ≤ b ∧ b ≤ 1000000 ∧ a.natAbs < 2 ^ 64)

inductive Bop | add | sub | mul | fdiv | mod | pow
inductive Cop | eq | ne | lt | le | gt | ge | isin | notin
inductive Ty | int | str | bool | list | tuple | dict
inductive Bi | abs | max | min | int | len | divmod | all | any | repr | list | tuple | sum | sorted | maxL | dict
inductive Mt | append | join | pop | popAt | extend | insert | index | count

def reprV (v : MV) : M MV := fun h => match reify h 60 v with
  | some d => if decide (d.depth ≤ 62) && d.showable && fits d.shown.length then .ok (.str d.shown) h else .stuck
  | none => .stuck
def eqD (v w : MV) : M Bool := fun h => match reify h 60 v, reify h 60 w with
  | some d, some e => if SeqAt.shaped d && SeqAt.shaped e then .ok (PyData.eqv d e) h else .stuck
  | _, _ => .stuck
/-- a list's items -/
def lstO (h : MH) : MV → Option (List MV)
  | .ro xs => some xs
  | .ref l => (match h[l]? with
    | some (.lst xs) => some xs
    | _ => none)
  | _ => none
def catV (a b : MV) : M MV := fun h => match lstO h a, lstO h b with
  | some xs, some ys => if fits (xs.length + ys.length) then M.alloc (.lst (xs ++ ys)) h else .stuck
  | _, _ => .stuck
def addV (a b : MV) : M MV := match a, b with
  | .int a, .int b => .ret (.int (a + b))
  | .str a, .str b => if fits (a.length + b.length) then .ret (.str (a ++ b)) else .stk
  | .tup xs, .tup ys => if fits (xs.length + ys.length) then .ret (.tup (xs ++ ys)) else .stk
  | a, b => catV a b
/-- += and -= on ints -/
def augV (sb : Bool) (x y : MV) : M MV := match x, y with
  | .int i, .int j => .ret (.int (if sb then i - j else i + j))
  | _, _ => .stk
def subV : MV → MV → M MV
  | .int a, .int b => .ret (.int (a - b))
  | _, _ => .stk
def repV (a : MV) (k : Int) : M MV := fun h => match lstO h a with
  | some xs => if small63 k && fits (xs.length * k.toNat) then M.alloc (.lst (List.replicate k.toNat xs).flatten) h else .stuck
  | none => .stuck
def mulV (a b : MV) : M MV := match b with
  | .int j => (match a with
    | .int i => if small64 i || small64 j then .ret (.int (i * j)) else .stk
    | a => repV a j)
  | _ => .stk
def fdivV : MV → MV → M MV
  | .int a, .int b => if okDiv b then .ret (.int (a / b)) else .stk
  | _, _ => .stk
def modV : MV → MV → M MV
  | .int a, .int b => if 0 < b then .ret (.int (a % b)) else .stk
  | _, _ => .stk
def powV : MV → MV → M MV
  | .int a, .int b => if okPow a b then .ret (.int (a ^ b.toNat)) else .stk
  | _, _ => .stk
def binV : Bop → MV → MV → M MV
  | .add => addV | .sub => subV | .mul => mulV | .fdiv => fdivV | .mod => modV | .pow => powV
/-- items of a list or a tuple -/
def seqOf (h : MH) : MV → Option (List MV)
  | .tup xs => some xs
  | .ro xs => some xs
  | .ref l => match h[l]? with
    | some (.lst xs) => some xs
    | _ => none
  | _ => none
def kEq1 : MV → MV → Bool
  | .int i, .int j => decide (i = j)
  | .str s, .str t => decide (s = t)
  | _, _ => false
def kEqs : List MV → List MV → Bool
  | [], [] => true
  | x :: r, y :: s => kEq1 x y && kEqs r s
  | _, _ => false
def kEq : MV → MV → Bool
  | .tup xs, .tup ys => kEqs xs ys
  | x, y => kEq1 x y
def findM (k : MV) : List (MV × MV) → Option MV
  | [] => none
  | p :: r => if kEq p.1 k then some p.2 else findM k r
def putM (k v : MV) (kvs : List (MV × MV)) : List (MV × MV) := if (kvs.any fun p => kEq p.1 k) = true then kvs.map (fun p => if kEq p.1 k then (p.1, v) else p) else kvs ++ [(k, v)]
def keyB1 : MV → Bool
  | .int _ => true
  | .str _ => true
  | _ => false
/-- a key of a dict; t: a tuple -/
def keyB (t : Bool) : MV → Bool
  | .tup xs => t && xs.all keyB1
  | x => !t && keyB1 x
def dgetK (t : Bool) (kvs : List (MV × MV)) (k : MV) : M MV := if keyB t k then (match findM k kvs with
  | some v => .ret v
  | none => .stk) else .stk
def dinK (t : Bool) (kvs : List (MV × MV)) (k : MV) : M Bool := if keyB t k then .ret (findM k kvs).isSome else .stk
def isinL (v w : MV) : M Bool := fun h => match w with
  | .str t => match v with
    | .str s => .ok (!(Builtin.Str.occurrences t s 0 t.length 1).isEmpty) h
    | _ => .stuck
  | w => match reify h 60 v, reify h 60 w with
    | some d, some (.list ds) => if SeqAt.shaped d && SeqAt.shaped (.list ds) then .ok (ds.any fun z => PyData.eqv z d) h else .stuck
    | some d, some (.tuple ds) => if SeqAt.shaped d && SeqAt.shaped (.tuple ds) then .ok (ds.any fun z => PyData.eqv z d) h else .stuck
    | _, _ => .stuck
def isinV (v w : MV) : M Bool := fun h => match w with
  | .ref l => (match h[l]? with
    | some (.dct t kvs) => dinK t kvs v h
    | _ => isinL v w h)
  | .rod t ks vs => dinK t (ks.zip vs) v h
  | _ => isinL v w h
/-- two dicts by texts and ints -/
def eqR (h : MH) (ls : List (MV × MV)) : List (MV × MV) → Option Bool
  | [] => some true
  | p :: r => match findM p.1 ls with
    | none => some false
    | some y => match reify h 60 p.2, reify h 60 y with
      | some d, some e => if SeqAt.shaped d && SeqAt.shaped e then (eqR h ls r).map (PyData.eqv d e && ·) else none
      | _, _ => none
def eqK (ks vs ls ws : List MV) : M Bool := fun h => if ks.length = ls.length then (match eqR h (ls.zip ws) (ks.zip vs) with
  | some b => .ok b h
  | none => .stuck) else .ok false h
def eqV (v w : MV) : M Bool := match v, w with
  | .str a, .str b => .ret (a == b)
  | .rod false ks vs, .rod false ls ws => eqK ks vs ls ws
  | v, w => eqD v w
def ltV : MV → MV → M Bool
  | .int a, .int b => .ret (decide (a < b))
  | .str a, .str b => .ret (decide (a.cps.toList < b.cps.toList))
  | _, _ => .stk
def leV : MV → MV → M Bool
  | .int a, .int b => .ret (decide (a ≤ b))
  | .str a, .str b => .ret (!decide (b.cps.toList < a.cps.toList))
  | _, _ => .stk
def cmpV : Cop → MV → MV → M Bool
  | .eq, v, w => eqV v w
  | .ne, v, w => (eqV v w).bnd fun b => .ret (!b)
  | .lt, v, w => ltV v w
  | .le, v, w => leV v w
  | .gt, v, w => ltV w v
  | .ge, v, w => leV w v
  | .isin, v, w => isinV v w
  | .notin, v, w => (isinV v w).bnd fun b => .ret (!b)
def truV (v : MV) : M Bool := fun h => match v with
  | .non => .ok false h
  | .bl b => .ok b h
  | .int i => .ok (i != 0) h
  | .str s => if fits s.length then .ok (s.length != 0) h else .stuck
  | .tup xs => .ok (!xs.isEmpty) h
  | .ro xs => .ok (!xs.isEmpty) h
  | .rod _ _ _ => .stuck
  | .obj _ _ _ => .stuck
  | .ref l => match h[l]? with
    | some (.lst xs) => .ok (!xs.isEmpty) h
    | some (.dct false kvs) => .ok (!kvs.isEmpty) h
    | _ => .stuck
def isiV (v : MV) (t : Ty) : M Bool := fun h => match v with
  | .non => .ok false h
  | .bl _ => .ok (match t with | .int => true | .bool => true | _ => false) h
  | .int _ => .ok (match t with | .int => true | _ => false) h
  | .str _ => .ok (match t with | .str => true | _ => false) h
  | .tup _ => .ok (match t with | .tuple => true | _ => false) h
  | .ro _ => .ok (match t with | .list => true | _ => false) h
  | .rod w _ _ => if w then .stuck else .ok (match t with | .dict => true | _ => false) h
  | .obj _ _ _ => .stuck
  | .ref l => match h[l]? with
    | some (.lst _) => .ok (match t with | .list => true | _ => false) h
    | some (.dct false _) => .ok (match t with | .dict => true | _ => false) h
    | _ => .stuck
def isKV (v k : MV) : M Bool := match v, k with
  | .non, .non => .ret true
  | .bl a, .bl b => .ret (a == b)
  | _, _ => .ret false
def idxL (v i : MV) : M MV := fun h => match i with
  | .int i => match v with
    | .str s => if fits s.length then (match L2.atI s.cps.toList i with | some c => .ok (.str ⟨#[c]⟩) h | none => .stuck) else .stuck
    | v => match (seqOf h v).bind fun xs => L2.atI xs i with
      | some x => .ok x h
      | none => .stuck
  | _ => .stuck
def idxV (v i : MV) : M MV := fun h => match v with
  | .ref l => (match h[l]? with
    | some (.dct t kvs) => dgetK t kvs i h
    | _ => idxL v i h)
  | .rod t ks vs => dgetK t (ks.zip vs) i h
  | _ => idxL v i h
def cutM (xs : List MV) (lo hi : Option Int) : List MV := (xs.drop (HT.sIx xs.length 0 lo)).take (HT.sIx xs.length xs.length hi - HT.sIx xs.length 0 lo)
def slcV (v : MV) (lo hi : Option Int) : M MV := fun h => match v with
  | .tup xs => .ok (.tup (cutM xs lo hi)) h
  | .ro xs => M.alloc (.lst (cutM xs lo hi)) h
  | .ref l => match h[l]? with
    | some (.lst xs) => M.alloc (.lst (cutM xs lo hi)) h
    | _ => .stuck
  | _ => .stuck
def allBls : List MV → Option (List Bool)
  | [] => some []
  | .bl b :: r => (allBls r).map (b :: ·)
  | _ :: _ => none
def allInts : List MV → Option (List Int)
  | [] => some []
  | .int i :: r => (allInts r).map (i :: ·)
  | _ :: _ => none
def allStrs : List MV → Option (List Str)
  | [] => some []
  | .str s :: r => (allStrs r).map (s :: ·)
  | _ :: _ => none
def lstOf (v : MV) : M (List MV) := fun h => match lstO h v with
  | some xs => .ok xs h
  | none => .stuck
def lenV (v : MV) : M MV := fun h => match v with
  | .str s => if fits s.length then .ok (.int s.length) h else .stuck
  | .tup xs => .ok (.int xs.length) h
  | .ro xs => .ok (.int xs.length) h
  | .rod false ks _ => .ok (.int ks.length) h
  | .ref l => match h[l]? with
    | some (.lst xs) => .ok (.int xs.length) h
    | some (.dct false kvs) => .ok (.int kvs.length) h
    | _ => .stuck
  | _ => .stuck
def absV : List MV → M MV
  | [.int i] => .ret (.int (if i < 0 then -i else i))
  | _ => .stk
def maxV : List MV → M MV
  | [.int i, .int j] => .ret (.int (if j > i then j else i))
  | _ => .stk
def minV : List MV → M MV
  | [.int i, .int j] => .ret (.int (if j < i then j else i))
  | _ => .stk
def intV : List MV → M MV
  | [.int i] => .ret (.int i)
  | [.bl k] => .ret (.int (if k then 1 else 0))
  | _ => .stk
def len1V : List MV → M MV
  | [v] => lenV v
  | _ => .stk
def divmodV : List MV → M MV
  | [.int i, .int j] => if okDiv j then .ret (.tup [.int (i / j), .int (i % j)]) else .stk
  | _ => .stk
def allV : List MV → M MV
  | [v] => (lstOf v).bnd fun xs => (M.opt (allBls xs)).bnd fun bs => M.ret (.bl (bs.all id))
  | _ => .stk
def anyV : List MV → M MV
  | [v] => (lstOf v).bnd fun xs => (M.opt (allBls xs)).bnd fun bs => M.ret (.bl (bs.any id))
  | _ => .stk
def sumV : List MV → M MV
  | [v] => (lstOf v).bnd fun xs => (M.opt (allInts xs)).bnd fun is => M.ret (.int is.sum)
  | _ => .stk
def repr1V : List MV → M MV
  | [v] => reprV v
  | _ => .stk
def list0V (v : MV) : M MV := fun h => match seqOf h v with
  | some xs => M.alloc (.lst xs) h
  | none => .stuck
def list1V (v : MV) : M MV := match v with
  | .rod false ks _ => M.alloc (.lst ks)
  | v => list0V v
def tuple1V (v : MV) : M MV := fun h => match seqOf h v with
  | some xs => M.ret (.tup xs) h
  | none => .stuck
def listV : List MV → M MV
  | [v] => list1V v
  | _ => .stk
def tupleV : List MV → M MV
  | [v] => tuple1V v
  | _ => .stk
def maxLV : List MV → M MV
  | [v] => (lstOf v).bnd fun xs => (M.opt (allInts xs)).bnd fun is => match is with
    | i :: r => M.ret (.int (r.foldl (fun a b => if b > a then b else a) i))
    | [] => .stk
  | _ => .stk
/-- the texts, sorted -/
def leS (a b : Str) : Bool := !decide (b.cps.toList < a.cps.toList)
def sortS (xs : List Str) : List Str := xs.mergeSort leS
def strsOf (h : MH) : MV → Option (List Str)
  | .rod false ks _ => allStrs ks
  | v => (lstO h v).bind allStrs
def sorted1 (v : MV) : M MV := fun h => match strsOf h v with
  | some xs => if decide (xs.length < 64) then M.alloc (.lst ((sortS xs).map .str)) h else .stuck
  | none => .stuck
def sortedV : List MV → M MV
  | [v] => sorted1 v
  | _ => .stk
/-- a dict by a list of pairs -/
def pairOf : MV → Option (MV × MV)
  | .tup [k, v] => if keyB1 k then some (k, v) else none
  | _ => none
def dictV : List MV → M MV
  | [v] => (lstOf v).bnd fun xs => (M.opt (mapO pairOf xs)).bnd fun ps => M.alloc (.dct false (ps.foldl (fun d p => putM p.1 p.2 d) []))
  | _ => .stk
def biV : Bi → List MV → M MV
  | .abs => absV | .max => maxV | .min => minV | .int => intV | .len => len1V | .divmod => divmodV | .all => allV | .any => anyV | .sum => sumV | .repr => repr1V | .list => listV | .tuple => tupleV
  | .sorted => sortedV | .maxL => maxLV | .dict => dictV
def joined (a : Str) (ys : List Str) : Nat := (ys.map (·.length)).sum + ys.length * a.length
def appendV (o : MV) (vs : List MV) : M MV := match vs with
  | [v] => (match o with
    | .ref l => fun h => match h[l]? with
      | some (.lst xs) => if fitsL xs.length then .ok .non (h.set l (.lst (xs ++ [v]))) else .stuck
      | _ => .stuck
    | _ => .stk)
  | _ => .stk
def joinV (o : MV) (vs : List MV) : M MV := match vs with
  | [v] => (match o with
    | .str a => (lstOf v).bnd fun xs => (M.opt (allStrs xs)).bnd fun ys => (M.chk (fitsJ (joined a ys))).bnd fun _ => M.ret (.str (Txt.join a ys))
    | _ => .stk)
  | _ => .stk
def popV (o : MV) (vs : List MV) : M MV := match vs with
  | [] => (match o with
    | .ref l => fun h => match h[l]? with
      | some (.lst xs) => (match xs[xs.length - 1]? with
        | some y => .ok y (h.set l (.lst xs.dropLast))
        | none => .stuck)
      | _ => .stuck
    | _ => .stk)
  | _ => .stk
def popAtV (o : MV) (vs : List MV) : M MV := match vs with
  | [.int i] => (match o with
    | .ref l => fun h => match h[l]? with
      | some (.lst xs) => if small63 i then (match seqIndex? i xs.length with
        | some k => (match xs[k]? with
          | some y => .ok y (h.set l (.lst (xs.eraseIdx k)))
          | none => .stuck)
        | none => .stuck) else .stuck
      | _ => .stuck
    | _ => .stk)
  | _ => .stk
def extend1 (l : Nat) (y : MV) : M MV := fun h => match h[l]?, lstO h y with
  | some (.lst xs), some ys => if fits (xs.length + ys.length) then .ok .non (h.set l (.lst (xs ++ ys))) else .stuck
  | _, _ => .stuck
def extendV (o : MV) (vs : List MV) : M MV := match o, vs with
  | .ref l, [y] => extend1 l y
  | _, _ => .stk
def insert1 (l : Nat) (i : Int) (y : MV) : M MV := fun h => match h[l]? with
  | some (.lst xs) => if small63 i && decide (0 ≤ i) && fitsL xs.length then .ok .non (h.set l (.lst (xs.take i.toNat ++ [y] ++ xs.drop i.toNat))) else .stuck
  | _ => .stuck
def insertV (o : MV) (vs : List MV) : M MV := match o, vs with
  | .ref l, [.int i, y] => insert1 l i y
  | _, _ => .stk
def index1 (o y : MV) : M MV := fun h => match (lstO h o).bind (mapO (reify h 59)), reify h 60 y with
  | some ds, some d => if SeqAt.shaped (.list ds) && SeqAt.shaped d then (match ds.findIdx? fun z => PyData.eqv z d with
    | some j => .ok (.int (j : Nat)) h
    | none => .stuck) else .stuck
  | _, _ => .stuck
def indexV (o : MV) (vs : List MV) : M MV := match vs with
  | [y] => index1 o y
  | _ => .stk
def count1 (o y : MV) : M MV := fun h => match (lstO h o).bind (mapO (reify h 59)), reify h 60 y with
  | some ds, some d => if PyData.plainAll ds && d.plain && SeqAt.shaped d then .ok (.int ((ds.countP fun z => PyData.eqv z d : Nat) : Int)) h else .stuck
  | _, _ => .stuck
def countV (o : MV) (vs : List MV) : M MV := match vs with
  | [y] => count1 o y
  | _ => .stk
def mtV : Mt → MV → List MV → M MV
  | .append => appendV | .join => joinV | .pop => popV | .popAt => popAtV | .extend => extendV | .insert => insertV | .index => indexV | .count => countV
/-- what a method's owner must be, ahead of the arguments -/
def chkL (l : Nat) : M Unit := fun h => match h[l]? with
  | some (.lst _) => .ok () h
  | _ => .stuck
def rcvV : Mt → MV → M Unit
  | .join, .str _ => .ret ()
  | .join, _ => .stk
  | _, .ref l => chkL l
  | .index, .ro _ => .ret ()
  | .count, .ro _ => .ret ()
  | _, _ => .stk
def setL (o i v : MV) : M Unit := fun h => match o, i with
  | .ref l, .int k => match h[l]? with
    | some (.lst xs) => match L2.ixN xs.length k with
      | some j => .ok () (h.set l (.lst (xs.set j v)))
      | none => .stuck
    | _ => .stuck
  | _, _ => .stuck

def setV (o i v : MV) : M Unit := fun h => match o with
  | .ref l => (match h[l]? with
    | some (.dct t kvs) => if keyB t i && fitsL kvs.length then .ok () (h.set l (.dct t (putM i v kvs))) else .stuck
    | _ => setL o i v h)
  | _ => .stuck
def negV (x : MV) : M MV := match x with
  | .int i => .ret (.int (-i))
  | _ => .stk
def notV (x : MV) : M MV := match x with
  | .bl k => .ret (.bl (!k))
  | _ => .stk
def bopV (d : Bool) (r : M MV) (x : MV) : M MV := match x with
  | .bl k => if k == d then r else .ret (.bl k)
  | _ => .stk
def intO (x : MV) : M (Option Int) := match x with
  | .int i => .ret (some i)
  | _ => .stk
def isisV (x : MV) (ts : List Ty) : M Bool := match ts with
  | [t] => isiV x t
  | [t, u] => (isiV x t).bnd fun k => (isiV x u).bnd fun j => .ret (k || j)
  | _ => .stk
def tupV (xs : List MV) : M MV := if fits xs.length then .ret (.tup xs) else .stk
def lstV (xs : List MV) : M MV := if fits xs.length then M.alloc (.lst xs) else .stk
def dctV (xs : List MV) : M MV := match xs with
  | [] => M.alloc (.dct false [])
  | [.str k, v] => M.alloc (.dct false [(.str k, v)])
  | _ => .stk
def pick {α : Type} (xs : List α) : List Nat → Option (List α)
  | [] => some []
  | i :: r => match xs[i]?, pick xs r with
    | some x, some ys => some (x :: ys)
    | _, _ => none

/-! ### by value, the heap cut -/
mutual
def noRef : MV → Bool
  | .ref _ => false
  | .tup xs => noRefs xs
  | .ro xs => noRefs xs
  | .rod _ ks vs => noRefs ks && noRefs vs
  | .obj _ _ vs => noRefs vs
  | _ => true
def noRefs : List MV → Bool
  | [] => true
  | x :: r => noRef x && noRefs r
end
def noRefO : MO → Bool
  | .lst xs => noRefs xs
  | .dct _ kvs => noRefs (kvs.map (·.1)) && noRefs (kvs.map (·.2))
  | .ins _ fs => noRefs (fs.map (·.2))
  | .gap => true
/-- the value without places: what is new is read -/
def byV (h : MH) (n : Nat) : Nat → MV → Option MV
  | 0, v => if noRef v then some v else none
  | k + 1, v => if noRef v then some v else match v with
    | .ref l => if n ≤ l then (match h[l]? with
      | some (.lst xs) => (mapO (byV h n k) xs).map .ro
      | some (.dct t kvs) => if noRefs (kvs.map (·.1)) then (mapO (byV h n k) (kvs.map (·.2))).map (.rod t (kvs.map (·.1))) else none
      | _ => none) else none
    | .tup xs => (mapO (byV h n k) xs).map .tup
    | .ro xs => (mapO (byV h n k) xs).map .ro
    | _ => none
/-- the old places are as before, or without places -/
def Cln (h h' : MH) : Prop := h.length ≤ h'.length ∧ ∀ i : Nat, i < h.length → h'[i]? = h[i]? ∨ ∃ o, h'[i]? = some o ∧ noRefO o = true
open Classical in
noncomputable def bvV (f : M MV) : M MV := fun h => match f h with
  | .ok v h2 => if Cln h h2 then (match byV h2 h.length 60 v with
    | some w => .ok w (h2.take h.length)
    | none => .stuck) else .stuck
  | _ => .stuck
/-- a field of an instance -/
def fldV (c f : Str) (v : MV) : M MV := match v with
  | .obj d ns vs => if d = c then M.opt ((ns.zip vs).lookup f) else .stk
  | _ => .stk
def isoV (c : Str) (v : MV) : M Bool := fun h => match v with
  | .obj d _ _ => if d = c then .ok true h else .stuck
  | .ref l => (match h[l]? with
    | some (.lst _) => .ok false h
    | some (.dct false _) => .ok false h
    | _ => .stuck)
  | .rod t _ _ => if t then .stuck else .ok false h
  | _ => .ok false h
def setfV (c f : Str) (o v : MV) : M Unit := match o with
  | .ref l => fun h => match h[l]? with
    | some (.ins d []) => if d = c then .ok () (h.set l (.ins d [(f, v)])) else .stuck
    | _ => .stuck
  | _ => .stk
open Classical in
/-- an instance is made: g is its __init__ -/
noncomputable def mkV (c : Str) (g : List MV → M MV) (xs : List MV) : M MV := fun h => match g (.ref h.length :: xs) (h ++ [.ins c []]) with
  | .ok .non h2 => if Cln h h2 then (match h2[h.length]? with
    | some (.ins d fs) => if d == c && noRefs (fs.map (·.2)) then .ok (.obj c (fs.map (·.1)) (fs.map (·.2))) (h2.take h.length) else .stuck
    | _ => .stuck) else .stuck
  | _ => .stuck
/-- a method of an instance -/
def ownV (c m : Str) (g : List MV → M MV) (x : MV) (xs : List MV) : M MV := match x with
  | .obj d ns vs => if d = c ∧ (ns.zip vs).lookup m = none then g (.obj d ns vs :: xs) else .stk
  | _ => .stk
/-- == and != by an own __eq__ -/
def eqoV (c : Str) (g : List MV → M MV) (x y : MV) : M Bool := match x, y with
  | .obj d ns vs, .obj e ms ws => if d = c ∧ e = c then (g [.obj d ns vs, .obj e ms ws]).bnd fun z => match z with
    | .bl k => .ret k
    | _ => .stk else .stk
  | _, _ => .stk
def neoV (c : Str) (g : List MV → M MV) (x y : MV) : M Bool := match x, y with
  | .obj d ns vs, .obj e ms ws => if d = c ∧ e = c then (g [.obj d ns vs, .obj e ms ws]).bnd fun z => match z with
    | .bl k => .ret (!k)
    | _ => .stk else .stk
  | _, _ => .stk
def revV (x : MV) : M MV := match x with
  | .ro xs => M.alloc (.lst xs.reverse)
  | _ => .stk
/-! ### terms -/
mutual
inductive E where
  | var (i : Nat)
  | lit (v : MV)
  | glo (x : Str) (v : MV)
  | tup (es : EL)
  | lst (es : EL)
  | dct (es : EL)
  | bin (o : Bop) (a b : E)
  | neg (a : E)
  | cmp (o : Cop) (a b : E)
  | chain (o p : Cop) (a b c : E)
  | isK (ng : Bool) (a : E) (v : MV)
  | bop (isAnd : Bool) (es : EL)
  | not (a : E)
  | ife (t a b : E)
  | call (f : Nat) (es : EL)
  | callk (f : Nat) (es kes : EL) (arr : List Nat)
  | bi (b : Bi) (es : EL)
  | isi (a : E) (ts : List Ty)
  | mth (m : Mt) (o : E) (es : EL)
  | idx (a b : E)
  | slc (a : E) (lo hi : EO)
  | lc (e : E) (t : Tg) (it : Ir) (cs : EO) (own : List Nat)
  | bad
  | val (e : E)
  | fld (e : E) (c f : Str)
  | con (c f : Str) (v : MV)
  | mk (c : Str) (f : Nat) (es : EL)
  | iso (a : E) (c : Str)
  | own (f : Nat) (c m : Str) (o : E) (es : EL)
  | dctT
  | neo (f : Nat) (c : Str) (a b : E)
  | rev (a : E)
  | eqo (f : Nat) (c : Str) (a b : E)
  | dc (t : Bool) (k v : E) (g : Tg) (it : Ir) (cs : EO) (own : List Nat)
  | dz (a b : E)
inductive EL where
  | nil
  | cons (e : E) (r : EL)
inductive EO where
  | no
  | so (e : E)
inductive Tg where
  | nm (i : Nat)
  | tp (ts : TgL)
  | sb (o i : E)
inductive TgL where
  | nil
  | cons (t : Tg) (r : TgL)
inductive Ir where
  | vl (e : E)
  | rg1 (a : E)
  | rg2 (a b : E)
  | en (a : E)
  | its (a : E)
  | vas (a : E)
  | zp (a b : E)
end
mutual
inductive S where
  | asg (t : Tg) (e : E)
  | par (i j : Nat) (a b : E)
  | ex (e : E)
  | ret (e : E)
  | retN
  | ifs (c : E) (a b : SL)
  | fors (t : Tg) (it : Ir) (b : SL)
  | whl (c : E) (b : SL)
  | pas
  | bad
  | brk
  | cnt
  | setf (c : Str) (o : E) (f : Str) (e : E)
  | aug (sb : Bool) (i : Nat) (e : E)
  | par3 (i j k : Nat) (a b c : E)
inductive SL where
  | nil
  | cons (s : S) (r : SL)
end

abbrev Env := List (Option MV)
/-- what is walked: a list by its place, or fixed items -/
inductive Itv where
  | il (l : Nat)
  | vs (xs : List MV)
/-- the i-th item: none is stuck, some none the end -/
def nxt (h : MH) (it : Itv) (i : Nat) : Option (Option MV) := match it with
  | .il l => match h[l]? with
    | some (.lst xs) => some xs[i]?
    | _ => none
  | .vs xs => some xs[i]?
def rangeItems (lo hi : Int) : List MV := (List.range (hi - lo).toNat).map fun (i : Nat) => MV.int (lo + (i : Int))
def itV (x : MV) : M Itv := match x with
  | .ref l => (chkL l).bnd fun _ => .ret (.il l)
  | .tup xs => .ret (.vs xs)
  | .ro xs => .ret (.vs xs)
  | .rod _ ks _ => .ret (.vs ks)
  | .str s => .ret (.vs (s.cps.toList.map fun c => MV.str ⟨#[c]⟩))
  | _ => .stk
def rg1V (x : MV) : M Itv := match x with
  | .int n => if smallR n then .ret (.vs (rangeItems 0 n)) else .stk
  | _ => .stk
def fitV (xs : List MV) : M Itv := .ret (.vs xs)
def enV (x : MV) : M Itv := fun h => match x with
  | .tup xs => .ok (.vs ((List.range xs.length).zip xs |>.map fun p => MV.tup [.int (p.1 : Int), p.2])) h
  | .ro xs => .ok (.vs ((List.range xs.length).zip xs |>.map fun p => MV.tup [.int (p.1 : Int), p.2])) h
  | _ => .stuck
def itsV (x : MV) : M Itv := match x with
  | .rod _ ks vs => .ret (.vs ((ks.zip vs).map fun p => MV.tup [p.1, p.2]))
  | _ => .stk
def vasV (x : MV) : M Itv := match x with
  | .rod false _ vs => .ret (.vs vs)
  | _ => .stk
def zipS : MV → Option (List MV)
  | .tup xs => some xs
  | .ro xs => some xs
  | .rod false ks _ => some ks
  | _ => none
/-- dict(zip(x, y)) -/
def dzV (x y : MV) : M MV := match zipS x, zipS y with
  | some xs, some ys => if xs.all keyB1 && fits xs.length then M.alloc (.dct false ((xs.zip ys).foldl (fun d p => putM p.1 p.2 d) [])) else .stk
  | _, _ => .stk
def zpV (x y : MV) : M Itv := match zipS x, zipS y with
  | some xs, some ys => .ret (.vs ((xs.zip ys).map fun p => MV.tup [p.1, p.2]))
  | _, _ => .stk
def rg2V (x y : MV) : M Itv := match x, y with
  | .int m, .int n => if smallR m && smallR n then .ret (.vs (rangeItems m n)) else .stk
  | _, _ => .stk
def wipeE (ρ : Env) : List Nat → Env
  | [] => ρ
  | v :: vs => (wipeE ρ vs).set v none
inductive Fl where
  | nx | rt (v : MV) | bk | ct

section
variable (F : Nat → List MV → M MV) (W : Nat)
def lcStep (fg : MV → Env → M Env) (ft : Env → M Bool) (fe : Env → M MV) (ρ : Env) (x : MV) : M (Option MV) := (fg x ρ).bnd fun ρ' => (ft ρ').bnd fun k => if k then (fe ρ').bnd fun y => .ret (some y) else .ret none
/-- the loop of a comprehension -/
def lcLoop (step : MV → M (Option MV)) (it : Itv) : Nat → Nat → List MV → M (List MV)
  | 0, _, _ => .stk
  | w + 1, i, acc => fun h => match nxt h it i with
    | none => .stuck
    | some none => .ok acc h
    | some (some x) => ((step x).bnd fun o => match o with
      | some y => if fitsL acc.length then lcLoop step it w (i + 1) (acc ++ [y]) else .stk
      | none => lcLoop step it w (i + 1) acc) h
def dcStep (fg : MV → Env → M Env) (ft : Env → M Bool) (fk fe : Env → M MV) (ρ : Env) (x : MV) : M (Option (MV × MV)) := (fg x ρ).bnd fun ρ' => (ft ρ').bnd fun k => if k then (fk ρ').bnd fun y => (fe ρ').bnd fun z => .ret (some (y, z)) else .ret none
/-- the loop of a dict comprehension -/
def dcLoop (t : Bool) (step : MV → M (Option (MV × MV))) (it : Itv) : Nat → Nat → List (MV × MV) → M (List (MV × MV))
  | 0, _, _ => .stk
  | w + 1, i, acc => fun h => match nxt h it i with
    | none => .stuck
    | some none => .ok acc h
    | some (some x) => ((step x).bnd fun o => match o with
      | some y => if keyB t y.1 && fitsL acc.length then dcLoop t step it w (i + 1) (putM y.1 y.2 acc) else .stk
      | none => dcLoop t step it w (i + 1) acc) h
mutual
noncomputable def evE : E → Env → M MV
  | .var i, ρ => match ρ[i]? with
    | some (some v) => .ret v
    | _ => .stk
  | .lit v, _ => .ret v
  | .glo _ v, _ => .ret v
  | .tup es, ρ => (evEL es ρ).bnd tupV
  | .lst es, ρ => (evEL es ρ).bnd lstV
  | .dct es, ρ => (evEL es ρ).bnd dctV
  | .bin o a b, ρ => (evE a ρ).bnd fun x => (evE b ρ).bnd fun y => binV o x y
  | .neg a, ρ => (evE a ρ).bnd negV
  | .cmp o a b, ρ => (evE a ρ).bnd fun x => (evE b ρ).bnd fun y => (cmpV o x y).bnd fun k => .ret (.bl k)
  | .chain o p a b c, ρ => (evE a ρ).bnd fun x => (evE b ρ).bnd fun y => (cmpV o x y).bnd fun k =>
    if k then (evE c ρ).bnd fun z => (cmpV p y z).bnd fun k => .ret (.bl k) else .ret (.bl false)
  | .isK ng a v, ρ => (evE a ρ).bnd fun x => (isKV x v).bnd fun k => .ret (.bl (if ng then !k else k))
  | .bop d es, ρ => evB d es ρ
  | .not a, ρ => (evE a ρ).bnd notV
  | .ife t a b, ρ => (evT t ρ).bnd fun k => if k then evE a ρ else evE b ρ
  | .call f es, ρ => (evEL es ρ).bnd fun xs => F f xs
  | .callk f es kes arr, ρ => (evEL es ρ).bnd fun xs => (evEL kes ρ).bnd fun ys =>
    (M.opt (pick (xs ++ ys) arr)).bnd fun zs => F f zs
  | .bi b es, ρ => (evEL es ρ).bnd fun xs => biV b xs
  | .isi a ts, ρ => (evE a ρ).bnd fun x => (isisV x ts).bnd fun k => .ret (.bl k)
  | .mth m o es, ρ => (evE o ρ).bnd fun x => (rcvV m x).bnd fun _ => (evEL es ρ).bnd fun xs => mtV m x xs
  | .idx a b, ρ => (evE a ρ).bnd fun x => (evE b ρ).bnd fun y => idxV x y
  | .slc a lo hi, ρ => (evE a ρ).bnd fun x => (evO lo ρ).bnd fun l => (evO hi ρ).bnd fun u => slcV x l u
  | .lc e t it cs own, ρ => (evIt it ρ).bnd fun J => (lcLoop (lcStep (asgT t) (evC cs) (evE e) (wipeE ρ own)) J W 0 []).bnd fun ys => M.alloc (.lst ys)
  | .bad, _ => .stk
  | .val e, ρ => bvV (evE e ρ)
  | .fld e c f, ρ => (evE e ρ).bnd (fldV c f)
  | .con _ _ v, _ => .ret v
  | .mk c f es, ρ => (evEL es ρ).bnd fun xs => mkV c (F f) xs
  | .iso a c, ρ => (evE a ρ).bnd fun x => (isoV c x).bnd fun k => .ret (.bl k)
  | .own f c m o es, ρ => (evE o ρ).bnd fun x => (evEL es ρ).bnd fun xs => ownV c m (F f) x xs
  | .dctT, _ => M.alloc (.dct true [])
  | .neo f c a b, ρ => (evE a ρ).bnd fun x => (evE b ρ).bnd fun y => (neoV c (F f) x y).bnd fun k => .ret (.bl k)
  | .rev a, ρ => (evE a ρ).bnd revV
  | .eqo f c a b, ρ => (evE a ρ).bnd fun x => (evE b ρ).bnd fun y => (eqoV c (F f) x y).bnd fun k => .ret (.bl k)
  | .dc t k v g it cs own, ρ => (evIt it ρ).bnd fun J => (dcLoop t (dcStep (asgT g) (evC cs) (evE k) (evE v) (wipeE ρ own)) J W 0 []).bnd fun ys => M.alloc (.dct t ys)
  | .dz a b, ρ => (evE a ρ).bnd fun x => (evE b ρ).bnd fun y => dzV x y
noncomputable def evEL : EL → Env → M (List MV)
  | .nil, _ => .ret []
  | .cons e r, ρ => (evE e ρ).bnd fun x => (evEL r ρ).bnd fun xs => .ret (x :: xs)
/-- and, or, as values -/
noncomputable def evB (d : Bool) : EL → Env → M MV
  | .nil, _ => .stk
  | .cons e .nil, ρ => evE e ρ
  | .cons e r, ρ => (evE e ρ).bnd fun x => bopV d (evB d r ρ) x
/-- a slice's end -/
noncomputable def evO : EO → Env → M (Option Int)
  | .no, _ => .ret none
  | .so e, ρ => (evE e ρ).bnd intO
/-- a comprehension's test -/
noncomputable def evC : EO → Env → M Bool
  | .no, _ => .ret true
  | .so e, ρ => evT e ρ
/-- a test -/
noncomputable def evT : E → Env → M Bool
  | .bop d es, ρ => evBT d es ρ
  | .not a, ρ => (evT a ρ).bnd fun k => .ret (!k)
  | .var i, ρ => (match ρ[i]? with
    | some (some v) => M.ret v
    | _ => M.stk).bnd truV
  | .cmp o a b, ρ => (evE a ρ).bnd fun x => (evE b ρ).bnd fun y => cmpV o x y
  | .chain o p a b c, ρ => (evE a ρ).bnd fun x => (evE b ρ).bnd fun y => (cmpV o x y).bnd fun k =>
    if k then (evE c ρ).bnd fun z => cmpV p y z else .ret false
  | .isK ng a v, ρ => (evE a ρ).bnd fun x => (isKV x v).bnd fun k => .ret (if ng then !k else k)
  | .call f es, ρ => (evEL es ρ).bnd fun xs => (F f xs).bnd truV
  | .bi b es, ρ => (evEL es ρ).bnd fun xs => (biV b xs).bnd truV
  | .isi a ts, ρ => (evE a ρ).bnd fun x => isisV x ts
  | .idx a b, ρ => (evE a ρ).bnd fun x => (evE b ρ).bnd fun y => (idxV x y).bnd truV
  | .iso a c, ρ => (evE a ρ).bnd fun x => isoV c x
  | .neo f c a b, ρ => (evE a ρ).bnd fun x => (evE b ρ).bnd fun y => neoV c (F f) x y
  | .eqo f c a b, ρ => (evE a ρ).bnd fun x => (evE b ρ).bnd fun y => eqoV c (F f) x y
  | _, _ => .stk
noncomputable def evBT (d : Bool) : EL → Env → M Bool
  | .nil, _ => .stk
  | .cons e .nil, ρ => evT e ρ
  | .cons e r, ρ => (evT e ρ).bnd fun k => if k == d then evBT d r ρ else .ret k
noncomputable def asgT : Tg → MV → Env → M Env
  | .nm i, v, ρ => .ret (ρ.set i (some v))
  | .tp ts, v, ρ => match v with
    | .tup xs => asgL ts xs ρ
    | _ => .stk
  | .sb o i, v, ρ => (evE o ρ).bnd fun x => (evE i ρ).bnd fun y => (setV x y v).bnd fun _ => .ret ρ
noncomputable def asgL : TgL → List MV → Env → M Env
  | .nil, [], ρ => .ret ρ
  | .cons t r, x :: xs, ρ => (asgT t x ρ).bnd fun ρ' => asgL r xs ρ'
  | _, _, _ => .stk
noncomputable def evIt : Ir → Env → M Itv
  | .vl e, ρ => (evE e ρ).bnd itV
  | .rg1 a, ρ => (evE a ρ).bnd rg1V
  | .rg2 a b, ρ => (evE a ρ).bnd fun x => (evE b ρ).bnd fun y => rg2V x y
  | .en a, ρ => (evE a ρ).bnd enV
  | .its a, ρ => (evE a ρ).bnd itsV
  | .vas a, ρ => (evE a ρ).bnd vasV
  | .zp a b, ρ => (evE a ρ).bnd fun x => (evE b ρ).bnd fun y => zpV x y
end
def forLoop (asg : MV → Env → M Env) (body : Env → M (Env × Fl)) (it : Itv) : Nat → Nat → Env → M (Env × Fl)
  | 0, _, _ => .stk
  | w + 1, i, ρ => fun h => match nxt h it i with
    | none => .stuck
    | some none => .ok (ρ, .nx) h
    | some (some x) => ((asg x ρ).bnd fun ρ' => (body ρ').bnd fun p => match p.2 with
      | .nx => forLoop asg body it w (i + 1) p.1
      | .ct => forLoop asg body it w (i + 1) p.1
      | .bk => .ret (p.1, .nx)
      | .rt v => .ret (p.1, .rt v)) h
def whlLoop (test : Env → M Bool) (body : Env → M (Env × Fl)) : Nat → Env → M (Env × Fl)
  | 0, _ => .stk
  | w + 1, ρ => (test ρ).bnd fun k => if k then (body ρ).bnd fun p => match p.2 with
      | .nx => whlLoop test body w p.1
      | .ct => whlLoop test body w p.1
      | .bk => .ret (p.1, .nx)
      | .rt v => .ret (p.1, .rt v)
    else .ret (ρ, .nx)
mutual
noncomputable def evS : S → Env → M (Env × Fl)
  | .asg t e, ρ => (evE F W e ρ).bnd fun x => (asgT F W t x ρ).bnd fun ρ' => .ret (ρ', .nx)
  | .par i j a b, ρ => (evE F W a ρ).bnd fun x => (evE F W b ρ).bnd fun y => .ret ((ρ.set i (some x)).set j (some y), .nx)
  | .ex e, ρ => (evE F W e ρ).bnd fun _ => .ret (ρ, .nx)
  | .ret e, ρ => (evE F W e ρ).bnd fun x => .ret (ρ, .rt x)
  | .retN, ρ => .ret (ρ, .rt .non)
  | .ifs c a b, ρ => (evT F W c ρ).bnd fun k => if k then evSL a ρ else evSL b ρ
  | .fors t it b, ρ => (evIt F W it ρ).bnd fun J => forLoop (asgT F W t) (evSL b) J W 0 ρ
  | .whl c b, ρ => whlLoop (evT F W c) (evSL b) W ρ
  | .pas, ρ => .ret (ρ, .nx)
  | .bad, _ => .stk
  | .brk, ρ => .ret (ρ, .bk)
  | .cnt, ρ => .ret (ρ, .ct)
  | .setf c o f e, ρ => (evE F W e ρ).bnd fun x => (evE F W o ρ).bnd fun y => (setfV c f y x).bnd fun _ => .ret (ρ, .nx)
  | .aug sb i e, ρ => (evE F W (.var i) ρ).bnd fun x => (evE F W e ρ).bnd fun y => (augV sb x y).bnd fun z => .ret (ρ.set i (some z), .nx)
  | .par3 i j k a b c, ρ => (evE F W a ρ).bnd fun x => (evE F W b ρ).bnd fun y => (evE F W c ρ).bnd fun z => .ret (((ρ.set i (some x)).set j (some y)).set k (some z), .nx)
noncomputable def evSL : SL → Env → M (Env × Fl)
  | .nil, ρ => .ret (ρ, .nx)
  | .cons s r, ρ => (evS s ρ).bnd fun p => match p.2 with
    | .nx => evSL r p.1
    | f => .ret (p.1, f)
end
end

/-- a def: how many parameters, how many slots, its body -/
structure Def where
  cl : Bool
  np : Nat
  ns : Nat
  body : SL
noncomputable def clV (b : Bool) (f : M MV) : M MV := if b then bvV f else f
noncomputable def callF (T : List Def) (W : Nat) : Nat → Nat → List MV → M MV
  | 0, _, _ => .stk
  | n + 1, f, args => match T[f]? with
    | some d => if args.length = d.np then
        clV d.cl ((evSL (callF T W n) W d.body (args.map some ++ List.replicate (d.ns - d.np) none)).bnd fun p => match p.2 with
          | .nx => .ret .non
          | .rt v => .ret v
          | _ => .stk)
      else .stk
    | none => .stk
end MP
/-! MP: how its states lie in the model's abstract heap; what a rule is worth. -/
namespace MP
open PySem PySem.Spec L2

/-- a list that is only read: frozen, or of the written part -/
def RoL (K : PySem.W.Frag) (H : Hp) (a : Addr) (xs : List V) : Prop :=
  (∃ o, H a = some (.frz o (.lst xs))) ∨
    ∃ (its : List Value) (n : Nat), K.lookup a = some { cls := .type "list", data := .seq its.toArray n } ∧ its.length ≤ sizeLine ∧ Vals xs its
theorem RoL.sq {K : PySem.W.Frag} {H : Hp} {a : Addr} {xs : List V} (h : RoL K H a xs) : SqL K H a xs := by
  rcases h with h | ⟨its, n, e, z, r⟩
  · exact .inl (.inr h)
  · exact .inr ⟨_, its.toArray, n, e, rfl, rfl, rfl, by rw [List.size_toArray]; exact z, by simpa using r⟩
/-- a list, however it stands -/
def LsA (K : PySem.W.Frag) (H : Hp) (a : Addr) (xs : List V) : Prop := H a = some (.lst xs) ∨ RoL K H a xs
theorem LsA.sq {K : PySem.W.Frag} {H : Hp} {a : Addr} {xs : List V} (h : LsA K H a xs) : SqL K H a xs := h.elim SqL.of RoL.sq
/-- what may be written -/
def Wr : Option HO → Prop
  | none => True
  | some (.lst _) => True
  | some (.dK _) => True
  | some (.dT _) => True
  | some (.ins _ _ _) => True
  | _ => False
/-- keys of a dict: ints and texts, tuples of such -/
def keyM : MV → Option Key
  | .int i => some (.inl i)
  | .str s => some (.inr s)
  | _ => none
def keyT : MV → Option (List Key)
  | .tup xs => mapO keyM xs
  | _ => none
/-- a dict's keys -/
def DkR (t : Bool) (ks : List MV) (ws : List V) (u : HO) : Prop :=
  (t = false ∧ ∃ kk, u = .dK (kk.zip ws) ∧ mapO keyM ks = some kk ∧ kk.length = ws.length) ∨ (t = true ∧ ∃ kk, u = .dT (kk.zip ws) ∧ mapO keyT ks = some kk ∧ kk.length = ws.length)
mutual
def VR (K : PySem.W.Frag) (m : List Addr) (H : Hp) : MV → V → Prop
  | .non, v => v = .non
  | .bl b, v => v = .bl b
  | .int i, v => v = .int i
  | .str s, v => v = .str s
  | .ref l, v => ∃ a, m[l]? = some a ∧ v = .ref a
  | .tup xs, v => ∃ a vs, v = .ref a ∧ H a = some (.tup vs) ∧ VRs K m H xs vs
  | .ro xs, v => ∃ a vs, v = .ref a ∧ RoL K H a vs ∧ VRs K m H xs vs
  | .rod t ks xs, v => ∃ a u ws, v = .ref a ∧ (∃ o, H a = some (.frz o u)) ∧ DkR t ks ws u ∧ VRs K m H xs ws
  | .obj c ns xs, v => ∃ a dx ws, v = .ref a ∧ H a = some (.ins (He.ga K c) dx (ns.zip ws)) ∧ ns.length = ws.length ∧ a ∉ m ∧ VRs K m H xs ws
def VRs (K : PySem.W.Frag) (m : List Addr) (H : Hp) : List MV → List V → Prop
  | [], vs => vs = []
  | x :: xs, vs => ∃ v r, vs = v :: r ∧ VR K m H x v ∧ VRs K m H xs r
end
def KR (K : PySem.W.Frag) (m : List Addr) (H : Hp) : List (MV × MV) → List (Key × V) → Prop
  | [], ks => ks = []
  | p :: r, ks => ∃ k v t, ks = (k, v) :: t ∧ keyM p.1 = some k ∧ VR K m H p.2 v ∧ KR K m H r t
def KT (K : PySem.W.Frag) (m : List Addr) (H : Hp) : List (MV × MV) → List (List Key × V) → Prop
  | [], ks => ks = []
  | p :: r, ks => ∃ k v t, ks = (k, v) :: t ∧ keyT p.1 = some k ∧ VR K m H p.2 v ∧ KT K m H r t
def FR (K : PySem.W.Frag) (m : List Addr) (H : Hp) : List (Str × MV) → List (Str × V) → Prop
  | [], ks => ks = []
  | p :: r, ks => ∃ v t, ks = (p.1, v) :: t ∧ VR K m H p.2 v ∧ FR K m H r t
/-- a dict's content -/
def DR (K : PySem.W.Frag) (m : List Addr) (H : Hp) (t : Bool) (kvs : List (MV × MV)) (u : HO) : Prop := match t with
  | false => ∃ ks, u = .dK ks ∧ KR K m H kvs ks
  | true => ∃ ks, u = .dT ks ∧ KT K m H kvs ks
/-- an object at its address -/
def ObR (K : PySem.W.Frag) (m : List Addr) (H : Hp) (a : Addr) : MO → Prop
  | .lst xs => ∃ vs, H a = some (.lst vs) ∧ VRs K m H xs vs
  | .dct t kvs => ∃ u, H a = some u ∧ DR K m H t kvs u
  | .ins c fs => ∃ dx ks, H a = some (.ins (He.ga K c) dx ks) ∧ FR K m H fs ks
  | .gap => ∃ o u, H a = some (.frz o u)
structure Sim (K : PySem.W.Frag) (m : List Addr) (h : MH) (H : Hp) : Prop where
  len : m.length = h.length
  nd : m.Nodup
  ob : ∀ (l : Nat) (a : Addr) (o : MO), m[l]? = some a → h[l]? = some o → ObR K m H a o
structure Mon (K : PySem.W.Frag) (m : List Addr) (H : Hp) (m' : List Addr) (H' : Hp) : Prop where
  pre : m <+: m'
  tup : ∀ a vs, H a = some (.tup vs) → H' a = some (.tup vs)
  ro : ∀ a vs, RoL K H a vs → RoL K H' a vs
  frz : ∀ a b u, H a = some (.frz b u) → H' a = some (.frz b u)
  obj : ∀ a C dx fs, a ∉ m → H a = some (.ins C dx fs) → a ∉ m' ∧ H' a = some (.ins C dx fs)
structure Post (K : PySem.W.Frag) (m : List Addr) (H : Hp) (m' : List Addr) (H' : Hp) : Prop where
  pre : m <+: m'
  tup : ∀ a vs, H a = some (.tup vs) → H' a = some (.tup vs)
  ro : ∀ a vs, RoL K H a vs → RoL K H' a vs
  frz : ∀ a b u, H a = some (.frz b u) → H' a = some (.frz b u)
  out : ∀ a o, a ∉ m → H a = some o → H' a = some o
  new : ∀ a, a ∈ m' → a ∉ m → H a = none
section
variable {K : PySem.W.Frag} {m m' m'' : List Addr} {H H' H'' : Hp}
theorem Post.refl : Post K m H m H := ⟨List.prefix_refl _, fun _ _ h => h, fun _ _ h => h, fun _ _ _ h => h, fun _ _ _ h => h, fun _ h n => absurd h n⟩
theorem Post.obj (P : Post K m H m' H') : ∀ a C dx fs, a ∉ m → H a = some (.ins C dx fs) → a ∉ m' ∧ H' a = some (.ins C dx fs) := fun a C dx fs n e =>
  ⟨fun z => (by have q := P.new a z n; rw [e] at q; cases q), P.out a _ n e⟩
theorem Post.mon (P : Post K m H m' H') : Mon K m H m' H' := ⟨P.pre, P.tup, P.ro, P.frz, P.obj⟩
theorem Mon.get (P : Mon K m H m' H') {l : Nat} {a : Addr} (h : m[l]? = some a) : m'[l]? = some a := by
  obtain ⟨t, rfl⟩ := P.pre
  have hl := (List.getElem?_eq_some_iff.mp h).1
  rw [List.getElem?_append_left hl]; exact h
theorem Post.get (P : Post K m H m' H') {l : Nat} {a : Addr} (h : m[l]? = some a) : m'[l]? = some a := by
  obtain ⟨t, rfl⟩ := P.pre
  have hl := (List.getElem?_eq_some_iff.mp h).1
  rw [List.getElem?_append_left hl]; exact h
theorem Post.mem (P : Post K m H m' H') {a : Addr} (h : a ∈ m) : a ∈ m' := P.pre.subset h
theorem Post.trans (P : Post K m H m' H') (Q : Post K m' H' m'' H'') : Post K m H m'' H'' := by
  refine ⟨P.pre.trans Q.pre, fun a vs h => Q.tup a vs (P.tup a vs h), fun a vs h => Q.ro a vs (P.ro a vs h), fun a b u h => Q.frz a b u (P.frz a b u h), fun a o n h => ?_, fun a h n => ?_⟩
  · refine Q.out a o (fun z => ?_) (P.out a o n h)
    have := P.new a z n
    rw [h] at this; cases this
  · cases e : H a with
    | none => rfl
    | some o =>
      by_cases z : a ∈ m'
      · have := P.new a z n; rw [e] at this; cases this
      · have h1 := P.out a o n e
        have h2 := Q.new a h z
        rw [h1] at h2; cases h2
mutual
theorem VR.mn (P : Mon K m H m' H') : ∀ {x : MV} {v : V}, VR K m H x v → VR K m' H' x v
  | .non, _, h => by unfold VR at h ⊢; exact h
  | .bl _, _, h => by unfold VR at h ⊢; exact h
  | .int _, _, h => by unfold VR at h ⊢; exact h
  | .str _, _, h => by unfold VR at h ⊢; exact h
  | .ref _, _, h => by
    unfold VR at h ⊢
    obtain ⟨a, e, q⟩ := h
    exact ⟨a, P.get e, q⟩
  | .tup _, _, h => by
    unfold VR at h ⊢
    obtain ⟨a, vs, e, q, r⟩ := h
    exact ⟨a, vs, e, P.tup _ _ q, VRs.mn P r⟩
  | .ro _, _, h => by
    unfold VR at h ⊢
    obtain ⟨a, vs, e, q, r⟩ := h
    exact ⟨a, vs, e, P.ro _ _ q, VRs.mn P r⟩
  | .rod _ _ _, _, h => by
    unfold VR at h ⊢
    obtain ⟨a, u, ws, e, ⟨o, q⟩, d, r⟩ := h
    exact ⟨a, u, ws, e, ⟨o, P.frz _ _ _ q⟩, d, VRs.mn P r⟩
  | .obj _ _ _, _, h => by
    unfold VR at h ⊢
    obtain ⟨a, dx, ws, e, q, l, n, r⟩ := h
    exact ⟨a, dx, ws, e, (P.obj _ _ _ _ n q).2, l, (P.obj _ _ _ _ n q).1, VRs.mn P r⟩
theorem VRs.mn (P : Mon K m H m' H') : ∀ {xs : List MV} {vs : List V}, VRs K m H xs vs → VRs K m' H' xs vs
  | [], _, h => by unfold VRs at h ⊢; exact h
  | _ :: _, _, h => by
    unfold VRs at h ⊢
    obtain ⟨v, r, e, q, t⟩ := h
    exact ⟨v, r, e, VR.mn P q, VRs.mn P t⟩
end
theorem VR.mono (P : Post K m H m' H') {x : MV} {v : V} (h : VR K m H x v) : VR K m' H' x v := h.mn P.mon
theorem VRs.mono (P : Post K m H m' H') {x : List MV} {v : List V} (h : VRs K m H x v) : VRs K m' H' x v := h.mn P.mon
theorem KR.mn (P : Mon K m H m' H') : ∀ {xs : List (MV × MV)} {ks : List (Key × V)}, KR K m H xs ks → KR K m' H' xs ks
  | [], _, h => h
  | _ :: _, _, h => by
    obtain ⟨k, v, t, e, q, r, u⟩ := h
    exact ⟨k, v, t, e, q, r.mn P, KR.mn P u⟩
theorem KT.mn (P : Mon K m H m' H') : ∀ {xs : List (MV × MV)} {ks : List (List Key × V)}, KT K m H xs ks → KT K m' H' xs ks
  | [], _, h => h
  | _ :: _, _, h => by
    obtain ⟨k, v, t, e, q, r, u⟩ := h
    exact ⟨k, v, t, e, q, r.mn P, KT.mn P u⟩
theorem KR.mono (P : Post K m H m' H') {xs : List (MV × MV)} {ks : List (Key × V)} (h : KR K m H xs ks) : KR K m' H' xs ks := h.mn P.mon
theorem KT.mono (P : Post K m H m' H') {xs : List (MV × MV)} {ks : List (List Key × V)} (h : KT K m H xs ks) : KT K m' H' xs ks := h.mn P.mon
theorem DR.mn (P : Mon K m H m' H') {t : Bool} {xs : List (MV × MV)} {u : HO} (h : DR K m H t xs u) : DR K m' H' t xs u := by
  cases t with
  | false => obtain ⟨ks, e, r⟩ := h; exact ⟨ks, e, r.mn P⟩
  | true => obtain ⟨ks, e, r⟩ := h; exact ⟨ks, e, r.mn P⟩
theorem VRs.length : ∀ {xs : List MV} {vs : List V}, VRs K m H xs vs → xs.length = vs.length
  | [], _, h => by unfold VRs at h; rw [h]; rfl
  | _ :: _, _, h => by
    unfold VRs at h
    obtain ⟨v, r, e, _, t⟩ := h
    rw [e, List.length_cons, List.length_cons, VRs.length t]
theorem VRs.get : ∀ {xs : List MV} {vs : List V} {i : Nat} {x : MV}, VRs K m H xs vs → xs[i]? = some x → ∃ v, vs[i]? = some v ∧ VR K m H x v
  | [], _, _, _, _, e => by simp at e
  | _ :: _, _, 0, _, h, e => by
    unfold VRs at h
    obtain ⟨v, r, rfl, q, _⟩ := h
    simp at e; subst e
    exact ⟨v, rfl, q⟩
  | _ :: _, _, i + 1, _, h, e => by
    unfold VRs at h
    obtain ⟨v, r, rfl, _, t⟩ := h
    simp at e
    obtain ⟨w, a, b⟩ := VRs.get t e
    exact ⟨w, by simpa using a, b⟩
theorem VRs.none_of {xs : List MV} {vs : List V} {i : Nat} (h : VRs K m H xs vs) (e : xs[i]? = none) : vs[i]? = none := by
  have := h.length
  rw [List.getElem?_eq_none_iff] at e ⊢; omega
theorem VRs.append : ∀ {xs ys : List MV} {vs ws : List V}, VRs K m H xs vs → VRs K m H ys ws → VRs K m H (xs ++ ys) (vs ++ ws)
  | [], _, _, _, h, k => by unfold VRs at h; subst h; exact k
  | _ :: _, _, _, _, h, k => by
    unfold VRs at h
    obtain ⟨v, r, rfl, q, t⟩ := h
    show VRs K m H (_ :: (_ ++ _)) (v :: (r ++ _))
    unfold VRs
    exact ⟨v, _, rfl, q, VRs.append t k⟩
theorem VRs.one {x : MV} {v : V} (h : VR K m H x v) : VRs K m H [x] [v] := by
  unfold VRs
  exact ⟨v, [], rfl, h, by unfold VRs; rfl⟩
theorem VRs.take : ∀ {xs : List MV} {vs : List V} (n : Nat), VRs K m H xs vs → VRs K m H (xs.take n) (vs.take n)
  | _, _, 0, _ => by simp [VRs]
  | [], _, n + 1, h => by unfold VRs at h; subst h; simp [VRs]
  | _ :: _, _, n + 1, h => by
    unfold VRs at h
    obtain ⟨v, r, rfl, q, t⟩ := h
    rw [List.take_succ_cons, List.take_succ_cons]
    unfold VRs
    exact ⟨v, _, rfl, q, VRs.take n t⟩
theorem VRs.drop : ∀ {xs : List MV} {vs : List V} (n : Nat), VRs K m H xs vs → VRs K m H (xs.drop n) (vs.drop n)
  | _, _, 0, h => h
  | [], _, n + 1, h => by unfold VRs at h; subst h; simp [VRs]
  | _ :: _, _, n + 1, h => by
    unfold VRs at h
    obtain ⟨v, r, rfl, q, t⟩ := h
    rw [List.drop_succ_cons, List.drop_succ_cons]
    exact VRs.drop n t
theorem VRs.set {x : MV} {v : V} (q : VR K m H x v) : ∀ {xs : List MV} {vs : List V} (i : Nat), VRs K m H xs vs → VRs K m H (xs.set i x) (vs.set i v)
  | [], _, i, h => by unfold VRs at h; subst h; simp [VRs]
  | _ :: _, _, 0, h => by
    unfold VRs at h
    obtain ⟨w, r, rfl, _, t⟩ := h
    show VRs K m H (x :: _) (v :: r)
    unfold VRs
    exact ⟨v, r, rfl, q, t⟩
  | _ :: _, _, i + 1, h => by
    unfold VRs at h
    obtain ⟨w, r, rfl, p, t⟩ := h
    show VRs K m H (_ :: _) (w :: r.set i v)
    unfold VRs
    exact ⟨w, _, rfl, p, VRs.set q i t⟩
theorem VRs.dropLast {xs : List MV} {vs : List V} (h : VRs K m H xs vs) : VRs K m H xs.dropLast vs.dropLast := by
  rw [List.dropLast_eq_take, List.dropLast_eq_take, h.length]
  exact h.take _
theorem VRs.erase : ∀ {xs : List MV} {vs : List V} (i : Nat), VRs K m H xs vs → VRs K m H (xs.eraseIdx i) (vs.eraseIdx i)
  | [], _, i, h => by unfold VRs at h; subst h; simp [VRs]
  | _ :: _, _, 0, h => by
    unfold VRs at h
    obtain ⟨w, r, rfl, _, t⟩ := h
    exact t
  | _ :: _, _, i + 1, h => by
    unfold VRs at h
    obtain ⟨w, r, rfl, p, t⟩ := h
    show VRs K m H (_ :: _) (w :: r.eraseIdx i)
    unfold VRs
    exact ⟨w, _, rfl, p, VRs.erase i t⟩
theorem VRs.rep {xs : List MV} {vs : List V} (h : VRs K m H xs vs) : ∀ k : Nat, VRs K m H (List.replicate k xs).flatten (List.replicate k vs).flatten
  | 0 => by simp [VRs]
  | k + 1 => by
    rw [List.replicate_succ, List.replicate_succ, List.flatten_cons, List.flatten_cons]
    exact h.append (VRs.rep h k)
theorem VRs.cut {xs : List MV} {vs : List V} (h : VRs K m H xs vs) (lo hi : Option Int) : VRs K m H (cutM xs lo hi) (cutV vs lo hi) := by
  unfold cutM cutV
  rw [h.length]
  exact (h.drop _).take _
theorem KR.length : ∀ {xs : List (MV × MV)} {ks : List (Key × V)}, KR K m H xs ks → xs.length = ks.length
  | [], _, h => by rw [show _ = [] from h]; rfl
  | _ :: _, _, h => by
    obtain ⟨k, v, t, e, _, _, u⟩ := h
    rw [e, List.length_cons, List.length_cons, KR.length u]
theorem KT.length : ∀ {xs : List (MV × MV)} {ks : List (List Key × V)}, KT K m H xs ks → xs.length = ks.length
  | [], _, h => by rw [show _ = [] from h]; rfl
  | _ :: _, _, h => by
    obtain ⟨k, v, t, e, _, _, u⟩ := h
    rw [e, List.length_cons, List.length_cons, KT.length u]
theorem FR.mn (P : Mon K m H m' H') : ∀ {xs : List (Str × MV)} {ks : List (Str × V)}, FR K m H xs ks → FR K m' H' xs ks
  | [], _, h => h
  | _ :: _, _, h => by
    obtain ⟨v, t, e, r, u⟩ := h
    exact ⟨v, t, e, r.mn P, FR.mn P u⟩
theorem FR.length : ∀ {xs : List (Str × MV)} {ks : List (Str × V)}, FR K m H xs ks → xs.length = ks.length
  | [], _, h => by rw [show _ = [] from h]; rfl
  | _ :: _, _, h => by
    obtain ⟨v, t, e, _, u⟩ := h
    rw [e, List.length_cons, List.length_cons, FR.length u]
theorem ObR.mn (P : Mon K m H m' H') {a : Addr} {o : MO} (h : ObR K m H a o) (hk : ∀ u, H a = some u → H' a = some u) : ObR K m' H' a o := by
  cases o with
  | lst xs =>
    obtain ⟨vs, e, r⟩ := h
    exact ⟨vs, hk _ e, r.mn P⟩
  | dct w kvs =>
    obtain ⟨u, e, r⟩ := h
    exact ⟨u, hk _ e, r.mn P⟩
  | ins _ _ =>
    obtain ⟨dx, ks, e, r⟩ := h
    exact ⟨dx, ks, hk _ e, r.mn P⟩
  | gap =>
    obtain ⟨o, u, e⟩ := h
    exact ⟨o, u, hk _ e⟩
theorem ObR.mono (P : Post K m H m' H') {a : Addr} {o : MO} (h : ObR K m H a o) (hk : ∀ u, H a = some u → H' a = some u) : ObR K m' H' a o := h.mn P.mon hk
end

/-! ### a new object, a written one -/
section
variable {K : PySem.W.Frag} {m : List Addr} {h : MH} {H : Hp}
theorem wr_ne {a p : Addr} {o : HO} (hp : Wr (H p)) (e : H a = some o) (n : ¬ Wr (some o)) : a ≠ p := by
  rintro rfl
  rw [e] at hp
  exact n hp
theorem tup_upd {a p : Addr} {vs : List V} {o : HO} (e : H a = some (.tup vs)) (hp : Wr (H p)) : upd H p o a = some (.tup vs) := by
  rw [upd_ne (wr_ne hp e (fun z => z))]; exact e
theorem roL_upd {a p : Addr} {vs : List V} {o : HO} (q : RoL K H a vs) (hp : Wr (H p)) : RoL K (upd H p o) a vs := by
  rcases q with ⟨u, e⟩ | e
  · exact .inl ⟨u, by rw [upd_ne (wr_ne hp e (fun z => z))]; exact e⟩
  · exact .inr e
theorem frz_upd {p : Addr} {o : HO} (hp : Wr (H p)) : ∀ a b u, H a = some (.frz b u) → upd H p o a = some (.frz b u) := fun a b u e => by
  rw [upd_ne (wr_ne hp e (fun z => z))]; exact e
theorem wr_none {p : Addr} (h : H p = none) : Wr (H p) := by rw [h]; trivial
theorem ObR.there {a : Addr} {o : MO} (h : ObR K m H a o) : H a ≠ none := by
  cases o with
  | lst xs =>
    obtain ⟨vs, e, r⟩ := h
    rw [e]; simp
  | dct w kvs =>
    obtain ⟨u, e, r⟩ := h
    rw [e]; simp
  | ins _ _ =>
    obtain ⟨dx, ks, e, r⟩ := h
    rw [e]; simp
  | gap =>
    obtain ⟨o, u, e⟩ := h
    rw [e]; simp
theorem Sim.notIn (S : Sim K m h H) {p : Addr} (hp : H p = none) : p ∉ m := fun z => by
  obtain ⟨l, e⟩ := List.getElem?_of_mem z
  have hl : l < h.length := by rw [← S.len]; exact (List.getElem?_eq_some_iff.mp e).1
  exact (S.ob l p h[l] e (by simp [hl])).there hp
theorem Post.new_tuple (S : Sim K m h H) {p : Addr} {vs : List V} (hp : H p = none) : Post K m H m (upd H p (.tup vs)) :=
  ⟨List.prefix_refl _, fun _ _ q => tup_upd q (wr_none hp), fun _ _ q => roL_upd q (wr_none hp), frz_upd (wr_none hp), fun a o _ e => by rw [upd_ne (ne_of_none e hp)]; exact e, fun _ z n => absurd z n⟩
theorem Sim.new_tuple (S : Sim K m h H) {p : Addr} {vs : List V} (hp : H p = none) : Sim K m h (upd H p (.tup vs)) :=
  ⟨S.len, S.nd, fun l a o e1 e2 => (S.ob l a o e1 e2).mono (Post.new_tuple S hp) fun u e => by rw [upd_ne (ne_of_none e hp)]; exact e⟩
theorem Post.alloc {p : Addr} {o : HO} (hp : H p = none) : Post K m H (m ++ [p]) (upd H p o) :=
  ⟨List.prefix_append _ _, fun _ _ q => tup_upd q (wr_none hp), fun _ _ q => roL_upd q (wr_none hp), frz_upd (wr_none hp), fun a o _ e => by rw [upd_ne (ne_of_none e hp)]; exact e, fun a z n => by
    rcases List.mem_append.mp z with z | z
    · exact absurd z n
    · rw [List.mem_singleton.mp z]; exact hp⟩
theorem Sim.alloc (S : Sim K m h H) {p : Addr} {o : HO} {ob : MO} (hp : H p = none) (hr : ObR K (m ++ [p]) (upd H p o) p ob) : Sim K (m ++ [p]) (h ++ [ob]) (upd H p o) := by
  refine ⟨by simp [S.len], ?_, fun l a u e1 e2 => ?_⟩
  · rw [List.nodup_append]
    refine ⟨S.nd, by simp, fun x hx y hy => ?_⟩
    rw [List.mem_singleton] at hy; subst hy
    rintro rfl; exact S.notIn hp hx
  · by_cases hl : l < m.length
    · rw [List.getElem?_append_left hl] at e1
      rw [List.getElem?_append_left (by rw [← S.len]; exact hl)] at e2
      exact (S.ob l a u e1 e2).mono (Post.alloc hp) fun w e => by rw [upd_ne (ne_of_none e hp)]; exact e
    · have hl2 : l < (m ++ [p]).length := (List.getElem?_eq_some_iff.mp e1).1
      rw [List.length_append, List.length_singleton] at hl2
      have : l = m.length := by omega
      subst this
      rw [List.getElem?_append_right (Nat.le_refl _)] at e1
      rw [S.len, List.getElem?_append_right (Nat.le_refl _)] at e2
      simp at e1 e2
      subst e1 e2
      exact hr
theorem Post.write {l : Nat} {a : Addr} {o : HO} (e : m[l]? = some a) (z : Wr (H a)) : Post K m H m (upd H a o) :=
  ⟨List.prefix_refl _, fun _ _ q => tup_upd q z, fun _ _ q => roL_upd q z, frz_upd z, fun b w n e' => by
    rw [upd_ne]; exact e'
    rintro rfl; exact n (List.mem_of_getElem? e), fun _ z n => absurd z n⟩
theorem Sim.write (S : Sim K m h H) {l : Nat} {a : Addr} {o : HO} {ob : MO} (e : m[l]? = some a) (z : Wr (H a)) (hr : ObR K m (upd H a o) a ob) : Sim K m (h.set l ob) (upd H a o) := by
  refine ⟨by rw [List.length_set]; exact S.len, S.nd, fun l' a' w e1 e2 => ?_⟩
  by_cases hll : l' = l
  · subst hll
    rw [e] at e1; cases e1
    have hl2 : l' < h.length := by rw [← S.len]; exact (List.getElem?_eq_some_iff.mp e).1
    rw [List.getElem?_set_self hl2] at e2; cases e2
    exact hr
  · rw [List.getElem?_set_ne (Ne.symm hll)] at e2
    refine (S.ob l' a' w e1 e2).mono (Post.write e z) fun v e' => ?_
    rw [upd_ne]; exact e'
    rintro rfl
    obtain ⟨h1, q1⟩ := List.getElem?_eq_some_iff.mp e
    obtain ⟨h2, q2⟩ := List.getElem?_eq_some_iff.mp e1
    exact hll ((List.getElem_inj S.nd).mp (q2.trans q1.symm))
end

section
variable {K : PySem.W.Frag} {m : List Addr} {h : MH} {H : Hp}
/-- a list that stands aside is written, is taken in -/
def notIns : HO → Prop
  | .ins _ _ _ => False
  | _ => True
theorem Mon.aside {D : Addr} {u o : HO} (hD : H D = some u) (z : Wr (some u)) (ni : notIns u) : Mon K m H m (upd H D o) :=
  have z' : Wr (H D) := by rw [hD]; exact z
  ⟨List.prefix_refl _, fun _ _ q => tup_upd q z', fun _ _ q => roL_upd q z', frz_upd z', fun a C dx fs n e => ⟨n, by
    rw [upd_ne]; exact e
    rintro rfl
    rw [hD] at e; cases e
    exact ni⟩⟩
theorem Sim.aside (S : Sim K m h H) {D : Addr} {u o : HO} (hD : H D = some u) (z : Wr (some u)) (ni : notIns u) (hn : D ∉ m) : Sim K m h (upd H D o) :=
  ⟨S.len, S.nd, fun l a u e1 e2 => (S.ob l a u e1 e2).mn (Mon.aside hD z ni) fun w e => by
    rw [upd_ne]; exact e
    rintro rfl
    exact hn (List.mem_of_getElem? e1)⟩
theorem Mon.adopt {D : Addr} {u : HO} (hD : H D = some u) (ni : notIns u) : Mon K m H (m ++ [D]) H := ⟨List.prefix_append _ _, fun _ _ q => q, fun _ _ q => q, fun _ _ _ q => q, fun a C dx fs n e => ⟨fun z => by
  rcases List.mem_append.mp z with z | z
  · exact n z
  · rw [List.mem_singleton] at z
    subst z
    rw [hD] at e
    cases e
    exact ni.elim, e⟩⟩
theorem Sim.adopt (S : Sim K m h H) {D : Addr} {u : HO} {ob : MO} (hD : H D = some u) (ni : notIns u) (hn : D ∉ m) (hr : ObR K (m ++ [D]) H D ob) : Sim K (m ++ [D]) (h ++ [ob]) H := by
  refine ⟨by simp [S.len], ?_, fun l a u e1 e2 => ?_⟩
  · rw [List.nodup_append]
    refine ⟨S.nd, by simp, fun x hx y hy => ?_⟩
    rw [List.mem_singleton] at hy; subst hy
    rintro rfl; exact hn hx
  · by_cases hl : l < m.length
    · rw [List.getElem?_append_left hl] at e1
      rw [List.getElem?_append_left (by rw [← S.len]; exact hl)] at e2
      exact (S.ob l a u e1 e2).mn (Mon.adopt hD ni) fun w e => e
    · have hl2 : l < (m ++ [D]).length := (List.getElem?_eq_some_iff.mp e1).1
      rw [List.length_append, List.length_singleton] at hl2
      have : l = m.length := by omega
      subst this
      rw [List.getElem?_append_right (Nat.le_refl _)] at e1
      rw [S.len, List.getElem?_append_right (Nat.le_refl _)] at e2
      simp at e1 e2
      subst e1 e2
      exact hr
end
/-! ### what is wanted of a result -/
section
variable {K : PySem.W.Frag} {α β γ δ : Type}
def WP (K : PySem.W.Frag) {α β : Type} (R : List Addr → Hp → α → β → Prop) (r : Res α) (m : List Addr) (H : Hp) (Q : β → Hp → Prop) : Prop := match r with
  | .ok a h' => ∀ m' H' b, Post K m H m' H' → Sim K m' h' H' → R m' H' a b → Q b H'
  | _ => False
abbrev rV (K : PySem.W.Frag) : List Addr → Hp → MV → V → Prop := fun m H x v => VR K m H x v
abbrev rL (K : PySem.W.Frag) : List Addr → Hp → List MV → List V → Prop := fun m H x v => VRs K m H x v
abbrev rId {α : Type} : List Addr → Hp → α → α → Prop := fun _ _ a b => a = b
theorem WP.mono {R : List Addr → Hp → α → β → Prop} {r : Res α} {m : List Addr} {H : Hp} {Q Q' : β → Hp → Prop} (h : WP K R r m H Q) (k : ∀ b H', Q b H' → Q' b H') : WP K R r m H Q' := by
  cases r with
  | ok a h' => exact fun m' H' b P S r => k _ _ (h m' H' b P S r)
  | exc _ _ => exact h
  | stuck => exact h
theorem WP.at {R : List Addr → Hp → α → β → Prop} {r : Res α} {m m1 : List Addr} {H H1 : Hp} {Q : β → Hp → Prop} (h : WP K R r m H Q) (P : Post K m H m1 H1) : WP K R r m1 H1 Q := by
  cases r with
  | ok a h' => exact fun m' H' b P' S r => h m' H' b (P.trans P') S r
  | exc _ _ => exact h
  | stuck => exact h
theorem WP.bind {Rx : List Addr → Hp → α → β → Prop} {R : List Addr → Hp → γ → δ → Prop} {x : M α} {f : α → M γ} {m : List Addr} {h0 : MH} {H : Hp} {Q : δ → Hp → Prop} (h : WP K R (M.bnd x f h0) m H Q) :
    WP K Rx (x h0) m H (fun b H1 => ∃ m1 h1 a, Post K m H m1 H1 ∧ Sim K m1 h1 H1 ∧ Rx m1 H1 a b ∧ WP K R (f a h1) m1 H1 Q) := by
  unfold M.bnd at h
  cases e : x h0 with
  | ok a h' =>
    rw [e] at h
    exact fun m' H' b P S r => ⟨m', h', a, P, S, r, WP.at h P⟩
  | exc _ _ => rw [e] at h; exact h
  | stuck => rw [e] at h; exact h
theorem WP.ret {R : List Addr → Hp → α → β → Prop} {a : α} {b : β} {m : List Addr} {h0 : MH} {H : Hp} {Q : β → Hp → Prop} (h : WP K R (M.ret a h0) m H Q) (S : Sim K m h0 H) (r : R m H a b) : Q b H := h m H b Post.refl S r
end
end MP
/-! MP: the heap cut behind a def, what is new is locked. -/
namespace MP
open PySem PySem.Spec PyProof.Rows L2
section
variable {K : PySem.W.Frag} {m m' : List Addr} {H H' H'' : Hp}
theorem pre_not (p : m <+: m') {a : Addr} (n : a ∉ m') : a ∉ m := fun z => n (p.subset z)
theorem pre_get (p : m <+: m') {l : Nat} {a b : Addr} (h : m[l]? = some a) (k : m'[l]? = some b) : a = b := by
  obtain ⟨t, rfl⟩ := p
  have hl := (List.getElem?_eq_some_iff.mp h).1
  rw [List.getElem?_append_left hl, h] at k
  cases k; rfl
mutual
theorem VR.cutm (p : m <+: m') : ∀ {x : MV} {v0 v : V}, VR K m H x v0 → VR K m' H' x v → VR K m H' x v
  | .non, _, _, _, h => by unfold VR at h ⊢; exact h
  | .bl _, _, _, _, h => by unfold VR at h ⊢; exact h
  | .int _, _, _, _, h => by unfold VR at h ⊢; exact h
  | .str _, _, _, _, h => by unfold VR at h ⊢; exact h
  | .ref _, _, _, k, h => by
    unfold VR at h k ⊢
    obtain ⟨a, e, q⟩ := h
    obtain ⟨b, f, _⟩ := k
    have z := pre_get p f e
    subst z
    exact ⟨_, f, q⟩
  | .tup _, _, _, k, h => by
    unfold VR at h k ⊢
    obtain ⟨a, vs, e, q, r⟩ := h
    obtain ⟨b, us, _, _, r0⟩ := k
    exact ⟨a, vs, e, q, VRs.cutm p r0 r⟩
  | .ro _, _, _, k, h => by
    unfold VR at h k ⊢
    obtain ⟨a, vs, e, q, r⟩ := h
    obtain ⟨b, us, _, _, r0⟩ := k
    exact ⟨a, vs, e, q, VRs.cutm p r0 r⟩
  | .rod _ _ _, _, _, k, h => by
    unfold VR at h k ⊢
    obtain ⟨a, u, ws, e, q, d, r⟩ := h
    obtain ⟨_, _, _, _, _, _, r0⟩ := k
    exact ⟨a, u, ws, e, q, d, VRs.cutm p r0 r⟩
  | .obj _ _ _, _, _, k, h => by
    unfold VR at h k ⊢
    obtain ⟨a, dx, ws, e, q, l, n, r⟩ := h
    obtain ⟨_, _, _, _, _, _, _, r0⟩ := k
    exact ⟨a, dx, ws, e, q, l, pre_not p n, VRs.cutm p r0 r⟩
theorem VRs.cutm (p : m <+: m') : ∀ {xs : List MV} {v0 vs : List V}, VRs K m H xs v0 → VRs K m' H' xs vs → VRs K m H' xs vs
  | [], _, _, _, h => by unfold VRs at h ⊢; exact h
  | _ :: _, _, _, k, h => by
    unfold VRs at h k ⊢
    obtain ⟨v, r, e, q, t⟩ := h
    obtain ⟨_, _, _, q0, t0⟩ := k
    exact ⟨v, r, e, VR.cutm p q0 q, VRs.cutm p t0 t⟩
end
mutual
theorem VR.nor (p : m <+: m') : ∀ {x : MV} {v : V}, noRef x = true → VR K m' H' x v → VR K m H' x v
  | .non, _, _, h => by unfold VR at h ⊢; exact h
  | .bl _, _, _, h => by unfold VR at h ⊢; exact h
  | .int _, _, _, h => by unfold VR at h ⊢; exact h
  | .str _, _, _, h => by unfold VR at h ⊢; exact h
  | .ref _, _, k, _ => by unfold noRef at k; cases k
  | .tup _, _, k, h => by
    unfold noRef at k
    unfold VR at h ⊢
    obtain ⟨a, vs, e, q, r⟩ := h
    exact ⟨a, vs, e, q, VRs.nor p k r⟩
  | .ro _, _, k, h => by
    unfold noRef at k
    unfold VR at h ⊢
    obtain ⟨a, vs, e, q, r⟩ := h
    exact ⟨a, vs, e, q, VRs.nor p k r⟩
  | .rod _ _ _, _, k, h => by
    unfold noRef at k
    unfold VR at h ⊢
    obtain ⟨a, u, ws, e, q, d, r⟩ := h
    exact ⟨a, u, ws, e, q, d, VRs.nor p (Bool.and_eq_true_iff.mp k).2 r⟩
  | .obj _ _ _, _, k, h => by
    unfold noRef at k
    unfold VR at h ⊢
    obtain ⟨a, dx, ws, e, q, l, n, r⟩ := h
    exact ⟨a, dx, ws, e, q, l, pre_not p n, VRs.nor p k r⟩
theorem VRs.nor (p : m <+: m') : ∀ {xs : List MV} {vs : List V}, noRefs xs = true → VRs K m' H' xs vs → VRs K m H' xs vs
  | [], _, _, h => by unfold VRs at h ⊢; exact h
  | _ :: _, _, k, h => by
    unfold noRefs at k
    unfold VRs at h ⊢
    obtain ⟨v, r, e, q, t⟩ := h
    exact ⟨v, r, e, VR.nor p (Bool.and_eq_true_iff.mp k).1 q, VRs.nor p (Bool.and_eq_true_iff.mp k).2 t⟩
end
theorem KR.cutm (p : m <+: m') : ∀ {xs : List (MV × MV)} {v0 vs : List (Key × V)}, KR K m H xs v0 → KR K m' H' xs vs → KR K m H' xs vs
  | [], _, _, _, h => h
  | _ :: _, _, _, ⟨_, _, _, _, _, r0, u0⟩, ⟨k, v, t, e, q, r, u⟩ => ⟨k, v, t, e, q, r0.cutm p r, KR.cutm p u0 u⟩
theorem KT.cutm (p : m <+: m') : ∀ {xs : List (MV × MV)} {v0 vs : List (List Key × V)}, KT K m H xs v0 → KT K m' H' xs vs → KT K m H' xs vs
  | [], _, _, _, h => h
  | _ :: _, _, _, ⟨_, _, _, _, _, r0, u0⟩, ⟨k, v, t, e, q, r, u⟩ => ⟨k, v, t, e, q, r0.cutm p r, KT.cutm p u0 u⟩
theorem FR.cutm (p : m <+: m') : ∀ {xs : List (Str × MV)} {v0 vs : List (Str × V)}, FR K m H xs v0 → FR K m' H' xs vs → FR K m H' xs vs
  | [], _, _, _, h => h
  | _ :: _, _, _, ⟨_, _, _, r0, u0⟩, ⟨v, t, e, r, u⟩ => ⟨v, t, e, r0.cutm p r, FR.cutm p u0 u⟩
theorem KR.nor (p : m <+: m') : ∀ {xs : List (MV × MV)} {vs : List (Key × V)}, noRefs (xs.map (·.2)) = true → KR K m' H' xs vs → KR K m H' xs vs
  | [], _, _, h => h
  | _ :: _, _, n, ⟨k, v, t, e, q, r, u⟩ => by
    have n := Bool.and_eq_true_iff.mp (show (noRef _ && noRefs _) = true from n)
    exact ⟨k, v, t, e, q, r.nor p n.1, KR.nor p n.2 u⟩
theorem KT.nor (p : m <+: m') : ∀ {xs : List (MV × MV)} {vs : List (List Key × V)}, noRefs (xs.map (·.2)) = true → KT K m' H' xs vs → KT K m H' xs vs
  | [], _, _, h => h
  | _ :: _, _, n, ⟨k, v, t, e, q, r, u⟩ => by
    have n := Bool.and_eq_true_iff.mp (show (noRef _ && noRefs _) = true from n)
    exact ⟨k, v, t, e, q, r.nor p n.1, KT.nor p n.2 u⟩
theorem FR.nor (p : m <+: m') : ∀ {xs : List (Str × MV)} {vs : List (Str × V)}, noRefs (xs.map (·.2)) = true → FR K m' H' xs vs → FR K m H' xs vs
  | [], _, _, h => h
  | _ :: _, _, n, ⟨v, t, e, r, u⟩ => by
    have n := Bool.and_eq_true_iff.mp (show (noRef _ && noRefs _) = true from n)
    exact ⟨v, t, e, r.nor p n.1, FR.nor p n.2 u⟩
theorem ObR.cut (p : m <+: m') {a : Addr} {o : MO} (k : ObR K m H a o) (h : ObR K m' H' a o) : ObR K m H' a o := by
  cases o with
  | lst xs =>
    obtain ⟨_, _, r0⟩ := k
    obtain ⟨vs, e, r⟩ := h
    exact ⟨vs, e, r0.cutm p r⟩
  | dct t kvs =>
    obtain ⟨_, _, r0⟩ := k
    obtain ⟨u, e, r⟩ := h
    cases t with
    | false =>
      obtain ⟨_, _, r0⟩ := r0
      obtain ⟨ks, e2, r⟩ := r
      exact ⟨u, e, ks, e2, r0.cutm p r⟩
    | true =>
      obtain ⟨_, _, r0⟩ := r0
      obtain ⟨ks, e2, r⟩ := r
      exact ⟨u, e, ks, e2, r0.cutm p r⟩
  | ins c fs =>
    obtain ⟨_, _, _, r0⟩ := k
    obtain ⟨dx, ks, e, r⟩ := h
    exact ⟨dx, ks, e, r0.cutm p r⟩
  | gap => exact h
theorem ObR.nor (p : m <+: m') {a : Addr} {o : MO} (k : noRefO o = true) (h : ObR K m' H' a o) : ObR K m H' a o := by
  cases o with
  | lst xs =>
    obtain ⟨vs, e, r⟩ := h
    exact ⟨vs, e, r.nor p k⟩
  | dct t kvs =>
    have k2 : noRefs (kvs.map (·.2)) = true := (Bool.and_eq_true_iff.mp (show (noRefs _ && noRefs _) = true from k)).2
    obtain ⟨u, e, r⟩ := h
    cases t with
    | false =>
      obtain ⟨ks, e2, r⟩ := r
      exact ⟨u, e, ks, e2, r.nor p k2⟩
    | true =>
      obtain ⟨ks, e2, r⟩ := r
      exact ⟨u, e, ks, e2, r.nor p k2⟩
  | ins c fs =>
    obtain ⟨dx, ks, e, r⟩ := h
    exact ⟨dx, ks, e, r.nor p k⟩
  | gap => exact h
theorem Sim.cut {h h' : MH} (S : Sim K m h H) (P : Post K m H m' H') (S' : Sim K m' h' H') (c : Cln h h') : Sim K m (h'.take h.length) H' := by
  refine ⟨by rw [List.length_take, S.len]; have := c.1; omega, S.nd, fun l a o e1 e2 => ?_⟩
  have hl : l < h.length := by
    have := (List.getElem?_eq_some_iff.mp e1).1
    rw [S.len] at this; exact this
  rw [List.getElem?_take_of_lt hl] at e2
  have O := S'.ob l a o (P.get e1) e2
  rcases c.2 l hl with z | ⟨u, z, n⟩
  · rw [z] at e2
    exact (S.ob l a o e1 e2).cut P.pre O
  · rw [e2] at z
    cases z
    exact O.nor P.pre n
theorem Post.cut (P : Post K m H m' H') : Post K m H m H' := ⟨List.prefix_refl _, P.tup, P.ro, P.frz, P.out, fun _ z n => absurd z n⟩
/-- what is locked -/
structure Lkd (ps : List Addr) (H H' : Hp) : Prop where
  out : ∀ a, a ∉ ps → H' a = H a
  ins : ∀ a ∈ ps, ∃ od u, H a = some u ∧ H' a = some (.frz od u)
end
/-- what can be locked -/
def LkO : HO → Prop
  | .lst _ => True
  | .dK _ => True
  | .dT _ => True
  | _ => False
theorem LkO.mut {u : HO} (h : LkO u) : Mut (some u) := by cases u <;> first | trivial | exact h.elim
section
variable {X : Cx} {pins : List (Addr × Obj)} {σ : L2.St} {H : Hp} {s : Shared}
theorem lock_all : ∀ (ps : List Addr) {H : Hp}, ps.Nodup → Inv X pins σ H s → (∀ a ∈ ps, ∃ u, H a = some u ∧ LkO u) → ∃ H', Inv X pins σ H' s ∧ Lkd ps H H'
  | [], H, _, I, _ => ⟨H, I, ⟨fun _ _ => rfl, fun _ z => nomatch z⟩⟩
  | a :: r, H, nd, I, k => by
    obtain ⟨n1, n2⟩ := List.nodup_cons.mp nd
    obtain ⟨u, e, l⟩ := k a List.mem_cons_self
    obtain ⟨od, I1⟩ := I.lock e l.mut
    have ne : ∀ b ∈ r, b ≠ a := fun b hb z => n1 (by rw [← z]; exact hb)
    obtain ⟨H', I2, L⟩ := lock_all r (H := upd H a (.frz od u)) n2 I1 fun b hb => by
      rw [upd_ne (ne b hb)]
      exact k b (List.mem_cons_of_mem _ hb)
    refine ⟨H', I2, ⟨fun b hb => ?_, fun b hb => ?_⟩⟩
    · rw [L.out b (fun z => hb (List.mem_cons_of_mem _ z)), upd_ne (fun z => hb (by rw [z]; exact List.mem_cons_self))]
    · rcases List.mem_cons.mp hb with z | z
      · subst z
        exact ⟨od, u, e, by rw [L.out _ n1, upd_same]⟩
      · obtain ⟨o2, u2, q1, q2⟩ := L.ins b z
        rw [upd_ne (ne b z)] at q1
        exact ⟨o2, u2, q1, q2⟩
end
section
variable {K : PySem.W.Frag} {m m' : List Addr} {h h' : MH} {H H' H'' : Hp}
def isLD : MO → Bool
  | .lst _ => true
  | .dct _ _ => true
  | _ => false
open Classical in
noncomputable def newPs (m' : List Addr) (h' : MH) (n : Nat) : List Addr := (m'.drop n).filter fun a => @decide (∃ l o, n ≤ l ∧ m'[l]? = some a ∧ h'[l]? = some o ∧ isLD o = true) (Classical.propDecidable _)
theorem newPs_mem {n : Nat} {a : Addr} : a ∈ newPs m' h' n ↔ ∃ l o, n ≤ l ∧ m'[l]? = some a ∧ h'[l]? = some o ∧ isLD o = true := by
  unfold newPs
  rw [List.mem_filter]
  refine ⟨fun z => @of_decide_eq_true _ (Classical.propDecidable _) z.2, fun z => ⟨?_, @decide_eq_true _ (Classical.propDecidable _) z⟩⟩
  obtain ⟨l, o, hn, e, _⟩ := z
  refine List.mem_of_getElem? (i := l - n) ?_
  rw [List.getElem?_drop, show n + (l - n) = l by omega]
  exact e
theorem newPs_lk (S' : Sim K m' h' H') {n : Nat} : ∀ a ∈ newPs m' h' n, ∃ u, H' a = some u ∧ LkO u := fun a ha => by
  obtain ⟨l, o, _, e1, e2, d⟩ := newPs_mem.mp ha
  have O := S'.ob l a o e1 e2
  cases o with
  | lst xs =>
    obtain ⟨vs, q, _⟩ := O
    exact ⟨_, q, trivial⟩
  | dct t kvs =>
    obtain ⟨u, q, r⟩ := O
    refine ⟨u, q, ?_⟩
    cases t with
    | false => obtain ⟨ks, rfl, _⟩ := r; trivial
    | true => obtain ⟨ks, rfl, _⟩ := r; trivial
  | _ => cases d
theorem newPs_nd (S' : Sim K m' h' H') {n : Nat} : (newPs m' h' n).Nodup := by
  unfold newPs
  exact (S'.nd.sublist (List.drop_sublist _ _)).filter _
theorem newPs_not (S : Sim K m h H) (P : Post K m H m' H') (S' : Sim K m' h' H') : ∀ a ∈ newPs m' h' h.length, a ∉ m := fun a ha z => by
  obtain ⟨l, o, hn, e1, e2, d⟩ := newPs_mem.mp ha
  obtain ⟨i, e⟩ := List.getElem?_of_mem z
  have hi : i < h.length := by rw [← S.len]; exact (List.getElem?_eq_some_iff.mp e).1
  obtain ⟨h1, q1⟩ := List.getElem?_eq_some_iff.mp e1
  obtain ⟨h2, q2⟩ := List.getElem?_eq_some_iff.mp (P.get e)
  have := (List.getElem_inj S'.nd).mp (q1.trans q2.symm)
  omega
theorem Lkd.mon {ps : List Addr} (L : Lkd ps H' H'') (lk : ∀ a ∈ ps, ∃ u, H' a = some u ∧ LkO u) : Mon K m H' m H'' := by
  have key : ∀ a u, H' a = some u → ¬ LkO u → H'' a = some u := fun a u e n => by
    rw [L.out a (fun z => by
      obtain ⟨w, q, l⟩ := lk a z
      rw [e] at q; cases q
      exact n l)]
    exact e
  exact ⟨List.prefix_refl _, fun a vs e => key a _ e (fun z => z), fun a vs q => q.elim (fun ⟨o, e⟩ => .inl ⟨o, key a _ e (fun z => z)⟩) .inr, fun a b u e => key a _ e (fun z => z), fun a C dx fs n e => ⟨n, key a _ e (fun z => z)⟩⟩
theorem Lkd.post (S : Sim K m h H) (P : Post K m H m' H') (S' : Sim K m' h' H') (L : Lkd (newPs m' h' h.length) H' H'') : Post K m H m H'' := by
  have M : Mon K m H' m H'' := L.mon (newPs_lk S')
  refine ⟨List.prefix_refl _, fun a vs e => M.tup a vs (P.tup a vs e), fun a vs e => M.ro a vs (P.ro a vs e), fun a b u e => M.frz a b u (P.frz a b u e), fun a o n e => ?_, fun _ z n => absurd z n⟩
  rw [L.out a (fun z => ?_)]
  · exact P.out a o n e
  · obtain ⟨l, ob, hn, e1, _⟩ := newPs_mem.mp z
    have := P.new a (List.mem_of_getElem? e1) n
    rw [e] at this; cases this
theorem Lkd.sim (S : Sim K m h H) (P : Post K m H m' H') (S' : Sim K m' h' H') (c : Cln h h') (L : Lkd (newPs m' h' h.length) H' H'') : Sim K m (h'.take h.length) H'' := by
  have S2 := S.cut P S' c
  refine ⟨S2.len, S2.nd, fun l a o e1 e2 => (S2.ob l a o e1 e2).mn (L.mon (newPs_lk S')) fun u e => ?_⟩
  rw [L.out a (fun z => newPs_not S P S' a z (List.mem_of_getElem? e1))]
  exact e
theorem mapO_mem {α β : Type} {f : α → Option β} : ∀ {xs : List α} {ys : List β}, mapO f xs = some ys → ∀ x ∈ xs, ∃ y, f x = some y
  | [], ys, e => fun x z => nomatch z
  | x :: r, ys, e => fun z hz => by
    unfold mapO at e
    split at e
    · rename_i y ys' e1 e2
      rcases List.mem_cons.mp hz with q | q
      · subst q; exact ⟨y, e1⟩
      · exact mapO_mem e2 z q
    · cases e
theorem kr_split : ∀ {kvs : List (MV × MV)} {ks : List (Key × V)}, KR K m H kvs ks → mapO keyM (kvs.map (·.1)) = some (ks.map (·.1)) ∧ VRs K m H (kvs.map (·.2)) (ks.map (·.2))
  | [], ks, r => by rw [show ks = [] from r]; exact ⟨rfl, by show VRs K m H [] []; unfold VRs; rfl⟩
  | p :: t, ks, ⟨k, v, u, e, hk, hv, r⟩ => by
    subst e
    obtain ⟨a, b⟩ := kr_split r
    refine ⟨?_, ?_⟩
    · show mapO keyM (p.1 :: t.map (·.1)) = _
      unfold mapO
      rw [hk, a]
      rfl
    · show VRs K m H (p.2 :: t.map (·.2)) (v :: u.map (·.2))
      unfold VRs
      exact ⟨v, _, rfl, hv, b⟩
theorem kt_split : ∀ {kvs : List (MV × MV)} {ks : List (List Key × V)}, KT K m H kvs ks → mapO keyT (kvs.map (·.1)) = some (ks.map (·.1)) ∧ VRs K m H (kvs.map (·.2)) (ks.map (·.2))
  | [], ks, r => by rw [show ks = [] from r]; exact ⟨rfl, by show VRs K m H [] []; unfold VRs; rfl⟩
  | p :: t, ks, ⟨k, v, u, e, hk, hv, r⟩ => by
    subst e
    obtain ⟨a, b⟩ := kt_split r
    refine ⟨?_, ?_⟩
    · show mapO keyT (p.1 :: t.map (·.1)) = _
      unfold mapO
      rw [hk, a]
      rfl
    · show VRs K m H (p.2 :: t.map (·.2)) (v :: u.map (·.2))
      unfold VRs
      exact ⟨v, _, rfl, hv, b⟩
theorem zip_back {α β : Type} (ks : List (α × β)) : (ks.map (·.1)).zip (ks.map (·.2)) = ks := by
  induction ks with
  | nil => rfl
  | cons p r ih => simp [ih]
theorem dr_dk {t : Bool} {kvs : List (MV × MV)} {u : HO} (r : DR K m H t kvs u) : ∃ ws, DkR t (kvs.map (·.1)) ws u ∧ VRs K m H (kvs.map (·.2)) ws := by
  cases t with
  | false =>
    obtain ⟨ks, rfl, r⟩ := r
    obtain ⟨a, b⟩ := kr_split r
    exact ⟨_, .inl ⟨rfl, _, by rw [zip_back], a, by simp⟩, b⟩
  | true =>
    obtain ⟨ks, rfl, r⟩ := r
    obtain ⟨a, b⟩ := kt_split r
    exact ⟨_, .inr ⟨rfl, _, by rw [zip_back], a, by simp⟩, b⟩
theorem vrs_map {f : MV → Option MV} (k : ∀ x v w, VR K m' H' x v → f x = some w → VR K m H'' w v) : ∀ {xs ys : List MV} {vs : List V}, mapO f xs = some ys → VRs K m' H' xs vs → VRs K m H'' ys vs
  | [], ys, vs, e, r => by
    cases e
    unfold VRs at r ⊢
    exact r
  | x :: xs, ys, vs, e, r => by
    unfold mapO at e
    split at e
    · rename_i y ys' e1 e2
      cases e
      unfold VRs at r
      obtain ⟨v, t, rfl, q, rr⟩ := r
      unfold VRs
      exact ⟨v, t, rfl, k x v y q e1, vrs_map k e2 rr⟩
    · cases e
/-- the value by reading -/
theorem byV_vr (S : Sim K m h H) (P : Post K m H m' H') (S' : Sim K m' h' H') (L : Lkd (newPs m' h' h.length) H' H'') : ∀ (n : Nat) (x : MV) (v : V) (w : MV), VR K m' H' x v → byV h' h.length n x = some w → VR K m H'' w v := by
  have M : Mon K m H' m H'' := L.mon (newPs_lk S')
  have flat : ∀ x v, noRef x = true → VR K m' H' x v → VR K m H'' x v := fun x v n r => (r.nor P.pre n).mn M
  intro n
  induction n with
  | zero =>
    intro x v w r e
    unfold byV at e
    split at e
    · rename_i z
      cases e
      exact flat _ _ z r
    · cases e
  | succ n ih =>
    intro x v w r e
    unfold byV at e
    split at e
    · rename_i z
      cases e
      exact flat _ _ z r
    · cases x with
      | ref l =>
        dsimp only at e
        split at e
        · rename_i hl
          unfold VR at r
          obtain ⟨a, ha, rfl⟩ := r
          split at e
          · rename_i xs e2
            obtain ⟨ys, e3, rfl⟩ := Option.map_eq_some_iff.mp e
            obtain ⟨vs, q, rr⟩ := S'.ob l a _ ha e2
            obtain ⟨od, u, q1, q2⟩ := L.ins a (newPs_mem.mpr ⟨l, _, hl, ha, e2, rfl⟩)
            rw [q] at q1
            cases q1
            unfold VR
            exact ⟨a, vs, rfl, .inl ⟨od, q2⟩, vrs_map ih e3 rr⟩
          · rename_i t kvs e2
            split at e
            · rename_i hk
              obtain ⟨ys, e3, rfl⟩ := Option.map_eq_some_iff.mp e
              obtain ⟨u', q, rr⟩ := S'.ob l a _ ha e2
              obtain ⟨od, u, q1, q2⟩ := L.ins a (newPs_mem.mpr ⟨l, _, hl, ha, e2, rfl⟩)
              rw [q] at q1
              cases q1
              obtain ⟨ws, d, rr⟩ := dr_dk rr
              unfold VR
              exact ⟨a, u', ws, rfl, ⟨od, q2⟩, d, vrs_map ih e3 rr⟩
            · cases e
          · cases e
        · cases e
      | tup xs =>
        dsimp only at e
        obtain ⟨ys, e3, rfl⟩ := Option.map_eq_some_iff.mp e
        unfold VR at r ⊢
        obtain ⟨a, vs, rfl, q, rr⟩ := r
        exact ⟨a, vs, rfl, M.tup _ _ q, vrs_map ih e3 rr⟩
      | ro xs =>
        dsimp only at e
        obtain ⟨ys, e3, rfl⟩ := Option.map_eq_some_iff.mp e
        unfold VR at r ⊢
        obtain ⟨a, vs, rfl, q, rr⟩ := r
        exact ⟨a, vs, rfl, M.ro _ _ q, vrs_map ih e3 rr⟩
      | _ => cases e
theorem wp_val {f : M MV} {Q : V → Hp → Prop} {m1 : List Addr} {H1 : Hp} {v : MV} {x : V} {h2 : MH} (S : Sim K m h H) (w : WP K (rV K) (bvV f h) m H Q) (e : f h = .ok v h2) (P : Post K m H m1 H1) (S1 : Sim K m1 h2 H1) (r : VR K m1 H1 v x) :
    ∃ ps : List Addr, ps.Nodup ∧ (∀ a ∈ ps, ∃ u, H1 a = some u ∧ LkO u) ∧ ∀ H2, Lkd ps H1 H2 → Q x H2 := by
  refine ⟨newPs m1 h2 h.length, newPs_nd S1, newPs_lk S1, fun H2 L => ?_⟩
  unfold bvV at w
  rw [e] at w
  dsimp only at w
  split at w
  · rename_i c
    split at w
    · rename_i y e2
      exact w m H2 x (L.post S P S1) (L.sim S P S1 c) (byV_vr S P S1 L 60 v x y r e2)
    · exact w.elim
  · exact w.elim
theorem val_ok {f : M MV} {Q : V → Hp → Prop} (w : WP K (rV K) (bvV f h) m H Q) : ∃ v h2, f h = .ok v h2 := by
  unfold bvV at w
  split at w
  · rename_i v h2 e
    exact ⟨v, h2, e⟩
  · exact w.elim
end
end MP
/-! MP: each operation of values is what the model does. -/
namespace MP
open PySem PySem.Spec PyProof.Rows L2

section
variable {K : PySem.W.Frag} {m : List Addr} {h : MH} {H : Hp} {Q : VK}
theorem vr_non : VR K m H .non .non := by unfold VR; rfl
theorem vr_bl (b : Bool) : VR K m H (.bl b) (.bl b) := by unfold VR; rfl
theorem vr_int (i : Int) : VR K m H (.int i) (.int i) := by unfold VR; rfl
theorem vr_str (s : Str) : VR K m H (.str s) (.str s) := by unfold VR; rfl
theorem vr_bl' {b : Bool} {v : V} (h : VR K m H (.bl b) v) : v = .bl b := by unfold VR at h; exact h
theorem vr_int' {b : Int} {v : V} (h : VR K m H (.int b) v) : v = .int b := by unfold VR at h; exact h
theorem vr_str' {b : Str} {v : V} (h : VR K m H (.str b) v) : v = .str b := by unfold VR at h; exact h
theorem vr_non' {v : V} (h : VR K m H .non v) : v = .non := by unfold VR at h; exact h
theorem vr_ref' {l : Nat} {v : V} (h : VR K m H (.ref l) v) : ∃ a, m[l]? = some a ∧ v = .ref a := by unfold VR at h; exact h
theorem vr_tup' {xs : List MV} {v : V} (h : VR K m H (.tup xs) v) : ∃ a vs, v = .ref a ∧ SqT K H a vs ∧ VRs K m H xs vs := by
  unfold VR at h
  obtain ⟨a, vs, e, q, r⟩ := h
  exact ⟨a, vs, e, .inl (.inl q), r⟩
theorem vr_tupH {xs : List MV} {v : V} (h : VR K m H (.tup xs) v) : ∃ a vs, v = .ref a ∧ H a = some (.tup vs) ∧ VRs K m H xs vs := by unfold VR at h; exact h
theorem vr_rod' {t : Bool} {ks xs : List MV} {v : V} (h : VR K m H (.rod t ks xs) v) : ∃ a u ws, v = .ref a ∧ (∃ o, H a = some (.frz o u)) ∧ DkR t ks ws u ∧ VRs K m H xs ws := by unfold VR at h; exact h
theorem vr_obj' {c : Str} {ns : List Str} {xs : List MV} {v : V} (h : VR K m H (.obj c ns xs) v) : ∃ a dx ws, v = .ref a ∧ H a = some (.ins (He.ga K c) dx (ns.zip ws)) ∧ ns.length = ws.length ∧ a ∉ m ∧ VRs K m H xs ws := by unfold VR at h; exact h
theorem vr_ro' {xs : List MV} {v : V} (h : VR K m H (.ro xs) v) : ∃ a vs, v = .ref a ∧ RoL K H a vs ∧ VRs K m H xs vs := by unfold VR at h; exact h
theorem vrs_nil' {v : List V} (h : VRs K m H [] v) : v = [] := by unfold VRs at h; exact h
theorem vrs_cons' {x : MV} {xs : List MV} {v : List V} (h : VRs K m H (x :: xs) v) : ∃ y r, v = y :: r ∧ VR K m H x y ∧ VRs K m H xs r := by unfold VRs at h; exact h
theorem vrs1 {x : MV} {v : List V} (h : VRs K m H [x] v) : ∃ y, v = [y] ∧ VR K m H x y := by
  obtain ⟨y, r, rfl, q, t⟩ := vrs_cons' h
  rw [vrs_nil' t]; exact ⟨y, rfl, q⟩
theorem vrs2 {x z : MV} {v : List V} (h : VRs K m H [x, z] v) : ∃ y w, v = [y, w] ∧ VR K m H x y ∧ VR K m H z w := by
  obtain ⟨y, r, rfl, q, t⟩ := vrs_cons' h
  obtain ⟨w, rfl, q'⟩ := vrs1 t
  exact ⟨y, w, rfl, q, q'⟩
theorem Sim.lst (S : Sim K m h H) {l : Nat} {a : Addr} {xs : List MV} (e : m[l]? = some a) (e2 : h[l]? = some (.lst xs)) : ∃ vs, H a = some (.lst vs) ∧ VRs K m H xs vs := S.ob l a _ e e2
theorem Sim.dct (S : Sim K m h H) {l : Nat} {a : Addr} {t : Bool} {xs : List (MV × MV)} (e : m[l]? = some a) (e2 : h[l]? = some (.dct t xs)) : ∃ u, H a = some u ∧ DR K m H t xs u := S.ob l a _ e e2
theorem Sim.dctK (S : Sim K m h H) {l : Nat} {a : Addr} {xs : List (MV × MV)} (e : m[l]? = some a) (e2 : h[l]? = some (.dct false xs)) : ∃ vs, H a = some (.dK vs) ∧ KR K m H xs vs := by
  obtain ⟨u, q, ks, rfl, r⟩ := S.ob l a _ e e2
  exact ⟨ks, q, r⟩
/-- a new list -/
theorem wp_lst {xs : List MV} {vs : List V} (w : WP K (rV K) (M.alloc (.lst xs) h) m H Q) (S : Sim K m h H) (r : VRs K m H xs vs) : ∀ p, H p = none → Q (.ref p) (upd H p (.lst vs)) := fun p hp => by
  have P : Post K m H (m ++ [p]) (upd H p (.lst vs)) := Post.alloc hp
  refine w (m ++ [p]) _ (.ref p) P (S.alloc hp ⟨vs, upd_same, r.mono P⟩) ?_
  unfold rV VR
  exact ⟨p, by rw [← S.len]; simp, rfl⟩
theorem wp_dct0 (w : WP K (rV K) (M.alloc (.dct false []) h) m H Q) (S : Sim K m h H) : ∀ p, H p = none → Q (.ref p) (upd H p (.dK [])) := fun p hp => by
  have P : Post K m H (m ++ [p]) (upd H p (.dK [])) := Post.alloc hp
  refine w (m ++ [p]) _ (.ref p) P (S.alloc hp ⟨_, upd_same, [], rfl, rfl⟩) ?_
  unfold rV VR
  exact ⟨p, by rw [← S.len]; simp, rfl⟩
theorem wp_dctT (w : WP K (rV K) (M.alloc (.dct true []) h) m H Q) (S : Sim K m h H) : ∀ p, H p = none → Q (.ref p) (upd H p (.dT [])) := fun p hp => by
  have P : Post K m H (m ++ [p]) (upd H p (.dT [])) := Post.alloc hp
  refine w (m ++ [p]) _ (.ref p) P (S.alloc hp ⟨_, upd_same, [], rfl, rfl⟩) ?_
  unfold rV VR
  exact ⟨p, by rw [← S.len]; simp, rfl⟩
theorem wp_tup {xs : List MV} {vs : List V} (w : WP K (rV K) (M.ret (.tup xs) h) m H Q) (S : Sim K m h H) (r : VRs K m H xs vs) : ∀ p, H p = none → Q (.ref p) (upd H p (.tup vs)) := fun p hp => by
  have P : Post K m H m (upd H p (.tup vs)) := Post.new_tuple S hp
  refine w m _ (.ref p) P (Sim.new_tuple S hp) ?_
  unfold rV VR
  exact ⟨p, vs, rfl, upd_same, r.mono P⟩
/-- a list written -/
theorem wp_put {α β : Type} {R : List Addr → Hp → α → β → Prop} {Q : β → Hp → Prop} {x : α} {y : β} {l : Nat} {a : Addr} {xs : List MV} {vs us : List V} (w : WP K R (.ok x (h.set l (.lst xs))) m H Q) (S : Sim K m h H) (e : m[l]? = some a) (hu : H a = some (.lst us)) (r : VRs K m H xs vs)
    (k : ∀ P : Post K m H m (upd H a (.lst vs)), R m (upd H a (.lst vs)) x y) : Q y (upd H a (.lst vs)) := by
  have z : Wr (H a) := by rw [hu]; trivial
  have P : Post K m H m (upd H a (.lst vs)) := Post.write e z
  exact w m _ y P (S.write e z ⟨vs, upd_same, r.mono P⟩) (k P)
end

/-! ### what a place's data read as -/
section
variable {X : Cx} {pins : List (Addr × Obj)} {σ : L2.St} {H : Hp} {s : Shared} {m : List Addr} {h : MH}
theorem mapO_some {α β : Type} {f : α → Option β} : ∀ {xs : List α} {ys : List β}, mapO f xs = some ys → xs.length = ys.length ∧ ∀ (i : Nat) (x : α), xs[i]? = some x → ∃ y, ys[i]? = some y ∧ f x = some y
  | [], ys, e => by
    unfold mapO at e
    cases e
    exact ⟨rfl, fun i x e => by simp at e⟩
  | x :: r, ys, e => by
    unfold mapO at e
    split at e
    · rename_i y ys' e1 e2
      cases e
      obtain ⟨l, k⟩ := mapO_some e2
      refine ⟨by simp [l], fun i z e => ?_⟩
      cases i with
      | zero =>
        simp at e; subst e
        exact ⟨y, rfl, e1⟩
      | succ i =>
        simp at e
        obtain ⟨w, a, b⟩ := k i z e
        exact ⟨w, by simpa using a, b⟩
    · cases e
/-- where sys.modules stands -/
def SmOk (X : Cx) : Prop := ∃ mm, X.base.Ns sysModules mm
theorem sm_tracked (I : Inv X pins σ H s) (sm : SmOk X) {a : Addr} {o : HO} (e : H a = some o) : a ≠ sysModules := by
  rintro rfl
  obtain ⟨mm, o', es, ep, h1, _⟩ := sm
  have := (I.bs _ _ h1).2
  rw [e] at this; cases this
theorem sm_ro (I : Inv X pins σ H s) (sm : SmOk X) {a : Addr} {vs : List V} (e : RoL X.K H a vs) : a ≠ sysModules := by
  rcases e with ⟨o, e⟩ | ⟨its, n, hk, _⟩
  · exact sm_tracked I sm e
  · rintro rfl
    obtain ⟨mm, o', es, ep, h1, h2, _⟩ := sm
    have h3 := I.mod.kin _ _ hk
    rw [h3] at h1; cases h1
    cases h2
theorem LsA.at (I : Inv X pins σ H s) {a : Addr} {vs : List V} (e : LsA X.K H a vs) : vs.length ≤ sizeLine ∧ ∃ (its : List Value) (n : Nat), Vals vs its ∧ vs.length = its.length ∧ s.heap.get? a = some { cls := .type "list", data := .seq its.toArray n } := by
  rcases e with e | ⟨o, e⟩ | ⟨its, n, hk, z, r⟩
  · exact I.lstM e
  · obtain ⟨_, z, its, n, r, q⟩ := (show ObjOk X.prog X.w H s.heap a (.frz o (.lst vs)) from I.hok a _ e)
    exact ⟨z, its, n, r, r.length, q⟩
  · exact ⟨by rw [r.length]; exact z, its, n, r, r.length, I.kIn a _ hk⟩
theorem keys_read : ∀ {kvs : List (MV × MV)} {ks : List (Key × V)} {vs : List (Key × Value)} {es : List DictEntry} {n : Nat} {ds : List PyData} {h0 : Heap}, KR X.K m H kvs ks → KV ks vs → Pairs (mixKind X.prog X.w) es vs →
    mapO (reify h n) (kvs.map (·.1)) = some ds → ReadsAll h0 (es.map (·.key)) ds []
  | [], ks, vs, es, n, ds, h0, r, q, p, e => by
    rw [show ks = [] from r] at q
    cases q
    cases p
    cases e
    exact .nil
  | (x, y) :: r, ks, vs, es, n, ds, h0, hr, q, p, e => by
    obtain ⟨k, v, t, rfl, hk, hv, rr⟩ := hr
    cases q with
    | cons q1 q2 =>
      cases p with
      | cons p1 p2 p3 =>
        rename_i kv kvl en enl
        have e : mapO (reify h n) (x :: r.map (·.1)) = some ds := e
        unfold mapO at e
        split at e
        · rename_i d ds' e1 e2
          cases e
          have ih := keys_read (h0 := h0) rr q2 p3 e2
          have hd : Reads h0 en.key d [] := by
            have q1 : k = kv.1 ∧ RelV v kv.2 := q1
            have p1 : keyIs kv.1 en.key = true := p1
            rw [← q1.1] at p1
            rcases keyIs_shape p1 with ⟨i, tk, e3, e4⟩ | ⟨z, tk, e3, e4⟩
            · rw [e4]
              subst e3
              cases x with
              | int j =>
                cases hk
                have e1 : some (PyData.int i) = some d := by cases n <;> exact e1
                cases e1
                exact .int i tk
              | _ => cases hk
            · rw [e4]
              subst e3
              cases x with
              | str j =>
                cases hk
                have e1 : some (PyData.str z) = some d := by cases n <;> exact e1
                cases e1
                exact .str z tk
              | _ => cases hk
          exact ReadsAll.cons (as := []) (bs := []) hd ih
        · cases e
theorem vals_split : ∀ {kvs : List (MV × MV)} {ks : List (Key × V)} {vs : List (Key × Value)} {es : List DictEntry}, KR X.K m H kvs ks → KV ks vs → Pairs (mixKind X.prog X.w) es vs →
    ∃ ws, VRs X.K m H (kvs.map (·.2)) ws ∧ Vals ws (es.map (·.val))
  | [], ks, vs, es, r, q, p => by
    rw [show ks = [] from r] at q
    cases q
    cases p
    exact ⟨[], by simp [VRs], .nil⟩
  | (x, y) :: r, ks, vs, es, hr, q, p => by
    obtain ⟨k, v, t, rfl, hk, hv, rr⟩ := hr
    cases q with
    | cons q1 q2 =>
      cases p with
      | cons p1 p2 p3 =>
        rename_i kv kvl en enl
        obtain ⟨ws, a, b⟩ := vals_split rr q2 p3
        have q1 : k = kv.1 ∧ RelV v kv.2 := q1
        refine ⟨v :: ws, ?_, .cons (show L2.RelV v en.val by rw [p2]; exact q1.2) b⟩
        show VRs _ _ _ (y :: _) (v :: ws)
        unfold VRs
        exact ⟨v, ws, rfl, hv, a⟩
theorem keysV_read : ∀ {ks : List MV} {kk : List Key} {ws : List V} {vs : List (Key × Value)} {es : List DictEntry} {n : Nat} {ds : List PyData} {h0 : Heap}, mapO keyM ks = some kk → kk.length = ws.length → KV (kk.zip ws) vs → Pairs (mixKind X.prog X.w) es vs →
    mapO (reify h n) ks = some ds → ReadsAll h0 (es.map (·.key)) ds [] ∧ Vals ws (es.map (·.val))
  | [], kk, ws, vs, es, n, ds, h0, hk, hl, q, p, e => by
    cases hk
    cases ws with
    | nil =>
      cases q
      cases p
      cases e
      exact ⟨.nil, .nil⟩
    | cons _ _ => cases hl
  | x :: r, kk, ws, vs, es, n, ds, h0, hk, hl, q, p, e => by
    unfold mapO at hk e
    split at hk
    · rename_i k ks' h1 h2
      cases hk
      cases ws with
      | nil => cases hl
      | cons w ws =>
        split at e
        · rename_i d ds' e1 e2
          cases e
          cases q with
          | cons q1 q2 =>
            cases p with
            | cons p1 p2 p3 =>
              rename_i kv kvl en enl
              obtain ⟨ih1, ih2⟩ := keysV_read (h0 := h0) h2 (by simpa using hl) q2 p3 e2
              have q1 : k = kv.1 ∧ RelV w kv.2 := q1
              refine ⟨?_, .cons (show L2.RelV w en.val by rw [p2]; exact q1.2) ih2⟩
              have hd : Reads h0 en.key d [] := by
                have p1 : keyIs kv.1 en.key = true := p1
                rw [← q1.1] at p1
                rcases keyIs_shape p1 with ⟨i, tk, e3, e4⟩ | ⟨z, tk, e3, e4⟩
                · rw [e4]
                  subst e3
                  cases x with
                  | int j =>
                    cases h1
                    have e1 : some (PyData.int i) = some d := by cases n <;> exact e1
                    cases e1
                    exact .int i tk
                  | _ => cases h1
                · rw [e4]
                  subst e3
                  cases x with
                  | str j =>
                    cases h1
                    have e1 : some (PyData.str z) = some d := by cases n <;> exact e1
                    cases e1
                    exact .str z tk
                  | _ => cases h1
              exact ReadsAll.cons (as := []) (bs := []) hd ih1
        · cases e
    · cases hk
mutual
theorem reify_reads (I : Inv X pins σ H s) (sm : SmOk X) (S : Sim X.K m h H) : ∀ (n : Nat) (v : MV) (d : PyData) (x : V) (u : Value), reify h n v = some d → VR X.K m H v x → RelV x u → ∃ as, Reads s.heap u d as ∧ sysModules ∉ as
  | n, .non, d, x, u, e, r, q => by
    have e : some PyData.none = some d := by cases n <;> exact e
    cases e
    rw [vr_non' r] at q
    cases q
    exact ⟨_, .none, by simp⟩
  | n, .bl b, d, x, u, e, r, q => by
    have e : some (PyData.bool b) = some d := by cases n <;> exact e
    cases e
    rw [vr_bl' r] at q
    cases q
    exact ⟨_, .bool b, by simp⟩
  | n, .int b, d, x, u, e, r, q => by
    have e : some (PyData.int b) = some d := by cases n <;> exact e
    cases e
    rw [vr_int' r] at q
    obtain ⟨t, rfl⟩ := q
    exact ⟨_, .int b t, by simp⟩
  | n, .str b, d, x, u, e, r, q => by
    have e : some (PyData.str b) = some d := by cases n <;> exact e
    cases e
    rw [vr_str' r] at q
    obtain ⟨t, rfl⟩ := q
    exact ⟨_, .str b t, by simp⟩
  | 0, .tup _, _, _, _, e, _, _ => by cases e
  | 0, .ref _, _, _, _, e, _, _ => by cases e
  | 0, .ro _, _, _, _, e, _, _ => by cases e
  | 0, .rod _ _ _, _, _, _, e, _, _ => by cases e
  | n, .obj _ _ _, d, _, _, e, _, _ => by
    have e : (none : Option PyData) = some d := by cases n <;> exact e
    cases e
  | n + 1, .rod true ks xs, d, x, u, e, r, q => by cases e
  | n + 1, .rod false ks xs, d, x, u, e, r, q => by
    have e : (match mapO (reify h n) ks, mapO (reify h n) xs with
        | some ks, some vs => some (PyData.dict (ks.zip vs))
        | _, _ => none) = some d := e
    obtain ⟨a, u', ws, rfl, ⟨o, hq⟩, dk, rr⟩ := vr_rod' r
    cases q
    rcases dk with ⟨_, kk, rfl, hk, hl⟩ | ⟨z, _⟩
    · split at e
      · rename_i kd vd k1 k2
        cases e
        obtain ⟨hz, hS, vs, rk, o, es, ep, ho, hc, hd, _, hp, _⟩ := dk_rd I.hok (.inr ⟨_, hq⟩)
        obtain ⟨r1, w2⟩ := keysV_read (h0 := s.heap) hk hl rk hp k1
        obtain ⟨bs, r2, n2⟩ := reads_list I sm S n xs vd ws _ k2 rr w2
        have l1 := (mapO_some k1).1
        have l2 := (mapO_some k2).1
        have l3 := (mapO_some hk).1
        have l4 := rr.length
        have z1 : (kd.zip vd).map (·.1) = kd := by
          rw [List.map_fst_zip]; omega
        have z2 : (kd.zip vd).map (·.2) = vd := by
          rw [List.map_snd_zip]; omega
        exact ⟨_, Reads.dict (kvs := kd.zip vd) ho hc.1 hd (by rw [z1]; exact r1) (by rw [z2]; exact r2), fun z => (List.mem_cons.mp z).elim (fun z => sm_tracked I sm hq z.symm) (fun z => n2 (by simpa using z))⟩
      · cases e
    · cases z
  | n + 1, .tup xs, d, x, u, e, r, q => by
    have e : (mapO (reify h n) xs).map PyData.tuple = some d := e
    obtain ⟨ds, e1, rfl⟩ := Option.map_eq_some_iff.mp e
    obtain ⟨a, vs, rfl, hq, rr⟩ := vr_tup' r
    cases q
    obtain ⟨its, rv, ⟨o, ho, hc, k, hd⟩, _⟩ := I.tuple hq
    obtain ⟨as, hr, ns⟩ := reads_list I sm S n xs ds vs its e1 rr rv
    exact ⟨_, .tuple ho hc hd hr, ns⟩
  | n + 1, .ro xs, d, x, u, e, r, q => by
    have e : (mapO (reify h n) xs).map PyData.list = some d := e
    obtain ⟨ds, e1, rfl⟩ := Option.map_eq_some_iff.mp e
    obtain ⟨a, vs, rfl, hq, rr⟩ := vr_ro' r
    cases q
    obtain ⟨its, rv, ⟨o, k, ho, hc, _, hd⟩, _⟩ := I.list hq.sq
    obtain ⟨as, hr, ns⟩ := reads_list I sm S n xs ds vs its e1 rr rv
    exact ⟨_, .list ho hc hd hr, fun z => (List.mem_cons.mp z).elim (fun e => sm_ro I sm hq e.symm) ns⟩
  | n + 1, .ref l, d, x, u, e, r, q => by
    have e : (match h[l]? with
      | some (.lst xs) => (mapO (reify h n) xs).map PyData.list
      | some (.dct false kvs) => match mapO (reify h n) (kvs.map (·.1)), mapO (reify h n) (kvs.map (·.2)) with
        | some ks, some vs => some (.dict (ks.zip vs))
        | _, _ => none
      | _ => none) = some d := e
    obtain ⟨a, ha, rfl⟩ := vr_ref' r
    cases q
    split at e
    · rename_i xs e2
      obtain ⟨ds, e1, rfl⟩ := Option.map_eq_some_iff.mp e
      obtain ⟨vs, hq, rr⟩ := S.lst ha e2
      obtain ⟨its, rv, ⟨o, k, ho, hc, _, hd⟩, _⟩ := I.list (SqL.of hq)
      obtain ⟨as, hr, ns⟩ := reads_list I sm S n xs ds vs its e1 rr rv
      exact ⟨_, .list ho hc hd hr, fun z => (List.mem_cons.mp z).elim (fun e => sm_tracked I sm hq e.symm) ns⟩
    · rename_i kvs e2
      split at e
      · rename_i kd vd k1 k2
        cases e
        obtain ⟨ks, hq, rr⟩ := S.dctK ha e2
        obtain ⟨hz, hS, vs, rk, o, es, ep, ho, hc, hd, _, hp, _⟩ := dk_rd I.hok (.inl hq)
        have r1 := keys_read (h0 := s.heap) rr rk hp k1
        obtain ⟨ws, w1, w2⟩ := vals_split rr rk hp
        obtain ⟨bs, r2, n2⟩ := reads_list I sm S n (kvs.map (·.2)) vd ws _ k2 w1 w2
        have l1 := (mapO_some k1).1
        have l2 := (mapO_some k2).1
        rw [List.length_map] at l1 l2
        have z1 : (kd.zip vd).map (·.1) = kd := by
          rw [List.map_fst_zip]; omega
        have z2 : (kd.zip vd).map (·.2) = vd := by
          rw [List.map_snd_zip]; omega
        refine ⟨_, Reads.dict (kvs := kd.zip vd) ho hc.1 hd (by rw [z1]; exact r1) (by rw [z2]; exact r2), fun z => ?_⟩
        rcases List.mem_cons.mp z with z | z
        · exact sm_tracked I sm hq z.symm
        · exact n2 (by simpa using z)
      · cases e
    · cases e
theorem reads_list (I : Inv X pins σ H s) (sm : SmOk X) (S : Sim X.K m h H) : ∀ (n : Nat) (xs : List MV) (ds : List PyData) (vs : List V) (us : List Value), mapO (reify h n) xs = some ds → VRs X.K m H xs vs → Vals vs us → ∃ as, ReadsAll s.heap us ds as ∧ sysModules ∉ as
  | n, [], ds, vs, us, e, r, q => by
    unfold mapO at e
    cases e
    rw [vrs_nil' r] at q
    cases q
    exact ⟨_, .nil, by simp⟩
  | n, x :: xs, ds, vs, us, e, r, q => by
    unfold mapO at e
    split at e
    · rename_i y ys' e1 e2
      cases e
      obtain ⟨v, r', rfl, rv, rr⟩ := vrs_cons' r
      cases q with
      | cons q1 q2 =>
        obtain ⟨as, h1, n1⟩ := reify_reads I sm S n x y _ _ e1 rv q1
        obtain ⟨bs, h2, n2⟩ := reads_list I sm S n xs ys' _ _ e2 rr q2
        exact ⟨_, .cons h1 h2, fun z => (List.mem_append.mp z).elim n1 n2⟩
    · cases e
end
end
end MP
/-! MP: dicts by ints and texts. -/
namespace MP
open PySem PySem.Spec PyProof.Rows L2
theorem kEq1_iff {a b : MV} {x y : Key} (ha : keyM a = some x) (hb : keyM b = some y) : kEq1 a b = decide (x = y) := by
  cases a <;> first | cases ha | skip
  · cases b <;> first | cases hb | skip
    · rename_i i j
      show decide (i = j) = decide ((Sum.inl i : Key) = Sum.inl j)
      by_cases h : i = j <;> simp [h]
    · rfl
  · cases b <;> first | cases hb | skip
    · rfl
    · rename_i i j
      show decide (i = j) = decide ((Sum.inr i : Key) = Sum.inr j)
      by_cases h : i = j <;> simp [h]
theorem kEq_iff {a b : MV} {x y : Key} (ha : keyM a = some x) (hb : keyM b = some y) : kEq a b = decide (x = y) := by
  have e : kEq a b = kEq1 a b := by
    cases a <;> first | cases ha | skip
    all_goals cases b <;> rfl
  rw [e]
  exact kEq1_iff ha hb
theorem kEqs_iff : ∀ {a b : List MV} {x y : List Key}, mapO keyM a = some x → mapO keyM b = some y → kEqs a b = decide (x = y)
  | [], [], x, y, ha, hb => by cases ha; cases hb; rfl
  | [], q :: s, x, y, ha, hb => by
    cases ha
    unfold mapO at hb
    split at hb
    · cases hb; rfl
    · cases hb
  | p :: r, [], x, y, ha, hb => by
    cases hb
    unfold mapO at ha
    split at ha
    · cases ha; rfl
    · cases ha
  | p :: r, q :: s, x, y, ha, hb => by
    unfold mapO at ha hb
    split at ha
    · rename_i k ks h1 h2
      cases ha
      split at hb
      · rename_i j js h3 h4
        cases hb
        unfold kEqs
        rw [kEq1_iff h1 h3, kEqs_iff h2 h4]
        by_cases e1 : k = j <;> by_cases e2 : ks = js <;> simp [e1, e2]
      · cases hb
    · cases ha
theorem kEqT_iff {a b : MV} {x y : List Key} (ha : keyT a = some x) (hb : keyT b = some y) : kEq a b = decide (x = y) := by
  cases a <;> first | cases ha | skip
  cases b <;> first | cases hb | skip
  exact kEqs_iff ha hb
section
variable {K : PySem.W.Frag} {m : List Addr} {H : Hp}
theorem find_some {k : MV} {q : Key} (hk : keyM k = some q) : ∀ {kvs : List (MV × MV)} {ks : List (Key × V)} {v : MV}, KR K m H kvs ks → findM k kvs = some v → ∃ y, valV ks q = some y ∧ VR K m H v y
  | [], ks, v, r, e => by cases e
  | p :: t, ks, v, r, e => by
    obtain ⟨x, y, u, rfl, k1, rv, rr⟩ := r
    unfold findM at e
    rw [kEq_iff k1 hk] at e
    by_cases h : x = q
    · rw [if_pos (decide_eq_true h)] at e
      cases e
      exact ⟨y, by rw [valV_pos h], rv⟩
    · rw [if_neg (by rw [decide_eq_true_eq]; exact h)] at e
      obtain ⟨z, h1, h2⟩ := find_some hk rr e
      exact ⟨z, by simpa [valV, List.find?_cons, h] using h1, h2⟩
theorem find_none {k : MV} {q : Key} (hk : keyM k = some q) : ∀ {kvs : List (MV × MV)} {ks : List (Key × V)}, KR K m H kvs ks → findM k kvs = none → valV ks q = none
  | [], ks, r, e => by rw [show ks = [] from r]; rfl
  | p :: t, ks, r, e => by
    obtain ⟨x, y, u, rfl, k1, rv, rr⟩ := r
    unfold findM at e
    rw [kEq_iff k1 hk] at e
    by_cases h : x = q
    · rw [if_pos (decide_eq_true h)] at e
      cases e
    · rw [if_neg (by rw [decide_eq_true_eq]; exact h)] at e
      have := find_none hk rr e
      simpa [valV, List.find?_cons, h] using this
theorem any_rel {k : MV} {q : Key} (hk : keyM k = some q) : ∀ {kvs : List (MV × MV)} {ks : List (Key × V)}, KR K m H kvs ks → (kvs.any fun p => kEq p.1 k) = ks.any fun kv => decide (kv.1 = q)
  | [], ks, r => by rw [show ks = [] from r]; rfl
  | p :: t, ks, r => by
    obtain ⟨x, y, u, rfl, k1, rv, rr⟩ := r
    rw [List.any_cons, List.any_cons, kEq_iff k1 hk, any_rel hk rr]
theorem map_rel {k v : MV} {q : Key} {y : V} (hk : keyM k = some q) (hv : VR K m H v y) : ∀ {kvs : List (MV × MV)} {ks : List (Key × V)}, KR K m H kvs ks → KR K m H (kvs.map fun p => if kEq p.1 k then (p.1, v) else p) (ks.map fun kv => if kv.1 = q then (kv.1, y) else kv)
  | [], ks, r => by rw [show ks = [] from r]; rfl
  | p :: t, ks, r => by
    obtain ⟨x, z, u, rfl, k1, rv, rr⟩ := r
    have ih := map_rel hk hv rr
    rw [List.map_cons, List.map_cons, kEq_iff k1 hk]
    by_cases h : x = q
    · rw [if_pos (decide_eq_true h), if_pos h]
      exact ⟨x, y, _, rfl, k1, hv, ih⟩
    · rw [if_neg (by rw [decide_eq_true_eq]; exact h), if_neg h]
      exact ⟨x, z, _, rfl, k1, rv, ih⟩
theorem app_rel {k v : MV} {q : Key} {y : V} (hk : keyM k = some q) (hv : VR K m H v y) : ∀ {kvs : List (MV × MV)} {ks : List (Key × V)}, KR K m H kvs ks → KR K m H (kvs ++ [(k, v)]) (ks ++ [(q, y)])
  | [], ks, r => by
    rw [show ks = [] from r]
    exact ⟨q, y, [], rfl, hk, hv, rfl⟩
  | p :: t, ks, r => by
    obtain ⟨x, z, u, rfl, k1, rv, rr⟩ := r
    exact ⟨x, z, _, rfl, k1, rv, app_rel hk hv rr⟩
theorem put_rel {k v : MV} {q : Key} {y : V} {kvs : List (MV × MV)} {ks : List (Key × V)} (hk : keyM k = some q) (hv : VR K m H v y) (r : KR K m H kvs ks) : KR K m H (putM k v kvs) (putK ks q y) := by
  unfold putM putK
  rw [any_rel hk r]
  split
  · exact map_rel hk hv r
  · exact app_rel hk hv r
end
section
variable {K : PySem.W.Frag} {m : List Addr} {H : Hp}
theorem find_someT {k : MV} {q : List Key} (hk : keyT k = some q) : ∀ {kvs : List (MV × MV)} {ks : List (List Key × V)} {v : MV}, KT K m H kvs ks → findM k kvs = some v → ∃ y, valV ks q = some y ∧ VR K m H v y
  | [], ks, v, r, e => by cases e
  | p :: t, ks, v, r, e => by
    obtain ⟨x, y, u, rfl, k1, rv, rr⟩ := r
    unfold findM at e
    rw [kEqT_iff k1 hk] at e
    by_cases h : x = q
    · rw [if_pos (decide_eq_true h)] at e
      cases e
      exact ⟨y, by rw [valV_pos h], rv⟩
    · rw [if_neg (by rw [decide_eq_true_eq]; exact h)] at e
      obtain ⟨z, h1, h2⟩ := find_someT hk rr e
      exact ⟨z, by simpa [valV, List.find?_cons, h] using h1, h2⟩
theorem find_noneT {k : MV} {q : List Key} (hk : keyT k = some q) : ∀ {kvs : List (MV × MV)} {ks : List (List Key × V)}, KT K m H kvs ks → findM k kvs = none → valV ks q = none
  | [], ks, r, e => by rw [show ks = [] from r]; rfl
  | p :: t, ks, r, e => by
    obtain ⟨x, y, u, rfl, k1, rv, rr⟩ := r
    unfold findM at e
    rw [kEqT_iff k1 hk] at e
    by_cases h : x = q
    · rw [if_pos (decide_eq_true h)] at e
      cases e
    · rw [if_neg (by rw [decide_eq_true_eq]; exact h)] at e
      have := find_noneT hk rr e
      simpa [valV, List.find?_cons, h] using this
theorem any_relT {k : MV} {q : List Key} (hk : keyT k = some q) : ∀ {kvs : List (MV × MV)} {ks : List (List Key × V)}, KT K m H kvs ks → (kvs.any fun p => kEq p.1 k) = ks.any fun kv => decide (kv.1 = q)
  | [], ks, r => by rw [show ks = [] from r]; rfl
  | p :: t, ks, r => by
    obtain ⟨x, y, u, rfl, k1, rv, rr⟩ := r
    rw [List.any_cons, List.any_cons, kEqT_iff k1 hk, any_relT hk rr]
theorem map_relT {k v : MV} {q : List Key} {y : V} (hk : keyT k = some q) (hv : VR K m H v y) : ∀ {kvs : List (MV × MV)} {ks : List (List Key × V)}, KT K m H kvs ks → KT K m H (kvs.map fun p => if kEq p.1 k then (p.1, v) else p) (ks.map fun kv => if kv.1 = q then (kv.1, y) else kv)
  | [], ks, r => by rw [show ks = [] from r]; rfl
  | p :: t, ks, r => by
    obtain ⟨x, z, u, rfl, k1, rv, rr⟩ := r
    have ih := map_relT hk hv rr
    rw [List.map_cons, List.map_cons, kEqT_iff k1 hk]
    by_cases h : x = q
    · rw [if_pos (decide_eq_true h), if_pos h]
      exact ⟨x, y, _, rfl, k1, hv, ih⟩
    · rw [if_neg (by rw [decide_eq_true_eq]; exact h), if_neg h]
      exact ⟨x, z, _, rfl, k1, rv, ih⟩
theorem app_relT {k v : MV} {q : List Key} {y : V} (hk : keyT k = some q) (hv : VR K m H v y) : ∀ {kvs : List (MV × MV)} {ks : List (List Key × V)}, KT K m H kvs ks → KT K m H (kvs ++ [(k, v)]) (ks ++ [(q, y)])
  | [], ks, r => by
    rw [show ks = [] from r]
    exact ⟨q, y, [], rfl, hk, hv, rfl⟩
  | p :: t, ks, r => by
    obtain ⟨x, z, u, rfl, k1, rv, rr⟩ := r
    exact ⟨x, z, _, rfl, k1, rv, app_relT hk hv rr⟩
theorem put_relT {k v : MV} {q : List Key} {y : V} {kvs : List (MV × MV)} {ks : List (List Key × V)} (hk : keyT k = some q) (hv : VR K m H v y) (r : KT K m H kvs ks) : KT K m H (putM k v kvs) (putK ks q y) := by
  unfold putM putK
  rw [any_relT hk r]
  split
  · exact map_relT hk hv r
  · exact app_relT hk hv r
end
end MP
/-! MP: operators, comparisons, truth, items, slices. -/
namespace MP
open PySem PySem.Spec PyProof.Rows L2

theorem fits_le {n : Nat} (h : fits n = true) : n ≤ sizeLine := by
  unfold fits at h
  exact of_decide_eq_true h
theorem fitsL_lt {n : Nat} (h : fitsL n = true) : n < sizeLine := by
  unfold fitsL at h
  exact of_decide_eq_true h
theorem fitsJ_le {n : Nat} (h : fitsJ n = true) : n ≤ 16777216 := by
  unfold fitsJ at h
  exact of_decide_eq_true h
theorem small63_of {n : Int} (h : small63 n = true) : -(2 ^ 63) ≤ n ∧ n < 2 ^ 63 := by
  unfold small63 at h
  exact of_decide_eq_true h
theorem small64_of {n : Int} (h : small64 n = true) : -(2 ^ 64) < n ∧ n < 2 ^ 64 := by
  unfold small64 at h
  exact of_decide_eq_true h
theorem smallR_of {n : Int} (h : smallR n = true) : -(2 ^ 62) ≤ n ∧ n < 2 ^ 62 := by
  unfold smallR at h
  exact of_decide_eq_true h
theorem okDiv_of {i j : Int} (h : okDiv j = true) : CDiv i j := by
  unfold okDiv at h
  have q : 0 < j ∧ j < 1073741824 := of_decide_eq_true h
  exact q
theorem okPow_of {a b : Int} (h : okPow a b = true) : CPow a b := by
  unfold okPow at h
  have q : 0 ≤ b ∧ b ≤ 1000000 ∧ a.natAbs < 2 ^ 64 := of_decide_eq_true h
  exact q
theorem lstO_some {K : PySem.W.Frag} {m : List Addr} {h : MH} {H : Hp} {v : MV} {x : V} {xs : List MV} (S : Sim K m h H) (r : VR K m H v x) (e : lstO h v = some xs) : ∃ a vs, x = .ref a ∧ VRs K m H xs vs ∧ LsA K H a vs := by
  cases v with
  | ro ys =>
    obtain ⟨a, vs, rfl, h1, r1⟩ := vr_ro' r
    cases e
    exact ⟨a, vs, rfl, r1, .inr h1⟩
  | ref l =>
    obtain ⟨a, ha, rfl⟩ := vr_ref' r
    simp only [lstO] at e
    split at e
    · rename_i ys e1
      cases e
      obtain ⟨vs, h1, r1⟩ := S.lst ha e1
      exact ⟨a, vs, rfl, r1, .inl h1⟩
    · cases e
  | _ => cases e
/-- list + list, however they stand -/
def rCatA (K : PySem.W.Frag) : R2 := fun x y H Q => ∃ l b xs zs, x = .ref l ∧ y = .ref b ∧ LsA K H l xs ∧ LsA K H b zs ∧ xs.length + zs.length ≤ sizeLine ∧ ∀ p, H p = none → Q (.ref p) (upd H p (.lst (xs ++ zs)))
theorem op_catL {X : Cx} : OpR X (binaryOp .Add) (rCatA X.K) := by
  intro pins s σ H x y v u Q I rx ry h
  obtain ⟨l, b, xs, zs, rfl, rfl, hH, hB, hz, q⟩ := h
  cases rx
  cases ry
  obtain ⟨z, its, n, r, hl, e⟩ := hH.at I
  obtain ⟨z2, its2, n2, r2, hl2, e2⟩ := hB.at I
  refine PySem.P.add_list e e2 ?_ (by rw [List.size_toArray, List.size_toArray]; omega)
  have ea : its.toArray ++ its2.toArray = (its ++ its2).toArray := by simp
  rw [ea]
  exact ⟨.ref _, _, I.lnew (t' := s.toks) (r.append r2) (by rw [List.length_append]; omega), rfl, q _ I.fresh⟩
def rRepA (K : PySem.W.Frag) : R2 := fun x y H Q => ∃ l k xs, x = .ref l ∧ y = .int k ∧ LsA K H l xs ∧ -(2 ^ 63) ≤ k ∧ k < 2 ^ 63 ∧ xs.length * k.toNat ≤ sizeLine ∧
  ∀ p, H p = none → Q (.ref p) (upd H p (.lst (List.replicate k.toNat xs).flatten))
theorem op_repL {X : Cx} : OpR X (binaryOp .Mult) (rRepA X.K) := by
  intro pins s σ H x y v u Q I rx ry h
  obtain ⟨l, k, xs, rfl, rfl, hH, h1, h2, hz, q⟩ := h
  cases rx
  obtain ⟨t, rfl⟩ := ry
  obtain ⟨z, its, n, r, hl, e⟩ := hH.at I
  have hlen : its.toArray.size * k.toNat ≤ sizeLine := by rw [List.size_toArray, ← hl]; exact hz
  have hcap : ¬ its.toArray.size * k.toNat > (2 ^ 63 - 1) / 8 := by
    have : (sizeLine : Nat) ≤ (2 ^ 63 - 1) / 8 := by decide
    omega
  have hfit : ¬ (!Builtin.List.listFitsIndex k) = true := by
    rw [fitsIndex_both h1 h2]
    exact Bool.false_ne_true
  have hlong : ¬ Builtin.List.listTooLong (its.toArray.size * k.toNat) = true := by
    rw [notLongL hlen]
    exact Bool.false_ne_true
  have hnew : List.foldl (fun x1 x2 => x1 ++ x2) #[] (List.replicate (if its.toArray.isEmpty = true then 0 else k.toNat) its.toArray) = (List.replicate k.toNat its).flatten.toArray := by
    have f0 : ∀ m : Nat, List.foldl (fun x1 x2 => x1 ++ x2) #[] (List.replicate m its.toArray) = (List.replicate m its).flatten.toArray := fun m => by
      have := foldl_rep its m []
      rw [List.nil_append] at this
      exact this
    rw [f0]
    cases its with
    | nil => simp
    | cons a r' => rw [if_neg (by simp)]
  refine wpAny_binaryOp_repeat_ref (T := "list") (U := "int") (by decide) ⟨_, e, rfl⟩ (fun s' => typeIs_int s' k t) noFill_list_mul F.fills_int_mul F.slot_int_rmul repeat_list F.slot_int_index.lookup
    (call_meets F.slot_int_rmul (typeIs_int s k t) F.entry_int_rmul (F.args_int_rmul_2 _ _) (int___rmul___int_list k t l its.toArray n)
      ⟨e, rfl, ⟨_, e, rfl⟩, call_meets F.slot_list_mul ⟨_, e, rfl⟩ F.entry_list_mul (F.args_list_mul_2 _ _) (AutoListH.list___mul___list_int_3 l its.toArray n k t hfit hcap hlong) ⟨e, ?_⟩⟩)
  rw [hnew]
  exact ⟨.ref _, _, I.lnew (t' := s.toks) (r.rep k.toNat) (by rw [PyProof.Rows.lm_len_rep_flat, Nat.mul_comm]; exact hz), rfl, q _ I.fresh⟩
theorem fdivV_int (a b : Int) : fdivV (.int a) (.int b) = if okDiv b then .ret (.int (a / b)) else .stk := rfl
theorem modV_int (a b : Int) : modV (.int a) (.int b) = if 0 < b then .ret (.int (a % b)) else .stk := rfl
theorem powV_int (a b : Int) : powV (.int a) (.int b) = if okPow a b then .ret (.int (a ^ b.toNat)) else .stk := rfl
def rB (K : PySem.W.Frag) (g : MV → MV → M MV) : R2 := fun x y H Q => ∃ m h v w, Sim K m h H ∧ VR K m H v x ∧ VR K m H w y ∧ WP K (rV K) (g v w h) m H Q
def rC (K : PySem.W.Frag) (g : MV → MV → M Bool) : R2 := fun x y H Q => ∃ m h v w, Sim K m h H ∧ VR K m H v x ∧ VR K m H w y ∧ WP K rId (g v w h) m H (fun b H' => Q (.bl b) H')
def rF (K : PySem.W.Frag) (g : List MV → M MV) : List V → Hp → VK → Prop := fun xs H Q => ∃ m h vs, Sim K m h H ∧ VRs K m H vs xs ∧ WP K (rV K) (g vs h) m H Q
def rM (K : PySem.W.Frag) (g : MV → List MV → M MV) : V → List V → Hp → VK → Prop := fun x xs H Q => ∃ m h v vs, Sim K m h H ∧ VR K m H v x ∧ VRs K m H vs xs ∧ WP K (rV K) (g v vs h) m H Q
def aBop : Bop → Operator
  | .add => .Add | .sub => .Sub | .mul => .Mult | .fdiv => .FloorDiv | .mod => .Mod | .pow => .Pow
def aCop : Cop → CmpOp
  | .eq => .Eq | .ne => .NotEq | .lt => .Lt | .le => .LtE | .gt => .Gt | .ge => .GtE | .isin => .In | .notin => .NotIn
section
variable {X : Cx}
theorem op_catM {pins : List (Addr × Obj)} {s : Shared} {σ : L2.St} {H : Hp} {x y : V} {v u : Value} {Q : VK} {m : List Addr} {h : MH} {a b : MV} (I : Inv X pins σ H s) (rx : L2.RelV x v) (ry : L2.RelV y u) (S : Sim X.K m h H) (ra : VR X.K m H a x) (rb : VR X.K m H b y) (w : WP X.K (rV X.K) (catV a b h) m H Q) :
    wpAny (model X.prog X.w) X.A (binaryOp .Add v u) (EP X pins σ Q) X.xe s := by
  unfold catV at w
  split at w
  · rename_i xs ys e1 e2
    split at w
    · rename_i hl
      obtain ⟨p, vs, rfl, r1, q1⟩ := lstO_some S ra e1
      obtain ⟨p2, ws, rfl, r2, q2⟩ := lstO_some S rb e2
      exact op_catL pins s σ H _ _ v u Q I rx ry ⟨p, p2, vs, ws, rfl, rfl, q1, q2, by rw [← r1.length, ← r2.length]; exact fits_le hl, wp_lst w S (r1.append r2)⟩
    · exact False.elim w
  · exact False.elim w
theorem op_addM : OpR X (binaryOp .Add) (rB X.K addV) := by
  intro pins s σ H x y v u Q I rx ry ⟨m, h, a, b, S, ra, rb, w⟩
  unfold addV at w
  split at w
  · rename_i i j
    rw [vr_int' ra] at rx
    rw [vr_int' rb] at ry
    exact op_add pins s σ H _ _ v u Q I rx ry ⟨i, j, rfl, rfl, w.ret S (vr_int _)⟩
  · rename_i i j
    rw [vr_str' ra] at rx
    rw [vr_str' rb] at ry
    split at w
    · rename_i hl
      exact op_add_str pins s σ H _ _ v u Q I rx ry ⟨i, j, rfl, rfl, fits_le hl, w.ret S (vr_str _)⟩
    · exact False.elim w
  · rename_i xs ys
    obtain ⟨a, vs, rfl, h1, r1⟩ := vr_tupH ra
    obtain ⟨b, ws, rfl, h2, r2⟩ := vr_tupH rb
    split at w
    · rename_i hl
      have z1 := r1.length
      have z2 := r2.length
      refine op_catA pins s σ H _ _ v u Q I rx ry ⟨a, b, vs, ws, rfl, rfl, .inl (.inl h1), .inl (.inl h2), by rw [← r1.length, ← r2.length]; exact fits_le hl, fun e => ?_, fun _ e => ?_, fun _ _ => wp_tup w S (r1.append r2)⟩
      · subst e
        have e : xs = [] := List.length_eq_zero_iff.mp (by simpa using z1)
        subst e
        refine w.ret S ?_
        show VR _ _ _ _ _
        unfold VR
        exact ⟨b, ws, rfl, h2, r2⟩
      · subst e
        have e : ys = [] := List.length_eq_zero_iff.mp (by simpa using z2)
        subst e
        rw [List.append_nil] at w
        refine w.ret S ?_
        show VR _ _ _ _ _
        unfold VR
        exact ⟨a, vs, rfl, h1, r1⟩
    · exact False.elim w
  · exact op_catM I rx ry S ra rb w
theorem op_subM : OpR X (binaryOp .Sub) (rB X.K subV) := by
  intro pins s σ H x y v u Q I rx ry ⟨m, h, a, b, S, ra, rb, w⟩
  cases a with
  | int i =>
    cases b with
    | int j =>
      rw [vr_int' ra] at rx
      rw [vr_int' rb] at ry
      exact op_sub pins s σ H _ _ v u Q I rx ry ⟨i, j, rfl, rfl, w.ret S (vr_int _)⟩
    | _ => exact False.elim w
  | _ => exact False.elim w
theorem op_mulM : OpR X (binaryOp .Mult) (rB X.K mulV) := by
  intro pins s σ H x y v u Q I rx ry ⟨m, h, a, b, S, ra, rb, w⟩
  unfold mulV at w
  split at w
  · rename_i j
    have rb' := rb
    rw [vr_int' rb] at ry
    split at w
    · rename_i i
      rw [vr_int' ra] at rx
      split at w
      · rename_i hl
        have hl : CMul i j := (Bool.or_eq_true_iff.mp hl).imp small64_of small64_of
        exact op_mul pins s σ H _ _ v u Q I rx ry ⟨i, j, rfl, rfl, hl, w.ret S (vr_int _)⟩
      · exact False.elim w
    · unfold repV at w
      split at w
      · rename_i xs e1
        split at w
        · rename_i hl
          obtain ⟨p, vs, rfl, r1, q1⟩ := lstO_some S ra e1
          exact op_repL pins s σ H _ _ v u Q I rx ry ⟨p, j, vs, rfl, rfl, q1, (small63_of (Bool.and_eq_true_iff.mp hl).1).1, (small63_of (Bool.and_eq_true_iff.mp hl).1).2, by rw [← r1.length]; exact fits_le (Bool.and_eq_true_iff.mp hl).2, wp_lst w S (r1.rep _)⟩
        · exact False.elim w
      · exact False.elim w
  · exact False.elim w
theorem op_fdivM : OpR X (binaryOp .FloorDiv) (rB X.K fdivV) := by
  intro pins s σ H x y v u Q I rx ry ⟨m, h, a, b, S, ra, rb, w⟩
  cases a with
  | int i =>
    cases b with
    | int j =>
      rw [vr_int' ra] at rx
      rw [vr_int' rb] at ry
      rw [fdivV_int] at w
      split at w
      · rename_i hl
        exact op_fdiv pins s σ H _ _ v u Q I rx ry ⟨i, j, rfl, rfl, okDiv_of hl, w.ret S (vr_int _)⟩
      · exact False.elim w
    | _ => exact False.elim w
  | _ => exact False.elim w
theorem op_modM : OpR X (binaryOp .Mod) (rB X.K modV) := by
  intro pins s σ H x y v u Q I rx ry ⟨m, h, a, b, S, ra, rb, w⟩
  cases a with
  | int i =>
    cases b with
    | int j =>
      rw [vr_int' ra] at rx
      rw [vr_int' rb] at ry
      rw [modV_int] at w
      split at w
      · rename_i hl
        exact op_mod pins s σ H _ _ v u Q I rx ry ⟨i, j, rfl, rfl, hl, w.ret S (vr_int _)⟩
      · exact False.elim w
    | _ => exact False.elim w
  | _ => exact False.elim w
theorem op_powM : OpR X (binaryOp .Pow) (rB X.K powV) := by
  intro pins s σ H x y v u Q I rx ry ⟨m, h, a, b, S, ra, rb, w⟩
  cases a with
  | int i =>
    cases b with
    | int j =>
      rw [vr_int' ra] at rx
      rw [vr_int' rb] at ry
      rw [powV_int] at w
      split at w
      · rename_i hl
        exact op_pow pins s σ H _ _ v u Q I rx ry ⟨i, j, rfl, rfl, okPow_of hl, w.ret S (vr_int _)⟩
      · exact False.elim w
    | _ => exact False.elim w
  | _ => exact False.elim w
theorem op_binM (o : Bop) : OpR X (binaryOp (aBop o)) (rB X.K (binV o)) := by
  cases o with
  | add => exact op_addM
  | sub => exact op_subM
  | mul => exact op_mulM
  | fdiv => exact op_fdivM
  | mod => exact op_modM
  | pow => exact op_powM

/-! ### comparisons -/
theorem wp_eq {K : PySem.W.Frag} {m : List Addr} {h : MH} {H : Hp} {v w : MV} {Q : Bool → Hp → Prop} (S : Sim K m h H) (k : WP K rId (eqD v w h) m H Q) :
    ∃ d e, reify h 60 v = some d ∧ reify h 60 w = some e ∧ SeqAt.shaped d = true ∧ SeqAt.shaped e = true ∧ Q (PyData.eqv d e) H := by
  unfold eqD at k
  split at k
  · rename_i d e e1 e2
    split at k
    · rename_i hs
      have hs := Bool.and_eq_true_iff.mp hs
      exact ⟨d, e, e1, e2, hs.1, hs.2, k m H _ Post.refl S rfl⟩
    · exact False.elim k
  · exact False.elim k
theorem kg_back {K : PySem.W.Frag} {m : List Addr} {H : Hp} : ∀ {ks vs : List MV} {kk : List Key} {ws : List V}, mapO keyM ks = some kk → kk.length = ws.length → VRs K m H vs ws → KR K m H (ks.zip vs) (kk.zip ws)
  | [], vs, kk, ws, e, hl, r => by cases e; rfl
  | k :: ks, vs, kk, ws, e, hl, r => by
    unfold mapO at e
    split at e
    · rename_i q qs h1 h2
      cases e
      cases ws with
      | nil => cases hl
      | cons w ws =>
        cases vs with
        | nil => have := vrs_nil' r; cases this
        | cons v vs =>
          obtain ⟨y, t, e2, rv, rr⟩ := vrs_cons' r
          cases e2
          exact ⟨q, w, _, rfl, h1, rv, kg_back h2 (by simpa using hl) rr⟩
    · cases e
theorem zip_len' {α β : Type} {xs : List α} {ys : List β} (h : xs.length = ys.length) : (xs.zip ys).length = xs.length := by
  rw [List.length_zip]; omega
theorem wp_eqK {K : PySem.W.Frag} {m : List Addr} {h : MH} {H : Hp} {ks vs ls ws : List MV} {Q : Bool → Hp → Prop} (S : Sim K m h H) (k : WP K rId (eqK ks vs ls ws h) m H Q) :
    (ks.length ≠ ls.length ∧ Q false H) ∨ ∃ b, ks.length = ls.length ∧ eqR h (ls.zip ws) (ks.zip vs) = some b ∧ Q b H := by
  unfold eqK at k
  split at k
  · rename_i hl
    split at k
    · rename_i b e
      exact .inr ⟨b, hl, e, k m H _ Post.refl S rfl⟩
    · exact False.elim k
  · rename_i hl
    exact .inl ⟨hl, k m H _ Post.refl S rfl⟩
theorem eqR_hits {pins : List (Addr × Obj)} {s : Shared} {σ : L2.St} {H : Hp} {m : List Addr} {h : MH} (I : Inv X pins σ H s) (sm : SmOk X) (S : Sim X.K m h H) (hu : X.A.units + 65 < cLine) {lws : List (MV × MV)} {ll : List (Key × V)} {vb : List (Key × Value)} (rl : KR X.K m H lws ll) (rb : KV ll vb) :
    ∀ {kvs : List (MV × MV)} {kk : List (Key × V)} {va : List (Key × Value)} {b : Bool}, KR X.K m H kvs kk → KV kk va → eqR h lws kvs = some b → PySem.W.KeqHits X.A.in1 s vb va b
  | [], kk, va, b, r, ra, e => by
    cases e
    have r : kk = [] := r
    subst r
    cases ra
    exact .nil
  | p :: t, kk, va, b, r, ra, e => by
    obtain ⟨k, v, u, rfl, k1, rv, rr⟩ := r
    cases ra with
    | cons q ra =>
      rename_i q' va'
      obtain ⟨k', w⟩ := q'
      obtain ⟨q1, q2⟩ := q
      have q1 : k = k' := q1
      subst q1
      unfold eqR at e
      cases hf : findM p.1 lws with
      | none =>
        rw [hf] at e
        cases e
        have z := rb.val k
        rw [find_none k1 rl hf] at z
        refine .miss ?_
        cases hv : valueAt vb k with
        | none => rfl
        | some y => rw [hv] at z; exact z.elim
      | some y =>
        rw [hf] at e
        dsimp only at e
        split at e
        · rename_i d1 d2 e1 e2
          split at e
          · rename_i sh
            have sh := Bool.and_eq_true_iff.mp sh
            obtain ⟨b', e3, rfl⟩ := Option.map_eq_some_iff.mp e
            obtain ⟨yv, h1, h2⟩ := find_some k1 rl hf
            have z := rb.val k
            rw [h1] at z
            obtain ⟨yy, hy, ry⟩ := z.some_of
            obtain ⟨as, r1, _⟩ := reify_reads I sm S 60 _ d1 v w e1 rv q2
            obtain ⟨bs, r2, _⟩ := reify_reads I sm S 60 _ d2 yv yy e2 h2 ry
            exact .hit hy (PySem.W.keq_at r1 r2 sh.1 sh.2 (by show X.A.units + 1 + 64 < cLine; omega)) (eqR_hits I sm S hu rl rb rr ra e3)
          · cases e
        · cases e
theorem op_eqKM (ne : Bool) (sm : SmOk X) (hu : X.A.units + 65 < cLine) {pins : List (Addr × Obj)} {s : Shared} {σ : L2.St} {H : Hp} {x y : V} {v u : Value} {Q : VK} {m : List Addr} {h : MH} {ks vs ls ws : List MV} (I : Inv X pins σ H s) (rx : L2.RelV x v) (ry : L2.RelV y u)
    (S : Sim X.K m h H) (ra : VR X.K m H (.rod false ks vs) x) (rb : VR X.K m H (.rod false ls ws) y) (w : WP X.K rId (eqK ks vs ls ws h) m H (fun b H' => Q (.bl (if ne then !b else b)) H')) :
    wpAny (model X.prog X.w) X.A (compareOp (if ne then .NotEq else .Eq) v u) (EP X pins σ Q) X.xe s := by
  obtain ⟨a, o1, ws1, rfl, ⟨o, q⟩, d, rr⟩ := vr_rod' ra
  obtain ⟨b, o2, ws2, rfl, ⟨o', q'⟩, d', rr'⟩ := vr_rod' rb
  rcases d with ⟨_, kk, rfl, hk, hl⟩ | ⟨z, _⟩
  · rcases d' with ⟨_, ll, rfl, hk', hl'⟩ | ⟨z, _⟩
    · obtain rfl : v = Value.ref a := rx
      obtain rfl : u = Value.ref b := ry
      obtain ⟨ya, _, _, _, _, va, _, _, kva, da⟩ := I.frzK q
      obtain ⟨yb, _, _, _, _, vb, _, _, kvb, db⟩ := I.frzK q'
      have n1 : va.length = ks.length := by
        rw [← kva.length, zip_len' hl]; exact (mapO_some hk).1.symm
      have n2 : vb.length = ls.length := by
        rw [← kvb.length, zip_len' hl']; exact (mapO_some hk').1.symm
      have fin : ∀ r : Bool, (va.length = vb.length → PySem.W.KeqHits X.A.in1 s vb va r) → Q (.bl (if ne then !(va.length == vb.length && r) else (va.length == vb.length && r))) H → wpAny (model X.prog X.w) X.A (compareOp (if ne then .NotEq else .Eq) (.ref a) (.ref b)) (EP X pins σ Q) X.xe s := fun r hits qq => by
        cases ne with
        | true => exact PySem.W.keq_ne (knd := mixKind X.prog X.w) (r := r) ya yb da.dictOf db.dictOf (by omega) hits ⟨.bl _, H, I, rfl, qq⟩
        | false => exact PySem.W.keq_eq (knd := mixKind X.prog X.w) (r := r) ya yb da.dictOf db.dictOf (by omega) hits ⟨.bl _, H, I, rfl, qq⟩
      rcases wp_eqK S w with ⟨hne, qq⟩ | ⟨r, he, e, qq⟩
      · have n3 : (va.length == vb.length) = false := by rw [n1, n2]; simpa using hne
        refine fin false (fun z => absurd (by rw [← n1, ← n2]; exact z) hne) ?_
        rw [n3]
        exact qq
      · have n3 : (va.length == vb.length) = true := by rw [n1, n2]; simpa using he
        refine fin r (fun _ => eqR_hits I sm S hu (kg_back hk' hl' rr') kvb (kg_back hk hl rr) kva e) ?_
        rw [n3, Bool.true_and]
        exact qq
    · cases z
  · cases z
theorem dec_strM {a b : Str} : decide (V.str a = V.str b) = (a == b) := by
  rw [Bool.eq_iff_iff]
  simp
theorem op_eqM (sm : SmOk X) (hu : X.A.units + 65 < cLine) : OpR X (compareOp .Eq) (rC X.K eqV) := by
  intro pins s σ H x y v u Q I rx ry ⟨m, h, a, b, S, ra, rb, w⟩
  unfold eqV at w
  split at w
  · rename_i z t
    rw [vr_str' ra] at rx
    rw [vr_str' rb] at ry
    exact op_eq pins s σ H _ _ v u Q I rx ry ⟨rfl, by rw [dec_strM]; exact w.ret S rfl⟩
  · exact op_eqKM false sm hu I rx ry S ra rb w
  · obtain ⟨d, e, e1, e2, s1, s2, q⟩ := wp_eq S w
    obtain ⟨as, r1, _⟩ := reify_reads I sm S 60 _ d x v e1 ra rx
    obtain ⟨bs, r2, _⟩ := reify_reads I sm S 60 _ e y u e2 rb ry
    exact SeqAt.compareEq_shaped r1 r2 s1 s2 (by omega) ⟨.bl _, H, I, rfl, q⟩
theorem op_neM (sm : SmOk X) (hu : X.A.units + 65 < cLine) : OpR X (compareOp .NotEq) (rC X.K fun v w => (eqV v w).bnd fun b => .ret (!b)) := by
  intro pins s σ H x y v u Q I rx ry ⟨m, h, a, b, S, ra, rb, w⟩
  have w := WP.bind (Rx := rId) w
  unfold eqV at w
  split at w
  · rename_i z t
    rw [vr_str' ra] at rx
    rw [vr_str' rb] at ry
    obtain ⟨m1, h1, k, P, S1, e, q⟩ := w.ret S rfl
    cases e
    exact op_ne pins s σ H _ _ v u Q I rx ry ⟨rfl, by rw [dec_strM]; exact q.ret S1 rfl⟩
  · exact op_eqKM true sm hu I rx ry S ra rb (w.mono fun b H1 ⟨m1, h1, b', P1, S1, e, q⟩ => by
      cases e
      exact q.ret S1 rfl)
  · obtain ⟨d, e, e1, e2, s1, s2, m1, h1, k, P, S1, rfl, q⟩ := wp_eq S w
    obtain ⟨as, r1, _⟩ := reify_reads I sm S 60 _ d x v e1 ra rx
    obtain ⟨bs, r2, _⟩ := reify_reads I sm S 60 _ e y u e2 rb ry
    exact SeqAt.compareNe_shaped r1 r2 s1 s2 (by omega) ⟨.bl _, H, I, rfl, q.ret S1 rfl⟩
theorem wp_in {K : PySem.W.Frag} {m : List Addr} {h : MH} {H : Hp} {v w : MV} {Q : Bool → Hp → Prop} (S : Sim K m h H) (k : WP K rId (isinL v w h) m H Q) :
    (∃ t s, w = .str t ∧ v = .str s ∧ Q (!(Builtin.Str.occurrences t s 0 t.length 1).isEmpty) H) ∨
    ∃ d ds, reify h 60 v = some d ∧ (reify h 60 w = some (.list ds) ∧ SeqAt.shaped (.list ds) = true ∨ reify h 60 w = some (.tuple ds) ∧ SeqAt.shaped (.list ds) = true) ∧ SeqAt.shaped d = true ∧ Q (ds.any fun z => PyData.eqv z d) H := by
  unfold isinL at k
  cases w with
  | str t =>
    cases v with
    | str s => exact .inl ⟨t, s, rfl, rfl, k m H _ Post.refl S rfl⟩
    | _ => exact False.elim k
  | _ =>
    refine .inr ?_
    simp only at k
    split at k
    · rename_i d ds e1 e2
      split at k
      · rename_i hs
        have hs := Bool.and_eq_true_iff.mp hs
        exact ⟨d, ds, e1, .inl ⟨e2, hs.2⟩, hs.1, k m H _ Post.refl S rfl⟩
      · exact False.elim k
    · rename_i d ds e1 e2
      split at k
      · rename_i hs
        have hs := Bool.and_eq_true_iff.mp hs
        exact ⟨d, ds, e1, .inr ⟨e2, hs.2⟩, hs.1, k m H _ Post.refl S rfl⟩
      · exact False.elim k
    · exact False.elim k
theorem shaped_tup {ds : List PyData} (h : SeqAt.shaped (.list ds) = true) : SeqAt.shaped (.tuple ds) = true := by
  have h1 := Bool.and_eq_true_iff.mp h
  refine Bool.and_eq_true_iff.mpr ⟨?_, ?_⟩
  · simpa [PyData.canLay0] using h1.1
  · simpa [PyData.depth] using h1.2
theorem key_of_vr {K : PySem.W.Frag} {m : List Addr} {H : Hp} {k : MV} {y : V} (hb : keyB1 k = true) (r : VR K m H k y) : ∃ q, keyM k = some q ∧ y = kV q := by
  cases k with
  | int i => exact ⟨.inl i, rfl, vr_int' r⟩
  | str t => exact ⟨.inr t, rfl, vr_str' r⟩
  | _ => cases hb
theorem keys_of_vr {K : PySem.W.Frag} {m : List Addr} {H : Hp} : ∀ {xs : List MV} {ys : List V}, xs.all keyB1 = true → VRs K m H xs ys → ∃ q, mapO keyM xs = some q ∧ ys = q.map kV
  | [], ys, _, r => ⟨[], rfl, vrs_nil' r⟩
  | x :: xs, ys, hb, r => by
    rw [List.all_cons, Bool.and_eq_true_iff] at hb
    obtain ⟨y, t, rfl, q, rr⟩ := vrs_cons' r
    obtain ⟨k, h1, h2⟩ := key_of_vr hb.1 q
    obtain ⟨ks, h3, h4⟩ := keys_of_vr hb.2 rr
    refine ⟨k :: ks, ?_, by rw [h2, h4]; rfl⟩
    unfold mapO
    rw [h1, h3]
/-- a dict as it is read -/
def DcA (K : PySem.W.Frag) (m : List Addr) (H : Hp) (a : Addr) (t : Bool) (kvs : List (MV × MV)) : Prop := ∃ u, Rd H a u ∧ DR K m H t kvs u
theorem dget_of {K : PySem.W.Frag} {m : List Addr} {H : Hp} {k : MV} {y : V} {a : Addr} {t : Bool} {kvs : List (MV × MV)} (A : DcA K m H a t kvs) (hb : keyB t k = true) (r : VR K m H k y) :
    ∃ o, DGet H a y o ∧ (∀ v, findM k kvs = some v → ∃ z, o = some z ∧ VR K m H v z) ∧ (findM k kvs).isSome = o.isSome := by
  obtain ⟨u, q, rr⟩ := A
  cases t with
  | false =>
    have hb1 : keyB1 k = true := by
      cases k <;> first | exact hb | cases hb
    obtain ⟨ks, rfl, rr⟩ := rr
    obtain ⟨kk, e1, e2⟩ := key_of_vr hb1 r
    refine ⟨L2.valV ks kk, .inl ⟨ks, kk, q, e2, rfl⟩, fun v hv => ?_, ?_⟩
    · obtain ⟨z, h1, h2⟩ := find_some e1 rr hv
      exact ⟨z, h1, h2⟩
    · cases hf : findM k kvs with
      | none => rw [find_none e1 rr hf]; rfl
      | some v =>
        obtain ⟨z, h1, h2⟩ := find_some e1 rr hf
        rw [h1]; rfl
  | true =>
    cases k with
    | tup xs =>
      have hb : xs.all keyB1 = true := by
        have : (true && xs.all keyB1) = true := hb
        rwa [Bool.true_and] at this
      obtain ⟨ks, rfl, rr⟩ := rr
      obtain ⟨b, vs, rfl, hq, r2⟩ := vr_tupH r
      obtain ⟨kk, e1, e2⟩ := keys_of_vr hb r2
      have e1 : keyT (.tup xs) = some kk := e1
      refine ⟨L2.valV ks kk, .inr ⟨ks, kk, b, q, rfl, by rw [← e2]; exact hq, rfl⟩, fun v hv => ?_, ?_⟩
      · obtain ⟨z, h1, h2⟩ := find_someT e1 rr hv
        exact ⟨z, h1, h2⟩
      · cases hf : findM (.tup xs) kvs with
        | none => rw [find_noneT e1 rr hf]; rfl
        | some v =>
          obtain ⟨z, h1, h2⟩ := find_someT e1 rr hf
          rw [h1]; rfl
    | _ => cases hb
theorem kt_back {K : PySem.W.Frag} {m : List Addr} {H : Hp} : ∀ {ks vs : List MV} {kk : List (List Key)} {ws : List V}, mapO keyT ks = some kk → kk.length = ws.length → VRs K m H vs ws → KT K m H (ks.zip vs) (kk.zip ws)
  | [], vs, kk, ws, e, hl, r => by cases e; rfl
  | k :: ks, vs, kk, ws, e, hl, r => by
    unfold mapO at e
    split at e
    · rename_i q qs h1 h2
      cases e
      cases ws with
      | nil => cases hl
      | cons w ws =>
        cases vs with
        | nil => have := vrs_nil' r; cases this
        | cons v vs =>
          obtain ⟨y, t, e2, rv, rr⟩ := vrs_cons' r
          cases e2
          exact ⟨q, w, _, rfl, h1, rv, kt_back h2 (by simpa using hl) rr⟩
    · cases e
theorem dk_dr {K : PySem.W.Frag} {m : List Addr} {H : Hp} {t : Bool} {ks vs : List MV} {ws : List V} {u : HO} (d : DkR t ks ws u) (r : VRs K m H vs ws) : DR K m H t (ks.zip vs) u := by
  rcases d with ⟨rfl, kk, rfl, h1, h2⟩ | ⟨rfl, kk, rfl, h1, h2⟩
  · exact ⟨_, rfl, kg_back h1 h2 r⟩
  · exact ⟨_, rfl, kt_back h1 h2 r⟩
theorem dcA_ref {K : PySem.W.Frag} {m : List Addr} {h : MH} {H : Hp} {l : Nat} {t : Bool} {kvs : List (MV × MV)} {y : V} (S : Sim K m h H) (r : VR K m H (.ref l) y) (e : h[l]? = some (.dct t kvs)) : ∃ a, y = .ref a ∧ DcA K m H a t kvs := by
  obtain ⟨a, ha, rfl⟩ := vr_ref' r
  obtain ⟨u, q, rr⟩ := S.dct ha e
  exact ⟨a, rfl, u, .inl q, rr⟩
theorem dcA_rod {K : PySem.W.Frag} {m : List Addr} {H : Hp} {t : Bool} {ks vs : List MV} {y : V} (r : VR K m H (.rod t ks vs) y) : ∃ a, y = .ref a ∧ DcA K m H a t (ks.zip vs) := by
  obtain ⟨a, u, ws, rfl, ⟨o, q⟩, d, rr⟩ := vr_rod' r
  exact ⟨a, rfl, u, .inr ⟨o, q⟩, dk_dr d rr⟩
theorem in_split {K : PySem.W.Frag} {m : List Addr} {h : MH} {H : Hp} {v w : MV} {x y : V} {Q : Bool → Hp → Prop} (S : Sim K m h H) (rv : VR K m H v x) (rw' : VR K m H w y) (k : WP K rId (isinV v w h) m H Q) :
    (∃ (p : Addr) (o : Option V), y = .ref p ∧ DGet H p x o ∧ Q o.isSome H) ∨ WP K rId (isinL v w h) m H Q := by
  have core : ∀ {a : Addr} {t : Bool} {kvs : List (MV × MV)}, DcA K m H a t kvs → WP K rId (dinK t kvs v h) m H Q → ∃ o : Option V, DGet H a x o ∧ Q o.isSome H := fun A k => by
    unfold dinK at k
    split at k
    · rename_i hb
      obtain ⟨o, g, _, e2⟩ := dget_of A hb rv
      have q := k.ret S rfl
      rw [e2] at q
      exact ⟨o, g, q⟩
    · exact False.elim k
  unfold isinV at k
  cases w with
  | ref l =>
    dsimp only at k
    split at k
    · rename_i ww kvs e
      obtain ⟨a, rfl, A⟩ := dcA_ref S rw' e
      obtain ⟨o, g, q⟩ := core A k
      exact .inl ⟨a, o, rfl, g, q⟩
    · exact .inr k
  | rod t ks vs =>
    obtain ⟨a, rfl, A⟩ := dcA_rod rw'
    obtain ⟨o, g, q⟩ := core A k
    exact .inl ⟨a, o, rfl, g, q⟩
  | _ => exact .inr k
theorem op_inM (sm : SmOk X) (hu : X.A.units + 65 < cLine) : OpR X (compareOp .In) (rC X.K isinV) := by
  intro pins s σ H x y v u Q I rx ry ⟨m, h, a, b, S, ra, rb, w⟩
  rcases in_split S ra rb w with ⟨p, o, rfl, g, q⟩ | w
  · obtain rfl : u = Value.ref p := ry
    exact d_in (by omega) I g rx fun s3 J => ⟨.bl _, H, J, rfl, q⟩
  rcases wp_in S w with ⟨t, z, rfl, rfl, q⟩ | ⟨d, ds, e1, e2, s1, q⟩
  · rw [vr_str' ra] at rx
    rw [vr_str' rb] at ry
    exact op_in_str pins s σ H _ _ v u Q I rx ry ⟨z, t, rfl, rfl, q⟩
  · obtain ⟨as, r1, _⟩ := reify_reads I sm S 60 a d x v e1 ra rx
    rcases e2 with ⟨e2, s2⟩ | ⟨e2, s2⟩
    · obtain ⟨bs, r2, _⟩ := reify_reads I sm S 60 b _ y u e2 rb ry
      exact SeqAt.in_list_reads r2 r1 (SeqAt.canLay_of_shaped s2) (SeqAt.canLay_of_shaped s1) (room_in_shaped s1 hu) ⟨.bl _, H, I, rfl, q⟩
    · obtain ⟨bs, r2, _⟩ := reify_reads I sm S 60 b _ y u e2 rb ry
      exact SeqAt.in_tuple_reads r2 r1 (SeqAt.canLay_of_shaped (shaped_tup s2)) (SeqAt.canLay_of_shaped s1) (room_in_shaped s1 hu) ⟨.bl _, H, I, rfl, q⟩
theorem op_notinM (sm : SmOk X) (hu : X.A.units + 65 < cLine) : OpR X (compareOp .NotIn) (rC X.K fun v w => (isinV v w).bnd fun b => .ret (!b)) := by
  intro pins s σ H x y v u Q I rx ry ⟨m, h, a, b, S, ra, rb, w⟩
  have w := WP.bind (Rx := rId) w
  rcases in_split S ra rb w with ⟨p, o, rfl, g, m1, h1, kk, P, S1, e, q⟩ | w
  · cases e
    obtain rfl : u = Value.ref p := ry
    exact d_notIn (by omega) I g rx fun s3 J => ⟨.bl _, H, J, rfl, q.ret S1 rfl⟩
  rcases wp_in S w with ⟨t, z, rfl, rfl, m1, h1, k, P, S1, rfl, q⟩ | ⟨d, ds, e1, e2, s1, m1, h1, k, P, S1, rfl, q⟩
  · rw [vr_str' ra] at rx
    rw [vr_str' rb] at ry
    exact L2.op_notIn_str pins s σ H _ _ v u Q I rx ry ⟨z, t, rfl, rfl, q.ret S1 rfl⟩
  · obtain ⟨as, r1, _⟩ := reify_reads I sm S 60 a d x v e1 ra rx
    rcases e2 with ⟨e2, s2⟩ | ⟨e2, s2⟩
    · obtain ⟨bs, r2, _⟩ := reify_reads I sm S 60 b _ y u e2 rb ry
      exact SeqAt.notIn_list_reads r2 r1 (SeqAt.canLay_of_shaped s2) (SeqAt.canLay_of_shaped s1) (room_in_shaped s1 hu) ⟨.bl _, H, I, rfl, q.ret S1 rfl⟩
    · obtain ⟨bs, r2, _⟩ := reify_reads I sm S 60 b _ y u e2 rb ry
      exact SeqAt.notIn_tuple_reads r2 r1 (SeqAt.canLay_of_shaped (shaped_tup s2)) (SeqAt.canLay_of_shaped s1) (room_in_shaped s1 hu) ⟨.bl _, H, I, rfl, q.ret S1 rfl⟩
theorem op_ltM : OpR X (compareOp .Lt) (rC X.K ltV) := by
  intro pins s σ H x y v u Q I rx ry ⟨m, h, a, b, S, ra, rb, w⟩
  cases a with
  | int i =>
    cases b with
    | int j =>
      rw [vr_int' ra] at rx
      rw [vr_int' rb] at ry
      exact op_lt pins s σ H _ _ v u Q I rx ry ⟨i, j, rfl, rfl, w.ret S rfl⟩
    | _ => exact False.elim w
  | str i =>
    cases b with
    | str j =>
      rw [vr_str' ra] at rx
      rw [vr_str' rb] at ry
      exact op_lt_str pins s σ H _ _ v u Q I rx ry ⟨i, j, rfl, rfl, w.ret S rfl⟩
    | _ => exact False.elim w
  | _ => exact False.elim w
theorem op_leM : OpR X (compareOp .LtE) (rC X.K leV) := by
  intro pins s σ H x y v u Q I rx ry ⟨m, h, a, b, S, ra, rb, w⟩
  cases a with
  | int i =>
    cases b with
    | int j =>
      rw [vr_int' ra] at rx
      rw [vr_int' rb] at ry
      exact op_le pins s σ H _ _ v u Q I rx ry ⟨i, j, rfl, rfl, w.ret S rfl⟩
    | _ => exact False.elim w
  | str i =>
    cases b with
    | str j =>
      rw [vr_str' ra] at rx
      rw [vr_str' rb] at ry
      exact op_le_str pins s σ H _ _ v u Q I rx ry ⟨i, j, rfl, rfl, w.ret S rfl⟩
    | _ => exact False.elim w
  | _ => exact False.elim w
theorem op_gtM : OpR X (compareOp .Gt) (rC X.K fun v w => ltV w v) := by
  intro pins s σ H x y v u Q I rx ry ⟨m, h, a, b, S, ra, rb, w⟩
  cases b with
  | int j =>
    cases a with
    | int i =>
      rw [vr_int' ra] at rx
      rw [vr_int' rb] at ry
      exact op_gt pins s σ H _ _ v u Q I rx ry ⟨i, j, rfl, rfl, w.ret S rfl⟩
    | _ => exact False.elim w
  | str j =>
    cases a with
    | str i =>
      rw [vr_str' ra] at rx
      rw [vr_str' rb] at ry
      exact op_gt_str pins s σ H _ _ v u Q I rx ry ⟨i, j, rfl, rfl, w.ret S rfl⟩
    | _ => exact False.elim w
  | _ => cases a <;> exact False.elim w
theorem op_geM : OpR X (compareOp .GtE) (rC X.K fun v w => leV w v) := by
  intro pins s σ H x y v u Q I rx ry ⟨m, h, a, b, S, ra, rb, w⟩
  cases b with
  | int j =>
    cases a with
    | int i =>
      rw [vr_int' ra] at rx
      rw [vr_int' rb] at ry
      exact op_ge pins s σ H _ _ v u Q I rx ry ⟨i, j, rfl, rfl, w.ret S rfl⟩
    | _ => exact False.elim w
  | str j =>
    cases a with
    | str i =>
      rw [vr_str' ra] at rx
      rw [vr_str' rb] at ry
      exact op_ge_str pins s σ H _ _ v u Q I rx ry ⟨i, j, rfl, rfl, w.ret S rfl⟩
    | _ => exact False.elim w
  | _ => cases a <;> exact False.elim w
theorem op_cmpM (sm : SmOk X) (hu : X.A.units + 65 < cLine) (o : Cop) : OpR X (compareOp (aCop o)) (rC X.K (cmpV o)) := by
  cases o with
  | eq => exact op_eqM sm hu
  | ne => exact op_neM sm hu
  | lt => exact op_ltM
  | le => exact op_leM
  | gt => exact op_gtM
  | ge => exact op_geM
  | isin => exact op_inM sm hu
  | notin => exact op_notinM sm hu

/-! ### truth, kinds, items, slices -/
theorem tru_of {K : PySem.W.Frag} {m : List Addr} {h : MH} {H : Hp} {v : MV} {x : V} {Q : Bool → Hp → Prop} (S : Sim K m h H) (r : VR K m H v x) (w : WP K rId (truV v h) m H Q) : ∃ k, TruV K x H k ∧ Q k H := by
  cases v with
  | non =>
    rw [vr_non' r]
    exact ⟨false, rfl, w m H _ Post.refl S rfl⟩
  | bl b =>
    rw [vr_bl' r]
    exact ⟨b, rfl, w m H _ Post.refl S rfl⟩
  | int b =>
    rw [vr_int' r]
    exact ⟨_, rfl, w m H _ Post.refl S rfl⟩
  | str z =>
    rw [vr_str' r]
    simp only [truV] at w
    split at w
    · rename_i hl
      refine ⟨_, ⟨fits_le hl, rfl⟩, ?_⟩
      have e : ((z.length : Int) != 0) = (z.length != 0) := by
        rw [Bool.eq_iff_iff]
        simp
      rw [e]
      exact w m H _ Post.refl S rfl
    · exact False.elim w
  | tup xs =>
    obtain ⟨a, vs, rfl, h1, r1⟩ := vr_tup' r
    refine ⟨!vs.isEmpty, .inr (.inl ⟨vs, h1, rfl⟩), ?_⟩
    have e : vs.isEmpty = xs.isEmpty := by
      have := r1.length
      cases xs <;> cases vs <;> simp_all
    rw [e]
    exact w m H _ Post.refl S rfl
  | ro xs =>
    obtain ⟨a, vs, rfl, h1, r1⟩ := vr_ro' r
    refine ⟨!vs.isEmpty, .inl ⟨vs, h1.sq, rfl⟩, ?_⟩
    have e : vs.isEmpty = xs.isEmpty := by
      have := r1.length
      cases xs <;> cases vs <;> simp_all
    rw [e]
    exact w m H _ Post.refl S rfl
  | ref l =>
    obtain ⟨a, ha, rfl⟩ := vr_ref' r
    simp only [truV] at w
    split at w
    · rename_i xs e1
      obtain ⟨vs, h1, r1⟩ := S.lst ha e1
      refine ⟨!vs.isEmpty, .inl ⟨vs, SqL.of h1, rfl⟩, ?_⟩
      have e : vs.isEmpty = xs.isEmpty := by
        have := r1.length
        cases xs <;> cases vs <;> simp_all
      rw [e]
      exact w m H _ Post.refl S rfl
    · rename_i xs e1
      obtain ⟨vs, h1, r1⟩ := S.dctK ha e1
      refine ⟨!vs.isEmpty, .inr (.inr ⟨vs, h1, rfl⟩), ?_⟩
      have e : vs.isEmpty = xs.isEmpty := by
        have := r1.length
        cases xs <;> cases vs <;> simp_all
      rw [e]
      exact w m H _ Post.refl S rfl
    · exact False.elim w
  | rod _ _ _ => exact False.elim w
  | obj _ _ _ => exact False.elim w
def tyS : Ty → String
  | .int => "int" | .str => "str" | .bool => "bool" | .list => "list" | .tuple => "tuple" | .dict => "dict"
theorem atI_some {α : Type} {xs : List α} {i : Int} {x : α} (h : atI xs i = some x) : ∃ j, ixN xs.length i = some j ∧ xs[j]? = some x := by
  unfold atI at h
  obtain ⟨j, a, b⟩ := Option.bind_eq_some_iff.mp h
  exact ⟨j, a, b⟩
theorem atI_vr {K : PySem.W.Frag} {m : List Addr} {H : Hp} {xs : List MV} {vs : List V} {i : Int} {x : MV} (r : VRs K m H xs vs) (h : atI xs i = some x) : ∃ v, atI vs i = some v ∧ VR K m H x v := by
  obtain ⟨j, a, b⟩ := atI_some h
  obtain ⟨v, e, q⟩ := r.get b
  exact ⟨v, by unfold atI; rw [← r.length, a]; exact e, q⟩
theorem ixL_M : IxR X (rB X.K idxL) := by
  intro value slice pins s σ H x y v u Q I rx ry ⟨m, h, a, b, S, ra, rb, w⟩ hs
  cases b with
  | int i =>
    rw [vr_int' rb] at ry
    cases a with
    | str z =>
      rw [vr_str' ra] at rx
      simp only [idxL] at w
      split at w
      · rename_i hl
        split at w
        · rename_i c e
          exact ix_str value slice pins s σ H _ _ v u Q I rx ry ⟨z, i, c, rfl, rfl, fits_le hl, e, w m H _ Post.refl S (vr_str _)⟩ hs
        · exact False.elim w
      · exact False.elim w
    | tup xs =>
      obtain ⟨a, vs, rfl, h1, r1⟩ := vr_tup' ra
      simp only [idxL, seqOf, Option.bind_some] at w
      split at w
      · rename_i z e
        obtain ⟨vz, e2, q⟩ := atI_vr r1 e
        exact ix_tup value slice pins s σ H _ _ v u Q I rx ry ⟨a, vs, i, vz, rfl, rfl, h1, e2, w m H _ Post.refl S q⟩ hs
      · exact False.elim w
    | ro xs =>
      obtain ⟨a, vs, rfl, h1, r1⟩ := vr_ro' ra
      simp only [idxL, seqOf, Option.bind_some] at w
      split at w
      · rename_i z e
        obtain ⟨vz, e2, q⟩ := atI_vr r1 e
        exact ix_list value slice pins s σ H _ _ v u Q I rx ry ⟨a, vs, i, vz, rfl, rfl, h1.sq, e2, w m H _ Post.refl S q⟩ hs
      · exact False.elim w
    | ref l =>
      obtain ⟨a, ha, rfl⟩ := vr_ref' ra
      simp only [idxL, seqOf] at w
      split at w
      · rename_i z e
        obtain ⟨xs, e1, e3⟩ := Option.bind_eq_some_iff.mp e
        split at e1
        · rename_i ys e4
          cases e1
          obtain ⟨vs, h1, r1⟩ := S.lst ha e4
          obtain ⟨vz, e2, q⟩ := atI_vr r1 e3
          exact ix_list value slice pins s σ H _ _ v u Q I rx ry ⟨a, vs, i, vz, rfl, rfl, SqL.of h1, e2, w m H _ Post.refl S q⟩ hs
        · cases e1
      · exact False.elim w
    | _ => exact False.elim w
  | _ => cases a <;> exact False.elim w
def rDg : R2 := fun x y H Q => ∃ a v, x = .ref a ∧ DGet H a y (some v) ∧ Q v H
theorem ix_dict {X : Cx} (hu : X.A.units + 1 < cLine) : IxR X rDg := by
  intro value slice pins s σ H x y v u Q I rx ry ⟨a, z, ex, g, q⟩ hs
  subst ex
  obtain rfl : v = Value.ref a := rx
  have hT := dict_typeIs I g
  unfold subscriptTail
  refine wpAny_bind ?_
  rw [getitemInPython_of_ne hT.not_modules]
  refine wpAny_bind (wpAny_specialOf hT PySem.F.slot_dict_getitem.lookup ?_)
  have core : wpAny (model X.prog X.w) X.A (subscripted slice false (.ref a) u) (fun r s3 => wpAny (model X.prog X.w) X.A (letTemporaryGo value (.ref a) r >>= fun _ => pure r) (EP X pins σ Q) X.xe s3) X.xe s := by
    rw [hs]
    exact wpAny_operating (d_getItem hu I g ry fun w' s3 J rw' => wpAny_bind (wpAny_letTemporaryGo (wpAny_pure ⟨z, H, J, rw', q⟩)))
  first
    | exact wpAny_pure (wpAny_bind core)
    | exact wpAny_bind (wpAny_pure (wpAny_bind core))
    | exact wpAny_bind core
theorem ix_M {X : Cx} (hu : X.A.units + 1 < cLine) : IxR X (rB X.K idxV) := by
  intro value slice pins s σ H x y v u Q I rx ry ⟨m, h, a, b, S, ra, rb, w⟩ hs
  have core : ∀ {p : Addr} {t : Bool} {kvs : List (MV × MV)}, x = .ref p → DcA X.K m H p t kvs → WP X.K (rV X.K) (dgetK t kvs b h) m H Q → wpAny (model X.prog X.w) X.A (subscriptTail value slice v u) (EP X pins σ Q) X.xe s := by
    intro p t kvs ex A w
    unfold dgetK at w
    split at w
    · rename_i hb
      obtain ⟨o, g, f, _⟩ := dget_of A hb rb
      cases hz : findM b kvs with
      | some z =>
        rw [hz] at w
        obtain ⟨zz, rfl, rz⟩ := f z hz
        exact ix_dict hu value slice pins s σ H _ _ v u Q I rx ry ⟨_, zz, ex, g, WP.ret (a := z) w S rz⟩ hs
      | none =>
        rw [hz] at w
        exact False.elim w
    · exact False.elim w
  unfold idxV at w
  split at w
  · rename_i l
    split at w
    · rename_i ww kvs e
      obtain ⟨p, ex, A⟩ := dcA_ref S ra e
      exact core ex A w
    · exact ixL_M value slice pins s σ H _ _ v u Q I rx ry ⟨m, h, _, b, S, ra, rb, w⟩ hs
  · obtain ⟨p, ex, A⟩ := dcA_rod ra
    exact core ex A w
  · exact ixL_M value slice pins s σ H _ _ v u Q I rx ry ⟨m, h, _, b, S, ra, rb, w⟩ hs
def rS (K : PySem.W.Frag) : V → Option Int → Option Int → Hp → VK → Prop := fun x lo hi H Q => ∃ m h v, Sim K m h H ∧ VR K m H v x ∧ WP K (rV K) (slcV v lo hi h) m H Q
theorem sl_M : SlR X (rS X.K) := by
  intro pins s σ H x v vl vu lo hi sl Q I rx e1 e2 e3 ⟨m, h, a, S, ra, w⟩
  cases a with
  | ref l =>
    obtain ⟨a, ha, rfl⟩ := vr_ref' ra
    simp only [slcV] at w
    split at w
    · rename_i xs e4
      obtain ⟨vs, h1, r1⟩ := S.lst ha e4
      exact sl_list pins s σ H _ v vl vu lo hi sl Q I rx e1 e2 e3 ⟨a, vs, rfl, SqL.of h1, wp_lst w S (r1.cut lo hi)⟩
    · exact False.elim w
  | tup xs =>
    obtain ⟨a, vs, rfl, h1, r1⟩ := vr_tup' ra
    refine sl_tupA pins s σ H _ v vl vu lo hi sl Q I rx e1 e2 e3 ⟨a, vs, rfl, h1, fun hw => ?_, fun _ => wp_tup w S (r1.cut lo hi)⟩
    have e : cutM xs lo hi = xs := by
      unfold cutM
      rw [r1.length, hw.1, hw.2, List.drop_zero, Nat.sub_zero, ← r1.length, List.take_length]
    have w : WP X.K (rV X.K) (M.ret (MV.tup (cutM xs lo hi)) h) m H Q := w
    rw [e] at w
    exact w.ret S ra
  | ro xs =>
    obtain ⟨a, vs, rfl, h1, r1⟩ := vr_ro' ra
    exact sl_list pins s σ H _ v vl vu lo hi sl Q I rx e1 e2 e3 ⟨a, vs, rfl, h1.sq, wp_lst w S (r1.cut lo hi)⟩
  | _ => exact False.elim w
end
end MP
/-! MP: built-in calls, methods, stores, kinds. -/
namespace MP
open PySem PySem.Spec PyProof.Rows L2
section
variable {X : Cx} {K : PySem.W.Frag} {m : List Addr} {h : MH} {H : Hp}
/-- the built-in's value -/
def biF : Bi → Value
  | .abs => .builtin "abs" | .max => .builtin "max" | .min => .builtin "min" | .len => .builtin "len" | .divmod => .builtin "divmod" | .all => .builtin "all" | .any => .builtin "any" | .repr => .builtin "repr"
  | .sum => .builtin "sum" | .sorted => .builtin "sorted" | .int => .type "int" | .list => .type "list" | .tuple => .type "tuple" | .maxL => .builtin "max" | .dict => .type "dict"
theorem vrs_ints : ∀ {xs : List MV} {is : List Int} {vs : List V}, allInts xs = some is → VRs K m H xs vs → vs = is.map V.int
  | [], is, vs, e, r => by
    cases e
    exact vrs_nil' r
  | x :: xs, is, vs, e, r => by
    obtain ⟨v, t, rfl, q, rr⟩ := vrs_cons' r
    cases x with
    | int i =>
      obtain ⟨js, e1, rfl⟩ := Option.map_eq_some_iff.mp (show (allInts xs).map (i :: ·) = some is from e)
      rw [vr_int' q, vrs_ints e1 rr]
      rfl
    | _ => cases e
theorem vrs_bls : ∀ {xs : List MV} {is : List Bool} {vs : List V}, allBls xs = some is → VRs K m H xs vs → vs = is.map V.bl
  | [], is, vs, e, r => by
    cases e
    exact vrs_nil' r
  | x :: xs, is, vs, e, r => by
    obtain ⟨v, t, rfl, q, rr⟩ := vrs_cons' r
    cases x with
    | bl i =>
      obtain ⟨js, e1, rfl⟩ := Option.map_eq_some_iff.mp (show (allBls xs).map (i :: ·) = some is from e)
      rw [vr_bl' q, vrs_bls e1 rr]
      rfl
    | _ => cases e
theorem vrs_strs : ∀ {xs : List MV} {is : List Str} {vs : List V}, allStrs xs = some is → VRs K m H xs vs → vs = is.map V.str
  | [], is, vs, e, r => by
    cases e
    exact vrs_nil' r
  | x :: xs, is, vs, e, r => by
    obtain ⟨v, t, rfl, q, rr⟩ := vrs_cons' r
    cases x with
    | str i =>
      obtain ⟨js, e1, rfl⟩ := Option.map_eq_some_iff.mp (show (allStrs xs).map (i :: ·) = some is from e)
      rw [vr_str' q, vrs_strs e1 rr]
      rfl
    | _ => cases e
/-- a list's items -/
theorem wp_lstOf {α β : Type} {R : List Addr → Hp → α → β → Prop} {f : List MV → M α} {v : MV} {x : V} {Q : β → Hp → Prop} (S : Sim K m h H) (r : VR K m H v x) (w : WP K R ((lstOf v).bnd f h) m H Q) :
    ∃ a xs vs, x = .ref a ∧ LsA K H a vs ∧ VRs K m H xs vs ∧ WP K R (f xs h) m H Q := by
  unfold M.bnd lstOf at w
  cases e : lstO h v with
  | none => rw [e] at w; exact False.elim w
  | some xs =>
    rw [e] at w
    obtain ⟨a, vs, rfl, r1, q⟩ := lstO_some S r e
    exact ⟨a, xs, vs, rfl, q, r1, w⟩
theorem wp_opt {α β γ : Type} {R : List Addr → Hp → α → β → Prop} {o : Option γ} {f : γ → M α} {Q : β → Hp → Prop} (w : WP K R ((M.opt o).bnd f h) m H Q) : ∃ x, o = some x ∧ WP K R (f x h) m H Q := by
  cases o with
  | none => exact False.elim w
  | some x => exact ⟨x, rfl, w⟩
theorem wp_chk {α β : Type} {R : List Addr → Hp → α → β → Prop} {b : Bool} {f : Unit → M α} {Q : β → Hp → Prop} (w : WP K R ((M.chk b).bnd f h) m H Q) : b = true ∧ WP K R (f () h) m H Q := by
  cases b with
  | false => exact False.elim w
  | true => exact ⟨rfl, w⟩
theorem seqOf_some {v : MV} {x : V} {xs : List MV} (S : Sim K m h H) (r : VR K m H v x) (e : seqOf h v = some xs) : ∃ a vs, x = .ref a ∧ VRs K m H xs vs ∧ ((∃ ys, v = .tup ys ∧ SqT K H a vs) ∨ SqL K H a vs) := by
  cases v with
  | tup ys =>
    obtain ⟨a, vs, rfl, h1, r1⟩ := vr_tup' r
    cases e
    exact ⟨a, vs, rfl, r1, .inl ⟨_, rfl, h1⟩⟩
  | ro ys =>
    obtain ⟨a, vs, rfl, h1, r1⟩ := vr_ro' r
    cases e
    exact ⟨a, vs, rfl, r1, .inr h1.sq⟩
  | ref l =>
    obtain ⟨a, ha, rfl⟩ := vr_ref' r
    simp only [seqOf] at e
    split at e
    · rename_i ys e1
      cases e
      obtain ⟨vs, h1, r1⟩ := S.lst ha e1
      exact ⟨a, vs, rfl, r1, .inr (SqL.of h1)⟩
    · cases e
  | _ => cases e
theorem cr_abs : CallR X (.builtin "abs") (rF X.K (biV .abs)) := by
  intro pins s σ H xs us Q I r ⟨m, h, vs, S, rv, w⟩
  replace w : WP X.K (rV X.K) (absV vs h) m H Q := w
  unfold absV at w
  split at w
  · rename_i i
    obtain ⟨y, rfl, q⟩ := vrs1 rv
    rw [vr_int' q] at r
    exact call_abs pins s σ H _ us Q I r ⟨i, rfl, w.ret S (vr_int _)⟩
  · exact False.elim w
theorem cr_max (hc : X.calm = true) : CallR X (.builtin "max") (rF X.K (biV .max)) := by
  intro pins s σ H xs us Q I r ⟨m, h, vs, S, rv, w⟩
  replace w : WP X.K (rV X.K) (maxV vs h) m H Q := w
  unfold maxV at w
  split at w
  · rename_i i j
    obtain ⟨y, z, rfl, q, q'⟩ := vrs2 rv
    rw [vr_int' q, vr_int' q'] at r
    exact call_max2 hc pins s σ H _ us Q I r ⟨i, j, rfl, w.ret S (vr_int _)⟩
  · exact False.elim w
theorem cr_min (hc : X.calm = true) : CallR X (.builtin "min") (rF X.K (biV .min)) := by
  intro pins s σ H xs us Q I r ⟨m, h, vs, S, rv, w⟩
  replace w : WP X.K (rV X.K) (minV vs h) m H Q := w
  unfold minV at w
  split at w
  · rename_i i j
    obtain ⟨y, z, rfl, q, q'⟩ := vrs2 rv
    rw [vr_int' q, vr_int' q'] at r
    exact call_min2 hc pins s σ H _ us Q I r ⟨i, j, rfl, w.ret S (vr_int _)⟩
  · exact False.elim w
theorem cr_int : CallR X (.type "int") (rF X.K (biV .int)) := by
  intro pins s σ H xs us Q I r ⟨m, h, vs, S, rv, w⟩
  replace w : WP X.K (rV X.K) (intV vs h) m H Q := w
  unfold intV at w
  split at w
  · rename_i i
    obtain ⟨y, rfl, q⟩ := vrs1 rv
    rw [vr_int' q] at r
    exact call_int1 pins s σ H _ us Q I r (.inl ⟨i, rfl, w.ret S (vr_int _)⟩)
  · rename_i i
    obtain ⟨y, rfl, q⟩ := vrs1 rv
    rw [vr_bl' q] at r
    exact call_int1 pins s σ H _ us Q I r (.inr ⟨i, rfl, w.ret S (vr_int _)⟩)
  · exact False.elim w
theorem call_lenF : CallR X (.builtin "len") (fun xs H Q => ∃ a o kvs, xs = [V.ref a] ∧ H a = some (.frz o (.dK kvs)) ∧ Q (.int kvs.length) H) := by
  intro pins s σ H xs us Q I r h
  obtain ⟨a, o, kvs, rfl, ha, q⟩ := h
  obtain ⟨u, rfl, ru⟩ := vals1 r
  cases ru
  exact d_len I (.inr ⟨o, ha⟩) fun t s' I' => ⟨.int kvs.length, H, I', ⟨t, rfl⟩, q⟩
theorem cr_len : CallR X (.builtin "len") (rF X.K (biV .len)) := by
  intro pins s σ H xs us Q I r ⟨m, h, vs, S, rv, w⟩
  replace w : WP X.K (rV X.K) (len1V vs h) m H Q := w
  unfold len1V at w
  split at w
  · rename_i v
    obtain ⟨y, rfl, q⟩ := vrs1 rv
    skip
    cases v with
    | str z =>
      rw [vr_str' q] at r
      simp only [lenV] at w
      split at w
      · rename_i hl
        exact call_len pins s σ H _ us Q I r ⟨_, _, rfl, ⟨fits_le hl, rfl⟩, w m H _ Post.refl S (vr_int _)⟩
      · exact False.elim w
    | tup xs =>
      obtain ⟨a, vs, rfl, h1, r1⟩ := vr_tup' q
      refine call_len_seq pins s σ H _ us Q I r ⟨a, vs, rfl, .inr h1, ?_⟩
      rw [← r1.length]
      exact w m H _ Post.refl S (vr_int _)
    | ro xs =>
      obtain ⟨a, vs, rfl, h1, r1⟩ := vr_ro' q
      refine call_len_seq pins s σ H _ us Q I r ⟨a, vs, rfl, .inl h1.sq, ?_⟩
      rw [← r1.length]
      exact w m H _ Post.refl S (vr_int _)
    | ref l =>
      obtain ⟨a, ha, rfl⟩ := vr_ref' q
      simp only [lenV] at w
      split at w
      · rename_i xs e1
        obtain ⟨vs, h1, r1⟩ := S.lst ha e1
        refine call_len_seq pins s σ H _ us Q I r ⟨a, vs, rfl, .inl (SqL.of h1), ?_⟩
        rw [← r1.length]
        exact w m H _ Post.refl S (vr_int _)
      · rename_i xs e1
        obtain ⟨vs, h1, r1⟩ := S.dctK ha e1
        refine call_lenD pins s σ H _ us Q I r ⟨a, vs, rfl, h1, ?_⟩
        rw [← r1.length]
        exact w m H _ Post.refl S (vr_int _)
      · exact False.elim w
    | rod t ks ys =>
      cases t with
      | true => exact False.elim w
      | false =>
        obtain ⟨a, u, ws, rfl, ⟨o, q'⟩, d, rr⟩ := vr_rod' q
        rcases d with ⟨_, kk, rfl, hk, hl⟩ | ⟨z, _⟩
        · refine call_lenF pins s σ H _ us Q I r ⟨a, o, _, rfl, q', ?_⟩
          rw [zip_len' hl, ← (mapO_some hk).1]
          exact w m H _ Post.refl S (vr_int _)
        · cases z
    | _ => exact False.elim w
  · exact False.elim w
theorem cr_divmod : CallR X (.builtin "divmod") (rF X.K (biV .divmod)) := by
  intro pins s σ H xs us Q I r ⟨m, h, vs, S, rv, w⟩
  replace w : WP X.K (rV X.K) (divmodV vs h) m H Q := w
  unfold divmodV at w
  split at w
  · rename_i i j
    obtain ⟨y, z, rfl, q, q'⟩ := vrs2 rv
    rw [vr_int' q, vr_int' q'] at r
    replace w : WP X.K (rV X.K) ((if okDiv j then M.ret (.tup [.int (i / j), .int (i % j)]) else M.stk) h) m H Q := w
    split at w
    · rename_i hl
      refine call_divmod pins s σ H _ us Q I r ⟨i, j, rfl, okDiv_of hl, wp_tup w S ?_⟩
      unfold VRs
      exact ⟨_, _, rfl, vr_int _, VRs.one (vr_int _)⟩
    · exact False.elim w
  · exact False.elim w
theorem cr_allM (hc : X.calm = true) : CallR X (.builtin "all") (rF X.K (biV .all)) := by
  intro pins s σ H xs us Q I r ⟨m, h, vs, S, rv, w⟩
  replace w : WP X.K (rV X.K) (allV vs h) m H Q := w
  unfold allV at w
  split at w
  · rename_i v
    obtain ⟨y, rfl, q⟩ := vrs1 rv
    obtain ⟨a, ys, zs, rfl, h1, r1, w⟩ := wp_lstOf S q w
    obtain ⟨bs, e, w⟩ := wp_opt w
    rw [vrs_bls e r1] at h1
    exact cr_all hc pins s σ H _ us Q I r ⟨a, bs, rfl, h1.sq, w.ret S (vr_bl _)⟩
  · exact False.elim w
theorem cr_anyM (hc : X.calm = true) : CallR X (.builtin "any") (rF X.K (biV .any)) := by
  intro pins s σ H xs us Q I r ⟨m, h, vs, S, rv, w⟩
  replace w : WP X.K (rV X.K) (anyV vs h) m H Q := w
  unfold anyV at w
  split at w
  · rename_i v
    obtain ⟨y, rfl, q⟩ := vrs1 rv
    obtain ⟨a, ys, zs, rfl, h1, r1, w⟩ := wp_lstOf S q w
    obtain ⟨bs, e, w⟩ := wp_opt w
    rw [vrs_bls e r1] at h1
    exact cr_any hc pins s σ H _ us Q I r ⟨a, bs, rfl, h1.sq, w.ret S (vr_bl _)⟩
  · exact False.elim w
theorem cr_sumM (hc : X.calm = true) : CallR X (.builtin "sum") (rF X.K (biV .sum)) := by
  intro pins s σ H xs us Q I r ⟨m, h, vs, S, rv, w⟩
  replace w : WP X.K (rV X.K) (sumV vs h) m H Q := w
  unfold sumV at w
  split at w
  · rename_i v
    obtain ⟨y, rfl, q⟩ := vrs1 rv
    obtain ⟨a, ys, zs, rfl, h1, r1, w⟩ := wp_lstOf S q w
    obtain ⟨bs, e, w⟩ := wp_opt w
    rw [vrs_ints e r1] at h1
    exact cr_sum hc pins s σ H _ us Q I r ⟨a, bs, rfl, h1.sq, w.ret S (vr_int _)⟩
  · exact False.elim w
theorem vr_key {x : MV} {k : Key} (e : keyM x = some k) : VR K m H x (kV k) := by
  cases x <;> first | cases e | skip
  · exact vr_int _
  · exact vr_str _
theorem vrs_keys : ∀ {xs : List MV} {ks : List Key}, mapO keyM xs = some ks → VRs K m H xs (ks.map kV)
  | [], ks, e => by cases e; show VRs K m H [] []; unfold VRs; rfl
  | x :: r, ks, e => by
    unfold mapO at e
    split at e
    · rename_i k ks' h1 h2
      cases e
      show VRs K m H (x :: r) (kV k :: ks'.map kV)
      unfold VRs
      exact ⟨_, _, rfl, vr_key h1, vrs_keys h2⟩
    · cases e
/-- list(d), d a locked dict by texts and ints -/
theorem call_list_frz (hc : X.calm = true) : CallR X (.type "list") (fun xs H Q => ∃ p o kvs, xs = [.ref p] ∧ H p = some (.frz o (.dK kvs)) ∧ ∀ q, H q = none → Q (.ref q) (upd H q (.lst (kvs.map fun kv => kV kv.1)))) := by
  intro pins s σ H xs us Q I r h
  obtain ⟨p, o, kvs, e, hk, q⟩ := h
  subst e
  obtain ⟨u, eu, rx⟩ := vals1 r
  subst eu
  obtain rfl : u = Value.ref p := rx
  obtain ⟨_, z, _⟩ := I.hok p _ hk
  obtain ⟨lo, _, _, es, ep, vs, _, _, rk, hat⟩ := I.frzK hk
  have hl : kvs.length = vs.length := Paired.length rk
  refine PySem.W.kdl_call (PySem.W.kdl_dict (knd := mixKind X.prog X.w) (kvs := vs) (ep := ep) lo) (I.ok.hd hc) hat (by rw [← hl]; exact z) fun h' tk acc' c' hkeep hS hacc => ?_
  refine ⟨.ref s.heap.objs.size, upd H s.heap.objs.size (.lst (kvs.map fun kv => kV kv.1)), I.laid hkeep (Nat.le_refl _) (show ObjOk X.prog X.w _ _ _ (.lst (kvs.map fun kv => kV kv.1)) from ⟨?_, acc'.toList, c', ?_, ?_⟩), rfl, q _ (I.hok.fresh (Nat.le_refl _))⟩
  · rw [List.length_map]; exact z
  · have el : acc'.toList.length = acc'.size := by simp
    refine vals_of_at (by rw [List.length_map, el, hacc.1, hl]) fun j x w h1 h2 => ?_
    obtain ⟨k, y, hky, hi⟩ := hacc.2 j w (by rw [← Array.getElem?_toList]; exact h2)
    have e1 : (kvs.map (·.1))[j]? = some k := by
      rw [KV.keys rk, List.getElem?_map, hky] <;> rfl
    have e2 : (kvs.map fun kv => kV kv.1)[j]? = some (kV k) := by
      have e3 : (kvs.map fun kv => kV kv.1) = (kvs.map (·.1)).map kV := by rw [List.map_map] <;> rfl
      rw [e3, List.getElem?_map, e1] <;> rfl
    rw [e2] at h1
    cases h1
    exact keyIs_rel hi
  · rw [Array.toArray_toList]; exact hS
theorem cr_list (hc : X.calm = true) : CallR X (.type "list") (rF X.K (biV .list)) := by
  intro pins s σ H xs us Q I r ⟨m, h, vs, S, rv, w⟩
  replace w : WP X.K (rV X.K) (listV vs h) m H Q := w
  unfold listV at w
  split at w
  · rename_i v
    obtain ⟨y, rfl, q⟩ := vrs1 rv
    unfold list1V at w
    split at w
    · rename_i ks ys
      obtain ⟨a, u, ws, rfl, ⟨o, q'⟩, d, rr⟩ := vr_rod' q
      rcases d with ⟨_, kk, rfl, hk, hl⟩ | ⟨z, _⟩
      · refine call_list_frz hc pins s σ H _ us Q I r ⟨a, o, _, rfl, q', ?_⟩
        have e2 : ((kk.zip ws).map fun kv => kV kv.1) = kk.map kV := by
          show List.map (kV ∘ Prod.fst) _ = _
          rw [← List.map_map, List.map_fst_zip (by omega)]
        rw [e2]
        exact wp_lst w S (vrs_keys hk)
      · cases z
    replace w : WP X.K (rV X.K) (match seqOf h v with
      | some xs => M.alloc (.lst xs) h
      | none => .stuck) m H Q := w
    split at w
    · rename_i ys e
      obtain ⟨a, vs, rfl, r1, hq⟩ := seqOf_some S q e
      refine call_list_of pins s σ H _ us Q I r ⟨a, vs, rfl, ?_, wp_lst w S r1⟩
      rcases hq with ⟨_, _, hq⟩ | hq
      · exact .inr hq
      · exact .inl hq
    · exact False.elim w
  · exact False.elim w
theorem cr_tuple : CallR X (.type "tuple") (rF X.K (biV .tuple)) := by
  intro pins s σ H xs us Q I r ⟨m, h, vs, S, rv, w⟩
  replace w : WP X.K (rV X.K) (tupleV vs h) m H Q := w
  unfold tupleV at w
  split at w
  · rename_i v
    obtain ⟨y, rfl, q⟩ := vrs1 rv
    replace w : WP X.K (rV X.K) (match seqOf h v with
      | some xs => .ok (.tup xs) h
      | none => .stuck) m H Q := w
    split at w
    · rename_i ys e
      obtain ⟨a, vs, rfl, r1, hq⟩ := seqOf_some S q e
      have w : WP X.K (rV X.K) (M.ret (MV.tup ys) h) m H Q := w
      refine call_tuple_of pins s σ H _ us Q I r ⟨a, vs, rfl, ?_⟩
      rcases hq with ⟨zs, rfl, hq⟩ | hq
      · cases e
        exact .inr ⟨hq, w.ret S q⟩
      · exact .inl ⟨hq, wp_tup w S r1⟩
    · exact False.elim w
  · exact False.elim w

theorem cr_repr (hg : X.A.guards = some []) (sm : SmOk X) (hu : X.A.units + 65 < cLine) : CallR X (.builtin "repr") (rF X.K (biV .repr)) := by
  intro pins s σ H xs us Q I r ⟨m, h, vs, S, rv, w⟩
  replace w : WP X.K (rV X.K) (repr1V vs h) m H Q := w
  unfold repr1V at w
  split at w
  · rename_i v
    obtain ⟨y, rfl, q⟩ := vrs1 rv
    obtain ⟨u, rfl, ru⟩ := vals1 r
    replace w : WP X.K (rV X.K) (reprV v h) m H Q := w
    unfold reprV at w
    split at w
    · rename_i d e
      split at w
      · rename_i hs
        have hs := Bool.and_eq_true_iff.mp hs
        have hs1 := Bool.and_eq_true_iff.mp hs.1
        have hd : d.depth ≤ 62 := of_decide_eq_true hs1.1
        have hz := fits_le hs.2
        obtain ⟨as, rd, ns⟩ := reify_reads I sm S 60 v d y u e q ru
        have fin : ∀ s', Inv X pins σ H s' → EP X pins σ Q (.str d.shown s'.toks) s' := fun s' I' => ⟨.str _, H, I', ⟨_, rfl⟩, w m H _ Post.refl S (vr_str _)⟩
        cases rd with
        | none =>
          exact PySem.P.repr_of_none (by
            have := w m H _ Post.refl S (vr_str _)
            exact ⟨.str _, H, I.tok _, ⟨_, rfl⟩, this⟩)
        | bool b =>
          exact PySem.P.repr_of_bool (by
            have := w m H _ Post.refl S (vr_str _)
            exact ⟨.str _, H, I.tok _, ⟨_, rfl⟩, this⟩)
        | int i t =>
          exact PySem.P.repr_of_int (by simpa [PyData.showable] using hs1.2) (by
            have := w m H _ Post.refl S (vr_str _)
            exact ⟨.str _, H, I.tok _, ⟨_, rfl⟩, this⟩)
        | str z t =>
          exact PySem.P.repr_of_str (by
            have := w m H _ Post.refl S (vr_str _)
            exact ⟨.str _, H, I.tok _, ⟨_, rfl⟩, this⟩) hz
        | list h1 h2 h3 h4 =>
          exact repr_of_reads' (.list h1 h2 h3 h4) hs1.2 (fun _ => ns) hg (by omega) (fun _ _ e => e) (fun h' u tk hk => ⟨.str _, H, I.kept hk, ⟨_, rfl⟩, w m H _ Post.refl S (vr_str _)⟩) hz
        | tuple h1 h2 h3 h4 =>
          exact repr_of_reads' (.tuple h1 h2 h3 h4) hs1.2 (fun _ => ns) hg (by omega) (fun _ _ e => e) (fun h' u tk hk => ⟨.str _, H, I.kept hk, ⟨_, rfl⟩, w m H _ Post.refl S (vr_str _)⟩) hz
        | dict h1 h2 h3 h4 h5 =>
          exact repr_of_reads' (.dict h1 h2 h3 h4 h5) hs1.2 (fun _ => ns) hg (by omega) (fun _ _ e => e) (fun h' u tk hk => ⟨.str _, H, I.kept hk, ⟨_, rfl⟩, w m H _ Post.refl S (vr_str _)⟩) hz
      · exact False.elim w
    · exact False.elim w
  · exact False.elim w
theorem foldl_mem : ∀ (r : List Int) (i : Int), r.foldl (fun a b => if b > a then b else a) i ∈ i :: r ∧ ∀ y ∈ i :: r, y ≤ r.foldl (fun a b => if b > a then b else a) i
  | [], i => ⟨List.mem_cons_self, fun y hy => by rw [List.mem_singleton.mp hy]; exact Int.le_refl _⟩
  | j :: r, i => by
    obtain ⟨h1, h2⟩ := foldl_mem r (if j > i then j else i)
    have e : (j :: r).foldl (fun a b => if b > a then b else a) i = r.foldl (fun a b => if b > a then b else a) (if j > i then j else i) := rfl
    rw [e]
    refine ⟨?_, fun y hy => ?_⟩
    · rcases List.mem_cons.mp h1 with z | z
      · rw [z]
        split
        · exact List.mem_cons_of_mem _ List.mem_cons_self
        · exact List.mem_cons_self
      · exact List.mem_cons_of_mem _ (List.mem_cons_of_mem _ z)
    · have h3 := h2 _ List.mem_cons_self
      rcases List.mem_cons.mp hy with z | z
      · subst z
        exact Int.le_trans (by split <;> omega) h3
      · rcases List.mem_cons.mp z with z | z
        · subst z
          exact Int.le_trans (by split <;> omega) h3
        · exact h2 y (List.mem_cons_of_mem _ z)
theorem cr_maxM (hc : X.calm = true) : CallR X (.builtin "max") (rF X.K (biV .maxL)) := by
  intro pins s σ H xs us Q I r ⟨m, h, vs, S, rv, w⟩
  replace w : WP X.K (rV X.K) (maxLV vs h) m H Q := w
  unfold maxLV at w
  split at w
  · rename_i v
    obtain ⟨y, rfl, q⟩ := vrs1 rv
    obtain ⟨a, ys, zs, rfl, h1, r1, w⟩ := wp_lstOf S q w
    obtain ⟨is, e, w⟩ := wp_opt w
    rw [vrs_ints e r1] at h1
    cases is with
    | nil => exact False.elim w
    | cons i rr =>
      obtain ⟨m1, m2⟩ := foldl_mem rr i
      refine L2.cr_max hc pins s σ H _ us Q I r ⟨a, i :: rr, rfl, h1.sq, by simp, fun M hM hy => ?_⟩
      have e2 : M = rr.foldl (fun a b => if b > a then b else a) i := by
        have z1 := m2 M hM
        have z2 := hy _ m1
        omega
      rw [e2]
      exact WP.ret (a := MV.int _) w S (vr_int _)
  · exact False.elim w
theorem leS_iff {a b : Str} : leS a b = true ↔ a.cps.toList ≤ b.cps.toList := by
  unfold leS
  rw [Bool.not_eq_true', decide_eq_false_iff_not]
  exact List.not_lt
theorem leS_trans {a b c : Str} (h1 : leS a b = true) (h2 : leS b c = true) : leS a c = true := leS_iff.mpr (List.le_trans (leS_iff.mp h1) (leS_iff.mp h2))
theorem leS_total (a b : Str) : (leS a b || leS b a) = true := by
  rw [Bool.or_eq_true_iff, leS_iff, leS_iff]
  exact List.le_total _ _
theorem leS_anti {a b : Str} (h1 : leS a b = true) (h2 : leS b a = true) : a = b := by
  have e := List.le_antisymm (leS_iff.mp h1) (leS_iff.mp h2)
  obtain ⟨⟨x⟩⟩ := a
  obtain ⟨⟨y⟩⟩ := b
  cases e
  rfl
theorem rising_all : ∀ (r : List Str) (p : Str), PyProof.Rows.risingS p r = true → ∀ x ∈ r, leS p x = true
  | [], _, _ => fun _ z => nomatch z
  | y :: r, p, h => fun x hx => by
    have h : (!ltCps y.cps.toList p.cps.toList && PyProof.Rows.risingS y r) = true := h
    rw [Bool.and_eq_true_iff] at h
    have e : leS p y = true := by
      unfold leS
      rw [← ltCps_eq]
      exact h.1
    rcases List.mem_cons.mp hx with z | z
    · rw [z]; exact e
    · exact leS_trans e (rising_all r y h.2 x z)
theorem rising_pw : ∀ (r : List Str) (p : Str), PyProof.Rows.risingS p r = true → (p :: r).Pairwise (fun a b => leS a b = true)
  | [], p, _ => List.pairwise_singleton _ _
  | y :: r, p, h => by
    refine List.pairwise_cons.mpr ⟨rising_all _ _ h, ?_⟩
    have h : (!ltCps y.cps.toList p.cps.toList && PyProof.Rows.risingS y r) = true := h
    exact rising_pw r y (Bool.and_eq_true_iff.mp h).2
theorem sortedS_pw {l : List Str} (h : PyProof.Rows.sortedS l = true) : l.Pairwise (fun a b => leS a b = true) := by
  cases l with
  | nil => exact List.Pairwise.nil
  | cons x r => exact rising_pw r x h
theorem sortS_perm (l : List Str) : (sortS l).Perm l := List.mergeSort_perm _ _
theorem sortS_pw (l : List Str) : (sortS l).Pairwise (fun a b => leS a b = true) := List.pairwise_mergeSort (le := leS) (fun _ _ _ h1 h2 => leS_trans h1 h2) (fun a b => leS_total a b) l
theorem sortS_uniq {l r : List Str} (p : r.Perm l) (s : r.Pairwise (fun a b => leS a b = true)) : r = sortS l :=
  List.Perm.eq_of_pairwise (fun _ _ _ _ => leS_anti) s (sortS_pw l) (p.trans (sortS_perm l).symm)
theorem keys_strs : ∀ {ks : List MV} {kk : List Key} {zs : List Str}, mapO keyM ks = some kk → allStrs ks = some zs → kk = zs.map Sum.inr
  | [], kk, zs, e, h => by cases e; cases h; rfl
  | x :: r, kk, zs, e, h => by
    cases x with
    | str z =>
      obtain ⟨js, e1, rfl⟩ := Option.map_eq_some_iff.mp (show (allStrs r).map (z :: ·) = some zs from h)
      unfold mapO at e
      split at e
      · rename_i q qs h1 h2
        cases e
        cases h1
        rw [keys_strs h2 e1]
        rfl
      · cases e
    | _ => cases h
theorem vrs_of_strs {K : PySem.W.Frag} {m : List Addr} {H : Hp} : ∀ zs : List Str, VRs K m H (zs.map MV.str) (zs.map V.str)
  | [] => by show VRs K m H [] []; unfold VRs; rfl
  | i :: r => by
    show VRs K m H (.str i :: r.map MV.str) (.str i :: r.map V.str)
    unfold VRs
    exact ⟨_, _, rfl, vr_str i, vrs_of_strs r⟩
theorem cr_sortedM (hc : X.calm = true) : CallR X (.builtin "sorted") (rF X.K (biV .sorted)) := by
  intro pins s σ H xs us Q I r ⟨m, h, vs, S, rv, w⟩
  replace w : WP X.K (rV X.K) (sortedV vs h) m H Q := w
  unfold sortedV at w
  split at w
  · rename_i v
    obtain ⟨y, rfl, q⟩ := vrs1 rv
    replace w : WP X.K (rV X.K) (match strsOf h v with
      | some xs => if decide (xs.length < 64) then M.alloc (.lst ((sortS xs).map .str)) h else .stuck
      | none => .stuck) m H Q := w
    split at w
    · rename_i zs e
      split at w
      · rename_i h64
        have h64 : zs.length < 64 := of_decide_eq_true h64
        have fin : ∀ (ys : List Str) (p : Addr), ys.Perm zs → PyProof.Rows.sortedS ys = true → H p = none → Q (.ref p) (upd H p (.lst (ys.map V.str))) := fun ys p hp hs hn => by
          rw [sortS_uniq hp (sortedS_pw hs)]
          exact wp_lst w S (vrs_of_strs _) p hn
        have lcase : ∀ v, VR X.K m H v y → (lstO h v).bind allStrs = some zs → wpAny (model X.prog X.w) X.A (call (.builtin "sorted") us) (EP X pins σ Q) X.xe s := fun v q e => by
          obtain ⟨ws, e1, e2⟩ := Option.bind_eq_some_iff.mp e
          obtain ⟨a, ps, rfl, r1, q1⟩ := lstO_some S q e1
          rw [vrs_strs e2 r1] at q1
          exact cr_sortedS pins s σ H _ us Q I r ⟨a, zs, rfl, q1.sq, h64, fin⟩
        cases v with
        | rod t ks ws =>
          cases t with
          | false =>
            have e : allStrs ks = some zs := e
            obtain ⟨a, u, ps, rfl, ⟨o, q1⟩, d, rr⟩ := vr_rod' q
            rcases d with ⟨_, kk, rfl, hk, hl⟩ | ⟨z, _⟩
            · refine call_sortedD hc pins s σ H _ us Q I r ⟨a, _, zs, rfl, .inr ⟨o, q1⟩, ?_, h64, fin⟩
              rw [List.map_fst_zip (by omega), keys_strs hk e]
            · cases z
          | true => exact lcase _ q e
        | _ => exact lcase _ q e
      · exact False.elim w
    · exact False.elim w
  · exact False.elim w
theorem pairs_vr {K : PySem.W.Frag} {m : List Addr} {H : Hp} : ∀ {xs : List MV} {ps : List (MV × MV)} {vs : List V}, mapO pairOf xs = some ps → VRs K m H xs vs → ∃ (as : List Addr) (kvs : List (Key × V)), vs = as.map V.ref ∧ Paired (fun p kv => SqT K H p [kV kv.1, kv.2]) as kvs ∧ KR K m H ps kvs
  | [], ps, vs, e, r => by
    cases e
    rw [vrs_nil' r]
    exact ⟨[], [], rfl, .nil, rfl⟩
  | x :: xs, ps, vs, e, r => by
    obtain ⟨v, t, rfl, q, rr⟩ := vrs_cons' r
    unfold mapO at e
    split at e
    · rename_i p qs h1 h2
      cases e
      obtain ⟨as, kvs, rfl, pr, kr⟩ := pairs_vr h2 rr
      unfold pairOf at h1
      split at h1
      · rename_i k y
        split at h1
        · rename_i hb
          cases h1
          obtain ⟨a, us, rfl, hq, r2⟩ := vr_tupH q
          obtain ⟨k', y', rfl, rk, ry⟩ := vrs2 r2
          obtain ⟨kk, e1, rfl⟩ := key_of_vr hb rk
          exact ⟨a :: as, (kk, y') :: kvs, rfl, .cons (.inl (.inl hq)) pr, kk, y', kvs, rfl, e1, ry, kr⟩
        · cases h1
      · cases h1
    · cases e
theorem merge_rel {K : PySem.W.Frag} {m : List Addr} {H : Hp} : ∀ {ps : List (MV × MV)} {kvs : List (Key × V)} {ds : List (MV × MV)} {es : List (Key × V)}, KR K m H ps kvs → KR K m H ds es → KR K m H (ps.foldl (fun d p => putM p.1 p.2 d) ds) (mergeK es kvs)
  | [], kvs, ds, es, r, q => by
    rw [show kvs = [] from r]
    exact q
  | p :: ps, kvs, ds, es, ⟨k, v, t, e, hk, hv, rr⟩, q => by
    subst e
    show KR K m H (ps.foldl (fun d p => putM p.1 p.2 d) (putM p.1 p.2 ds)) (mergeK (putK es k v) t)
    exact merge_rel rr (put_rel hk hv q)
theorem cr_dictM (hc : X.calm = true) : CallR X (.type "dict") (rF X.K (biV .dict)) := by
  intro pins s σ H xs us Q I r ⟨m, h, vs, S, rv, w⟩
  replace w : WP X.K (rV X.K) (dictV vs h) m H Q := w
  unfold dictV at w
  split at w
  · rename_i v
    obtain ⟨y, rfl, q⟩ := vrs1 rv
    obtain ⟨a, ys, zs, rfl, h1, r1, w⟩ := wp_lstOf S q w
    obtain ⟨ps, e, w⟩ := wp_opt w
    obtain ⟨as, kvs, rfl, pr, kr⟩ := pairs_vr e r1
    refine call_dictP hc pins s σ H _ us Q I r ⟨a, as, kvs, rfl, h1.sq, pr, fun p hp => ?_⟩
    have P : Post X.K m H (m ++ [p]) (upd H p (.dK (mergeK [] kvs))) := Post.alloc hp
    refine w (m ++ [p]) _ (.ref p) P (S.alloc hp ⟨_, upd_same, _, rfl, (merge_rel kr (show KR X.K m H [] [] from rfl)).mono P⟩) ?_
    unfold rV VR
    exact ⟨p, by rw [← S.len]; simp, rfl⟩
  · exact False.elim w
/-- calls of built-ins -/
theorem cr_bi (hc : X.calm = true) (hg : X.A.guards = some []) (sm : SmOk X) (hu : X.A.units + 65 < cLine) (b : Bi) : CallR X (biF b) (rF X.K (biV b)) := by
  cases b with
  | abs => exact cr_abs
  | max => exact cr_max hc
  | min => exact cr_min hc
  | int => exact cr_int
  | len => exact cr_len
  | divmod => exact cr_divmod
  | all => exact cr_allM hc
  | any => exact cr_anyM hc
  | repr => exact cr_repr hg sm hu
  | list => exact cr_list hc
  | tuple => exact cr_tuple
  | sum => exact cr_sumM hc
  | sorted => exact cr_sortedM hc
  | maxL => exact cr_maxM hc
  | dict => exact cr_dictM hc
/-! ### methods -/
theorem mt_appendM : MtR X "list.append" (rM X.K appendV) := by
  intro pins s σ H x xs v us Q I rx r ⟨m, h, o, vs, S, ro, rv, w⟩
  unfold appendV at w
  split at w
  · rename_i z
    obtain ⟨y, rfl, q⟩ := vrs1 rv
    cases o with
    | ref l =>
      obtain ⟨a, ha, rfl⟩ := vr_ref' ro
      dsimp only at w
      split at w
      · rename_i ys e1
        split at w
        · rename_i hl
          obtain ⟨us', h1, r1⟩ := S.lst ha e1
          exact mt_append pins s σ H _ _ v us Q I rx r ⟨a, us', y, rfl, rfl, h1, by rw [← r1.length]; exact fitsL_lt hl, wp_put (y := V.non) w S ha h1 (r1.append (VRs.one q)) fun P => vr_non⟩
        · exact False.elim w
      · exact False.elim w
    | _ => exact False.elim w
  · exact False.elim w
theorem mt_popM : MtR X "list.pop" (rM X.K popV) := by
  intro pins s σ H x xs v us Q I rx r ⟨m, h, o, vs, S, ro, rv, w⟩
  unfold popV at w
  split at w
  · rw [vrs_nil' rv] at r
    cases o with
    | ref l =>
      obtain ⟨a, ha, rfl⟩ := vr_ref' ro
      dsimp only at w
      split at w
      · rename_i ys e1
        split at w
        · rename_i z e2
          obtain ⟨us', h1, r1⟩ := S.lst ha e1
          obtain ⟨y, e3, q⟩ := r1.get e2
          exact mt_pop pins s σ H _ _ v us Q I rx r ⟨a, us', y, rfl, rfl, h1, by rw [← r1.length]; exact e3, wp_put (y := y) w S ha h1 r1.dropLast fun P => q.mono P⟩
        · exact False.elim w
      · exact False.elim w
    | _ => exact False.elim w
  · exact False.elim w
theorem mt_popAtM : MtR X "list.pop" (rM X.K popAtV) := by
  intro pins s σ H x xs v us Q I rx r ⟨m, h, o, vs, S, ro, rv, w⟩
  unfold popAtV at w
  split at w
  · rename_i i
    obtain ⟨y, rfl, q⟩ := vrs1 rv
    rw [vr_int' q] at r
    cases o with
    | ref l =>
      obtain ⟨a, ha, rfl⟩ := vr_ref' ro
      dsimp only at w
      split at w
      · rename_i ys e1
        split at w
        · rename_i hl
          split at w
          · rename_i k e2
            split at w
            · rename_i z e3
              obtain ⟨us', h1, r1⟩ := S.lst ha e1
              obtain ⟨y, e4, q⟩ := r1.get e3
              exact mt_popAt pins s σ H _ _ v us Q I rx r ⟨a, us', i, k, y, rfl, rfl, h1, (small63_of hl).1, (small63_of hl).2, by rw [← r1.length]; exact e2, e4, wp_put (y := y) w S ha h1 (r1.erase k) fun P => q.mono P⟩
            · exact False.elim w
          · exact False.elim w
        · exact False.elim w
      · exact False.elim w
    | _ => exact False.elim w
  · exact False.elim w
theorem mt_joinM : MtR X "str.join" (rM X.K joinV) := by
  intro pins s σ H x xs v us Q I rx r ⟨m, h, o, vs, S, ro, rv, w⟩
  unfold joinV at w
  split at w
  · rename_i z
    obtain ⟨y, rfl, q⟩ := vrs1 rv
    cases o with
    | str a =>
      rw [vr_str' ro] at rx
      obtain ⟨p, ys, zs, rfl, h1, r1, w⟩ := wp_lstOf S q w
      obtain ⟨bs, e, w⟩ := wp_opt w
      obtain ⟨hf, w⟩ := wp_chk w
      rw [vrs_strs e r1] at h1
      exact mt_join pins s σ H _ _ v us Q I rx r ⟨a, p, bs, rfl, rfl, .inl h1.sq, fitsJ_le hf, w.ret S (vr_str _)⟩
    | _ => exact False.elim w
  · exact False.elim w
theorem mt_extendL : MtR X "list.extend" (fun x vs H Q => ∃ l b xs zs, x = .ref l ∧ vs = [.ref b] ∧ H l = some (.lst xs) ∧ LsA X.K H b zs ∧ xs.length + zs.length ≤ sizeLine ∧ Q .non (upd H l (.lst (xs ++ zs)))) := by
  intro pins s σ H x vs v us Q I rx rv h
  obtain ⟨l, b, xs, zs, rfl, rfl, hH, hB, hz, q⟩ := h
  cases rx
  obtain ⟨u, rfl, ru⟩ := rv.one
  cases ru
  obtain ⟨z, its, n, r, hl, e⟩ := I.lstM hH
  obtain ⟨z2, its2, n2, r2, hl2, e2⟩ := hB.at I
  have hsz : its.toArray.size + its2.toArray.size ≤ sizeLine := by rw [List.size_toArray, List.size_toArray]; omega
  have hlong : ¬ (!its.toArray.isEmpty && Builtin.List.listTooLong (its.toArray.size + its2.toArray.size)) = true := by
    rw [notLongL hsz, Bool.and_false]
    exact Bool.false_ne_true
  refine call_meets F.slot_list_extend ⟨_, e, rfl⟩ F.entry_list_extend (F.args_list_extend_2 _ _)
    (AutoSeq1.list_extend_list_list_0 l its.toArray n b its2.toArray n2 hlong (by rw [List.size_toArray]; omega) (by omega)) ⟨e, e2, ?_⟩
  refine ⟨.non, _, I.lset (its' := its ++ its2) hH e (by simp) (r.append r2) ?_, rfl, q⟩
  rw [List.length_append]
  omega
theorem mt_extendM : MtR X "list.extend" (rM X.K extendV) := by
  intro pins s σ H x xs v us Q I rx r ⟨m, h, o, vs, S, ro, rv, w⟩
  unfold extendV at w
  split at w
  · rename_i l y
    obtain ⟨yv, rfl, q⟩ := vrs1 rv
    obtain ⟨a, ha, rfl⟩ := vr_ref' ro
    replace w : WP X.K (rV X.K) (match h[l]?, lstO h y with
      | some (.lst xs), some ys => if fits (xs.length + ys.length) then .ok .non (h.set l (.lst (xs ++ ys))) else .stuck
      | _, _ => .stuck) m H Q := w
    split at w
    · rename_i ys zs e1 e2
      split at w
      · rename_i hl
        obtain ⟨us', h1, r1⟩ := S.lst ha e1
        obtain ⟨b, ws, rfl, r2, q2⟩ := lstO_some S q e2
        exact mt_extendL pins s σ H _ _ v us Q I rx r ⟨a, b, us', ws, rfl, rfl, h1, q2, by rw [← r1.length, ← r2.length]; exact fits_le hl, wp_put (y := V.non) w S ha h1 (r1.append r2) fun P => vr_non⟩
      · exact False.elim w
    · exact False.elim w
  · exact False.elim w
theorem mt_insertM : MtR X "list.insert" (rM X.K insertV) := by
  intro pins s σ H x xs v us Q I rx r ⟨m, h, o, vs, S, ro, rv, w⟩
  unfold insertV at w
  split at w
  · rename_i l i y
    obtain ⟨iv, yv, rfl, qi, q⟩ := vrs2 rv
    rw [vr_int' qi] at r
    obtain ⟨a, ha, rfl⟩ := vr_ref' ro
    replace w : WP X.K (rV X.K) (match h[l]? with
      | some (.lst xs) => if small63 i && decide (0 ≤ i) && fitsL xs.length then .ok .non (h.set l (.lst (xs.take i.toNat ++ [y] ++ xs.drop i.toNat))) else .stuck
      | _ => .stuck) m H Q := w
    split at w
    · rename_i ys e1
      split at w
      · rename_i hl
        obtain ⟨us', h1, r1⟩ := S.lst ha e1
        have hl := Bool.and_eq_true_iff.mp hl
        have hl1 := Bool.and_eq_true_iff.mp hl.1
        exact mt_insert pins s σ H _ _ v us Q I rx r ⟨a, us', i, yv, rfl, rfl, h1, by rw [← r1.length]; exact fitsL_lt hl.2, of_decide_eq_true hl1.2, (small63_of hl1.1).2, wp_put (y := V.non) w S ha h1 (((r1.take _).append (VRs.one q)).append (r1.drop _)) fun P => vr_non⟩
      · exact False.elim w
    · exact False.elim w
  · exact False.elim w
theorem reads_len {h : Heap} {its : List Value} {ds : List PyData} {as : List Addr} (r : ReadsAll h its ds as) : its.length = ds.length := SeqAt.ReadsAll.length ds its as r
theorem mt_countM (sm : SmOk X) (hu : X.A.units + 65 < cLine) : MtR X "list.count" (rM X.K countV) := by
  intro pins s σ H x xs v us Q I rx r ⟨m, h, o, vs, S, ro, rv, w⟩
  unfold countV at w
  split at w
  · rename_i y
    obtain ⟨yv, rfl, q⟩ := vrs1 rv
    obtain ⟨u, rfl, ru⟩ := r.one
    replace w : WP X.K (rV X.K) (match (lstO h o).bind (mapO (reify h 59)), reify h 60 y with
      | some ds, some d => if PyData.plainAll ds && d.plain && SeqAt.shaped d then .ok (.int ((ds.countP fun z => PyData.eqv z d : Nat) : Int)) h else .stuck
      | _, _ => .stuck) m H Q := w
    split at w
    · rename_i ds d e1 e2
      split at w
      · rename_i hh
        have hh := Bool.and_eq_true_iff.mp hh
        have hh1 := Bool.and_eq_true_iff.mp hh.1
        obtain ⟨ys, e3, e4⟩ := Option.bind_eq_some_iff.mp e1
        obtain ⟨a, ws, rfl, r1, q1⟩ := lstO_some S ro e3
        cases rx
        obtain ⟨_, its, n, rr, hl, e⟩ := q1.at I
        obtain ⟨as, rd, _⟩ := reads_list I sm S 59 ys ds ws its e4 r1 rr
        obtain ⟨bs, rb, _⟩ := reify_reads I sm S 60 y d yv u e2 q ru
        exact SeqAt.count_list_data (vs := its.toArray) ⟨_, e, rfl, _, rfl⟩ (by simpa using rd) rb hh1.1 hh1.2 (room_in_shaped hh.2 hu) ⟨.int _, H, I.tok _, ⟨_, rfl⟩, w m H _ Post.refl S (vr_int _)⟩
      · exact False.elim w
    · exact False.elim w
  · exact False.elim w
theorem mt_indexM (sm : SmOk X) (hu : X.A.units + 65 < cLine) : MtR X "list.index" (rM X.K indexV) := by
  intro pins s σ H x xs v us Q I rx r ⟨m, h, o, vs, S, ro, rv, w⟩
  unfold indexV at w
  split at w
  · rename_i y
    obtain ⟨yv, rfl, q⟩ := vrs1 rv
    obtain ⟨uy, rfl, ru⟩ := r.one
    replace w : WP X.K (rV X.K) (match (lstO h o).bind (mapO (reify h 59)), reify h 60 y with
      | some ds, some d => if SeqAt.shaped (.list ds) && SeqAt.shaped d then (match ds.findIdx? fun z => PyData.eqv z d with
        | some j => .ok (.int (j : Nat)) h
        | none => .stuck) else .stuck
      | _, _ => .stuck) m H Q := w
    split at w
    · rename_i ds d e1 e2
      split at w
      · rename_i hh
        have hh := Bool.and_eq_true_iff.mp hh
        split at w
        · rename_i j hj0
          obtain ⟨hjd, hjt, hjm⟩ := List.findIdx?_eq_some_iff_getElem.mp hj0
          obtain ⟨ys, e3, e4⟩ := Option.bind_eq_some_iff.mp e1
          obtain ⟨a, ws, rfl, r1, q1⟩ := lstO_some S ro e3
          cases rx
          obtain ⟨hlen, its, n, rr, hl, ho⟩ := q1.at I
          obtain ⟨as, h4, _⟩ := reads_list I sm S 59 ys ds ws its e4 r1 rr
          obtain ⟨bs, rb, _⟩ := reify_reads I sm S 60 y d yv uy e2 q ru
          have hxs : PyData.canLayAll0 ds = true := SeqAt.canLay_of_shaped hh.1
          have hroom : X.A.units + 1 + min (PyData.depthAll ds) d.depth < cLine := room_in_shaped hh.2 hu
          have hn : its.length = ds.length := SeqAt.ReadsAll.length ds its as h4
          have hmap : its.map (SeqAt.readOf s.heap) = ds := SeqAt.readsAll_map ds its as hxs h4
          have hsl := sizeLine_eq
          have hjl : j < its.length := by omega
          have hj : j < its.toArray.size := by simpa using hjl
          have at_ : ∀ (m : Nat) (hm : m < its.toArray.size) (hm2 : m < ds.length), SeqAt.readOf s.heap its.toArray[m] = ds[m] := by
            intro m hm hm2
            have hml : m < its.length := by simpa using hm
            have hz' : ds[m]? = some ds[m] := List.getElem?_eq_getElem hm2
            have e1 : (its.map (SeqAt.readOf s.heap))[m]? = some ds[m] := by rw [hmap]; exact hz'
            rw [List.getElem?_map, List.getElem?_eq_getElem hml] at e1
            simpa using Option.some.inj e1
          refine call_meets PySem.F.slot_list_index ⟨_, ho, rfl⟩ PySem.F.entry_list_index (PySem.F.args_list_index_2 _ _)
            (SeqAt.list_indexAt a its.toArray n none #[] uy (fun u => PyData.eqv (SeqAt.readOf s.heap u) d) j hj (by omega) ?_ ?_) ⟨ho, SeqAt.items_eqAt (vs := its.toArray) (show ReadsAll s.heap its.toArray.toList ds as from by simpa using h4) rb hxs (SeqAt.canLay_of_shaped hh.2) hroom, ?_⟩
          · show PyData.eqv (SeqAt.readOf s.heap its.toArray[j]) d = true
            rw [at_ j hj hjd]
            exact hjt
          · intro m hm hmj
            have hmd : m < ds.length := by omega
            show PyData.eqv (SeqAt.readOf s.heap its.toArray[m]) d = false
            rw [at_ m hm hmd]
            simpa using hjm m hmj
          · exact ⟨.int (j : Nat), H, I.tok _, ⟨_, rfl⟩, w m H _ Post.refl S (vr_int _)⟩
        · exact False.elim w
      · exact False.elim w
    · exact False.elim w
  · exact False.elim w
def mtId : Mt → String
  | .append => "list.append" | .join => "str.join" | .pop => "list.pop" | .popAt => "list.pop" | .extend => "list.extend" | .insert => "list.insert" | .index => "list.index" | .count => "list.count"
theorem mt_M (sm : SmOk X) (hu : X.A.units + 65 < cLine) (n : Mt) : MtR X (mtId n) (rM X.K (mtV n)) := by
  cases n with
  | extend => exact mt_extendM
  | insert => exact mt_insertM
  | index => exact mt_indexM sm hu
  | count => exact mt_countM sm hu
  | append => exact mt_appendM
  | join => exact mt_joinM
  | pop => exact mt_popM
  | popAt => exact mt_popAtM
/-! ### a store -/
def rSet (K : PySem.W.Frag) : V → V → V → Hp → (Hp → Prop) → Prop := fun o i v H Q => ∃ m h o' i' v', Sim K m h H ∧ VR K m H o' o ∧ VR K m H i' i ∧ VR K m H v' v ∧ WP K rId (setV o' i' v' h) m H (fun _ H' => Q H')
def rSetL (K : PySem.W.Frag) : V → V → V → Hp → (Hp → Prop) → Prop := fun o i v H Q => ∃ m h o' i' v', Sim K m h H ∧ VR K m H o' o ∧ VR K m H i' i ∧ VR K m H v' v ∧ WP K rId (setL o' i' v' h) m H (fun _ H' => Q H')
theorem setL_M : PSet X (rSetL X.K) := by
  intro pins s σ H o i v ov iv u Q I ro ri rv ⟨m, h, o', i', v', S, so, si, sv, w⟩
  unfold setL at w
  split at w
  · rename_i l k
    obtain ⟨a, ha, rfl⟩ := vr_ref' so
    rw [vr_int' si] at ri
    split at w
    · rename_i ys e1
      split at w
      · rename_i j e2
        obtain ⟨us', h1, r1⟩ := S.lst ha e1
        exact set_list pins s σ H _ _ _ ov iv u Q I ro ri rv ⟨a, us', k, j, rfl, rfl, h1, by rw [← r1.length]; exact e2, wp_put (y := ()) w S ha h1 (VRs.set sv j r1) fun P => rfl⟩
      · exact False.elim w
    · exact False.elim w
  · exact False.elim w
theorem set_M (hu : X.A.units + 1 < cLine) : PSet X (rSet X.K) := by
  intro pins s σ H o i v ov iv u Q I ro ri rv ⟨m, h, o', i', v', S, so, si, sv, w⟩
  unfold setV at w
  split at w
  · rename_i l
    split at w
    · rename_i t kvs e
      split at w
      · rename_i hb
        obtain ⟨hb, hf⟩ := Bool.and_eq_true_iff.mp hb
        obtain ⟨a, ha, rfl⟩ := vr_ref' so
        obtain ⟨uu, hq, rr⟩ := S.dct ha e
        obtain rfl : ov = Value.ref a := ro
        cases t with
        | false =>
          obtain ⟨ks, rfl, rr⟩ := rr
          have hb1 : keyB1 i' = true := by
            cases i' <;> first | exact hb | cases hb
          obtain ⟨kk, e1, e2⟩ := key_of_vr hb1 si
          have hlen : ks.length < sizeLine := by rw [← rr.length]; exact fitsL_lt hf
          subst e2
          have z : Wr (H a) := by rw [hq]; trivial
          have P : Post X.K m H m (upd H a (.dK (putK ks kk v))) := Post.write ha z
          have S' := S.write (ob := .dct false (putM i' v' kvs)) (o := .dK (putK ks kk v)) ha z ⟨_, upd_same, _, rfl, (put_rel e1 sv rr).mono P⟩
          exact d_setItem hu I (DPut.k hq hlen) ri rv fun s4 J => ⟨_, J, w _ _ () P S' rfl⟩
        | true =>
          obtain ⟨ks, rfl, rr⟩ := rr
          cases i' with
          | tup xs =>
            have hb : xs.all keyB1 = true := by
              have : (true && xs.all keyB1) = true := hb
              rwa [Bool.true_and] at this
            obtain ⟨b, us, rfl, hqb, r2⟩ := vr_tupH si
            obtain ⟨kk, e1, rfl⟩ := keys_of_vr hb r2
            have e1 : keyT (.tup xs) = some kk := e1
            have hlen : ks.length < sizeLine := by rw [← rr.length]; exact fitsL_lt hf
            have z : Wr (H a) := by rw [hq]; trivial
            have P : Post X.K m H m (upd H a (.dT (putK ks kk v))) := Post.write ha z
            have S' := S.write (ob := .dct true (putM (.tup xs) v' kvs)) (o := .dT (putK ks kk v)) ha z ⟨_, upd_same, _, rfl, (put_relT e1 sv rr).mono P⟩
            exact d_setItem hu I (DPut.t hq hqb hlen) ri rv fun s4 J => ⟨_, J, w _ _ () P S' rfl⟩
          | _ => cases hb
      · exact False.elim w
    · exact setL_M pins s σ H _ _ _ ov iv u Q I ro ri rv ⟨m, h, _, i', v', S, so, si, sv, w⟩
  · exact False.elim w
end
end MP
/-! MP: terms of the language as readings of the hand layer. -/
namespace MP
open PySem PySem.Spec PyProof.Rows L2

def EnvR (K : PySem.W.Frag) (m : List Addr) (H : Hp) (ρ : Env) (σ : L2.St) : Prop :=
  ρ.length = σ.length ∧ ∀ (i : Nat) (v : MV), ρ[i]? = some (some v) → ∃ x, σ[i]? = some (some x) ∧ VR K m H v x
theorem EnvR.mono {K : PySem.W.Frag} {m m' : List Addr} {H H' : Hp} {ρ : Env} {σ : L2.St} (h : EnvR K m H ρ σ) (P : Post K m H m' H') : EnvR K m' H' ρ σ :=
  ⟨h.1, fun i v e => let ⟨x, a, b⟩ := h.2 i v e; ⟨x, a, b.mono P⟩⟩
theorem EnvR.set {K : PySem.W.Frag} {m : List Addr} {H : Hp} {ρ : Env} {σ : L2.St} (h : EnvR K m H ρ σ) {i : Nat} {v : MV} {x : V} (r : VR K m H v x) : EnvR K m H (ρ.set i (some v)) (σ.set i (some x)) := by
  refine ⟨by simp [h.1], fun j u e => ?_⟩
  by_cases hj : i = j
  · subst hj
    by_cases hl : i < ρ.length
    · rw [List.getElem?_set_self hl] at e
      cases e
      exact ⟨x, by rw [List.getElem?_set_self (by rw [← h.1]; exact hl)], r⟩
    · rw [List.getElem?_eq_none (by simpa using hl)] at e
      cases e
  · rw [List.getElem?_set_ne hj] at e ⊢
    exact h.2 j u e
theorem EnvR.wipe {K : PySem.W.Frag} {m : List Addr} {H : Hp} {ρ : Env} {σ : L2.St} (h : EnvR K m H ρ σ) : ∀ own : List Nat, EnvR K m H (wipeE ρ own) (L2.wipe σ own)
  | [] => h
  | v :: vs => by
    have ih := EnvR.wipe h vs
    unfold wipeE L2.wipe
    refine ⟨by simp [ih.1], fun j u e => ?_⟩
    by_cases hj : v = j
    · subst hj
      by_cases hl : v < (wipeE ρ vs).length
      · rw [List.getElem?_set_self hl] at e
        cases e
      · rw [List.getElem?_eq_none (by simpa using hl)] at e
        cases e
    · rw [List.getElem?_set_ne hj] at e ⊢
      exact ih.2 j u e

abbrev rE (K : PySem.W.Frag) : List Addr → Hp → Env → L2.St → Prop := fun m H ρ σ => EnvR K m H ρ σ
def tE (K : PySem.W.Frag) (f : Env → M MV) : TE := fun σ H Q => ∃ m h ρ, Sim K m h H ∧ EnvR K m H ρ σ ∧ WP K (rV K) (f ρ h) m H Q
def tT (K : PySem.W.Frag) (f : Env → M Bool) : TT := fun σ H Q => ∃ m h ρ, Sim K m h H ∧ EnvR K m H ρ σ ∧ WP K rId (f ρ h) m H Q
def tA (K : PySem.W.Frag) (f : Env → M (List MV)) : TA := fun σ H Q => ∃ m h ρ, Sim K m h H ∧ EnvR K m H ρ σ ∧ WP K (rL K) (f ρ h) m H Q
def tO (K : PySem.W.Frag) (f : Env → M (Option Int)) : TO := fun σ H Q => ∃ m h ρ, Sim K m h H ∧ EnvR K m H ρ σ ∧ WP K rId (f ρ h) m H Q
def tG (K : PySem.W.Frag) (f : MV → Env → M Env) : TG := fun v σ H Q => ∃ m h ρ x, Sim K m h H ∧ EnvR K m H ρ σ ∧ VR K m H x v ∧ WP K (rE K) (f x ρ h) m H Q
def tGs (K : PySem.W.Frag) (f : List MV → Env → M Env) : TGs := fun vs σ H Q => ∃ m h ρ xs, Sim K m h H ∧ EnvR K m H ρ σ ∧ VRs K m H xs vs ∧ WP K (rE K) (f xs ρ h) m H Q
/-- a turn may lay a new tuple -/
def StepH (H H' : Hp) : Prop := H' = H ∨ ∃ p vs, H p = none ∧ H' = upd H p (.tup vs)
/-- fixed items that are walked -/
def JV (K : PySem.W.Frag) (m : List Addr) (H : Hp) (xs : List MV) (J : L2.It) : Prop := ∃ G : List Addr → Hp → Prop, G m H ∧ (∀ m H m' H', Mon K m H m' H' → G m H → G m' H') ∧
  ∀ m H, G m H → ∀ i : Nat, (xs[i]? = none → J.stop i H) ∧ ∀ x, xs[i]? = some x → J.go i H ∧ ∀ y H', J.yld i H y H' → StepH H H' ∧ VR K m H' x y
theorem JV.mn {K : PySem.W.Frag} {m m' : List Addr} {H H' : Hp} {xs : List MV} {J : L2.It} (P : Mon K m H m' H') (h : JV K m H xs J) : JV K m' H' xs J := by
  obtain ⟨G, g, mo, k⟩ := h
  exact ⟨G, mo _ _ _ _ P g, mo, k⟩
/-- what is walked -/
def JR (K : PySem.W.Frag) (m : List Addr) (H : Hp) : Itv → L2.It → Prop
  | .il l, J => ∃ a, m[l]? = some a ∧ J = Itl K a
  | .vs xs, J => JV K m H xs J
def tI (K : PySem.W.Frag) (f : Env → M Itv) : TI := fun σ H R => ∃ m h ρ, Sim K m h H ∧ EnvR K m H ρ σ ∧ WP K (JR K) (f ρ h) m H R
/-- a statement's end -/
def WS (K : PySem.W.Frag) (r : Res (Env × Fl)) (m : List Addr) (H : Hp) (D : Ends) : Prop := match r with
  | .ok p h' => ∀ m' H' σ', Post K m H m' H' → Sim K m' h' H' → EnvR K m' H' p.1 σ' → (match p.2 with
    | .nx => D.nx σ' H'
    | .rt v => ∀ x, VR K m' H' v x → D.rt x H'
    | .bk => D.bk σ' H'
    | .ct => D.ct σ' H')
  | _ => False
def tSt (K : PySem.W.Frag) (f : Env → M (Env × Fl)) : TS := fun D σ H => ∃ m h ρ, Sim K m h H ∧ EnvR K m H ρ σ ∧ WS K (f ρ h) m H D
theorem WS.at {K : PySem.W.Frag} {r : Res (Env × Fl)} {m m1 : List Addr} {H H1 : Hp} {D : Ends} (h : WS K r m H D) (P : Post K m H m1 H1) : WS K r m1 H1 D := by
  cases r with
  | ok a h' => exact fun m' H' σ' P' S r => h m' H' σ' (P.trans P') S r
  | exc _ _ => exact h
  | stuck => exact h
theorem WS.bind {K : PySem.W.Frag} {α β : Type} {Rx : List Addr → Hp → α → β → Prop} {x : M α} {f : α → M (Env × Fl)} {m : List Addr} {h0 : MH} {H : Hp} {D : Ends} (h : WS K (M.bnd x f h0) m H D) :
    WP K Rx (x h0) m H (fun b H1 => ∃ m1 h1 a, Post K m H m1 H1 ∧ Sim K m1 h1 H1 ∧ Rx m1 H1 a b ∧ WS K (f a h1) m1 H1 D) := by
  unfold M.bnd at h
  cases e : x h0 with
  | ok a h' =>
    rw [e] at h
    exact fun m' H' b P S r => ⟨m', h', a, P, S, r, WS.at h P⟩
  | exc _ _ => rw [e] at h; exact h
  | stuck => rw [e] at h; exact h
/-- two statements -/
theorem WS.seq {K : PySem.W.Frag} {x : M (Env × Fl)} {f : Env × Fl → M (Env × Fl)} {m : List Addr} {h0 : MH} {H : Hp} {D D' : Ends} (h : WS K (M.bnd x f h0) m H D)
    (k : ∀ p m1 h1 H1 σ1, Post K m H m1 H1 → Sim K m1 h1 H1 → EnvR K m1 H1 p.1 σ1 → WS K (f p h1) m1 H1 D → (match p.2 with
    | .nx => D'.nx σ1 H1
    | .rt v => ∀ x, VR K m1 H1 v x → D'.rt x H1
    | .bk => D'.bk σ1 H1
    | .ct => D'.ct σ1 H1)) : WS K (x h0) m H D' := by
  unfold M.bnd at h
  cases e : x h0 with
  | ok p h' =>
    rw [e] at h
    intro m' H' σ' P S r
    exact k p m' h' H' σ' P S r (WS.at h P)
  | exc _ _ => rw [e] at h; exact h
  | stuck => rw [e] at h; exact h
theorem WS.ret {K : PySem.W.Frag} {p : Env × Fl} {m : List Addr} {h0 : MH} {H : Hp} {D : Ends} {σ : L2.St} (h : WS K (M.ret p h0) m H D) (S : Sim K m h0 H) (r : EnvR K m H p.1 σ) : (match p.2 with
    | .nx => D.nx σ H
    | .rt v => ∀ x, VR K m H v x → D.rt x H
    | .bk => D.bk σ H
    | .ct => D.ct σ H) := h m H σ Post.refl S r

theorem pe_imp {X : Cx} {e : Expr} {t t' : TE} (h : PE X e t') (k : ∀ σ H Q, t σ H Q → t' σ H Q) : PE X e t := ⟨fun pins s σ H Q I w => h.run pins s σ H Q I (k σ H Q w)⟩
theorem pt_imp {X : Cx} {e : Expr} {t t' : TT} (h : PT X e t') (k : ∀ σ H Q, t σ H Q → t' σ H Q) : PT X e t := ⟨fun pins s σ H Q I w => h.run pins s σ H Q I (k σ H Q w)⟩
theorem pw_imp {X : Cx} {e : Expr} {t t' : TT} (h : PW X e t') (k : ∀ σ H Q, t σ H Q → t' σ H Q) : PW X e t := ⟨fun wh pins s σ H Q I w => h.run wh pins s σ H Q I (k σ H Q w)⟩
theorem pa_imp {X : Cx} {e : List Expr} {t t' : TA} (h : PA X e t') (k : ∀ σ H Q, t σ H Q → t' σ H Q) : PA X e t := ⟨fun pos pins s σ H Q I w => h.run pos pins s σ H Q I (k σ H Q w)⟩
theorem po_imp {X : Cx} {e : Option Expr} {t t' : TO} (h : PO X e t') (k : ∀ σ H Q, t σ H Q → t' σ H Q) : PO X e t := ⟨fun pins s σ H Q I w => h.run pins s σ H Q I (k σ H Q w)⟩
theorem pg_imp {X : Cx} {e : Expr} {t t' : TG} (h : PG X e t') (k : ∀ v σ H Q, t v σ H Q → t' v σ H Q) : PG X e t := ⟨fun pins s σ H v u Q I r w => h.run pins s σ H v u Q I r (k v σ H Q w)⟩
theorem pgs_imp {X : Cx} {e : List Expr} {t t' : TGs} (h : PGs X e t') (k : ∀ v σ H Q, t v σ H Q → t' v σ H Q) : PGs X e t := ⟨fun pins s σ H v u Q I r w => h.run pins s σ H v u Q I r (k v σ H Q w)⟩
theorem pi_imp {X : Cx} {g e : Expr} {t t' : TI} (h : PI X g e t') (k : ∀ σ H Q, t σ H Q → t' σ H Q) : PI X g e t := ⟨fun pins s σ H Q I w => h.run pins s σ H Q I (k σ H Q w)⟩
theorem ps_imp {X : Cx} {e : Stmt} {t t' : TS} (h : PS X e t') (k : ∀ D σ H, t D σ H → t' D σ H) : PS X e t := ⟨fun pins s σ H D I w => h.run pins s σ H D I (k D σ H w)⟩
theorem pss_imp {X : Cx} {e : List Stmt} {t t' : TS} (h : PSs X e t') (k : ∀ D σ H, t D σ H → t' D σ H) : PSs X e t := ⟨fun pins s σ H D I w => h.run pins s σ H D I (k D σ H w)⟩

section
variable {K : PySem.W.Frag} {σ : L2.St} {H : Hp}
/-- one value, then a rule by values -/
theorem lift1 {f : Env → M MV} {g : MV → Env → M MV} {Q : VK} {r : V → Hp → Prop} (w : tE K (fun ρ => (f ρ).bnd fun x => g x ρ) σ H Q)
    (k : ∀ m h ρ x v H1, Sim K m h H1 → EnvR K m H1 ρ σ → VR K m H1 x v → WP K (rV K) (g x ρ h) m H1 Q → r v H1) : tE K f σ H r := by
  obtain ⟨m, h, ρ, S, en, w⟩ := w
  refine ⟨m, h, ρ, S, en, (WP.bind (Rx := rV K) w).mono fun v H1 ⟨m1, h1, x, P, S1, rx, w1⟩ => ?_⟩
  exact k m1 h1 ρ x v H1 S1 (en.mono P) rx w1
/-- the general form -/
theorem liftG {α β γ δ : Type} {R : List Addr → Hp → α → β → Prop} {R' : List Addr → Hp → γ → δ → Prop} {f : Env → M α} {g : α → Env → M γ} {Q : δ → Hp → Prop} {r : β → Hp → Prop} {m : List Addr} {h : MH} {ρ : Env} (S : Sim K m h H) (en : EnvR K m H ρ σ)
    (w : WP K R' (((f ρ).bnd fun x => g x ρ) h) m H Q)
    (k : ∀ m1 h1 x v H1, Post K m H m1 H1 → Sim K m1 h1 H1 → EnvR K m1 H1 ρ σ → R m1 H1 x v → WP K R' (g x ρ h1) m1 H1 Q → r v H1) : ∃ m h ρ, Sim K m h H ∧ EnvR K m H ρ σ ∧ WP K R (f ρ h) m H r :=
  ⟨m, h, ρ, S, en, (WP.bind (Rx := R) w).mono fun v H1 ⟨m1, h1, x, P, S1, rx, w1⟩ => k m1 h1 x v H1 P S1 (en.mono P) rx w1⟩
theorem liftS {α β : Type} {R : List Addr → Hp → α → β → Prop} {f : Env → M α} {g : α → Env → M (Env × Fl)} {D : Ends} {r : β → Hp → Prop} {m : List Addr} {h : MH} {ρ : Env} (S : Sim K m h H) (en : EnvR K m H ρ σ)
    (w : WS K (((f ρ).bnd fun x => g x ρ) h) m H D)
    (k : ∀ m1 h1 x v H1, Post K m H m1 H1 → Sim K m1 h1 H1 → EnvR K m1 H1 ρ σ → R m1 H1 x v → WS K (g x ρ h1) m1 H1 D → r v H1) : ∃ m h ρ, Sim K m h H ∧ EnvR K m H ρ σ ∧ WP K R (f ρ h) m H r :=
  ⟨m, h, ρ, S, en, (WS.bind (Rx := R) w).mono fun v H1 ⟨m1, h1, x, P, S1, rx, w1⟩ => k m1 h1 x v H1 P S1 (en.mono P) rx w1⟩
end

/-! ### loops -/
section
variable {K : PySem.W.Frag} {m m' : List Addr} {h : MH} {H H' : Hp}
theorem JR.mn (P : Mon K m H m' H') : ∀ {it : Itv} {J : L2.It}, JR K m H it J → JR K m' H' it J
  | .il l, J, r => by
    obtain ⟨a, e, q⟩ := r
    exact ⟨a, P.get e, q⟩
  | .vs xs, J, r => JV.mn P r
theorem JR.mono (P : Post K m H m' H') {it : Itv} {J : L2.It} (r : JR K m H it J) : JR K m' H' it J := r.mn P.mon
theorem jv_tup {a : Addr} {vs : List V} {xs : List MV} (q : H a = some (.tup vs)) (t : VRs K m H xs vs) : JV K m H xs (Itt K a) := by
  refine ⟨fun m H => H a = some (.tup vs) ∧ VRs K m H xs vs, ⟨q, t⟩, fun m H m' H' P g => ⟨P.tup _ _ g.1, g.2.mn P⟩, fun m H g i => ⟨fun e => ?_, fun x e => ?_⟩⟩
  · exact ⟨vs, .inl (.inl g.1), by rw [← g.2.length]; exact List.getElem?_eq_none_iff.mp e⟩
  · obtain ⟨v, e2, rv⟩ := g.2.get e
    refine ⟨⟨vs, v, .inl (.inl g.1), e2⟩, fun y H' hy => ?_⟩
    obtain ⟨rfl, hy⟩ := hy
    have e3 := hy vs (.inl (.inl g.1))
    rw [e2] at e3
    cases e3
    exact ⟨.inl rfl, rv⟩
theorem jv_ro {a : Addr} {vs : List V} {xs : List MV} (q : RoL K H a vs) (t : VRs K m H xs vs) : JV K m H xs (Itl K a) := by
  refine ⟨fun m H => RoL K H a vs ∧ VRs K m H xs vs, ⟨q, t⟩, fun m H m' H' P g => ⟨P.ro _ _ g.1, g.2.mn P⟩, fun m H g i => ⟨fun e => ?_, fun x e => ?_⟩⟩
  · exact ⟨vs, g.1.sq, by rw [← g.2.length]; exact List.getElem?_eq_none_iff.mp e⟩
  · obtain ⟨v, e2, rv⟩ := g.2.get e
    refine ⟨⟨vs, v, g.1.sq, e2⟩, fun y H' hy => ?_⟩
    obtain ⟨rfl, hy⟩ := hy
    have e3 := hy vs g.1.sq
    rw [e2] at e3
    cases e3
    exact ⟨.inl rfl, rv⟩
theorem jv_str (z : Str) : JV K m H (z.cps.toList.map fun c => MV.str ⟨#[c]⟩) (Its z) := by
  refine ⟨fun _ _ => True, trivial, fun _ _ _ _ _ g => g, fun m H g i => ⟨fun e => ?_, fun x e => ?_⟩⟩
  · show z.cps.size ≤ i
    simpa using e
  · have hl := (List.getElem?_eq_some_iff.mp e).1
    rw [List.length_map, Array.length_toList] at hl
    refine ⟨hl, fun y H' hy => ?_⟩
    obtain ⟨rfl, c, e2, rfl⟩ := hy
    rw [List.getElem?_map, Array.getElem?_toList, e2] at e
    cases e
    exact ⟨.inl rfl, vr_str _⟩
theorem range_len (lo hi : Int) : (rangeItems lo hi).length = (hi - lo).toNat := by unfold rangeItems; simp
theorem range_get {lo hi : Int} {i : Nat} {x : MV} (e : (rangeItems lo hi)[i]? = some x) : i < (hi - lo).toNat ∧ x = .int (lo + i) := by
  have hl := (List.getElem?_eq_some_iff.mp e).1
  rw [range_len] at hl
  refine ⟨hl, ?_⟩
  unfold rangeItems at e
  rw [List.getElem?_map, List.getElem?_range hl] at e
  exact (Option.some.inj e).symm
theorem jv_range (lo hi : Int) : JV K m H (rangeItems lo hi) (Itr lo (hi - lo).toNat) := by
  refine ⟨fun _ _ => True, trivial, fun _ _ _ _ _ g => g, fun m H g i => ⟨fun e => ?_, fun x e => ?_⟩⟩
  · show (hi - lo).toNat ≤ i
    have := List.getElem?_eq_none_iff.mp e
    rw [range_len] at this; exact this
  · obtain ⟨hl, rfl⟩ := range_get e
    refine ⟨hl, fun y H' hy => ?_⟩
    obtain ⟨rfl, rfl⟩ := hy
    exact ⟨.inl rfl, vr_int _⟩
theorem StepH.post (S : Sim K m h H) (s : StepH H H') : Post K m H m H' ∧ Sim K m h H' := by
  rcases s with rfl | ⟨p, vs, hp, rfl⟩
  · exact ⟨Post.refl, S⟩
  · exact ⟨Post.new_tuple S hp, S.new_tuple hp⟩
theorem nxt_stop (S : Sim K m h H) {it : Itv} {J : L2.It} {i : Nat} (r : JR K m H it J) (e : nxt h it i = some none) : J.stop i H := by
  cases it with
  | il l =>
    obtain ⟨a, ha, rfl⟩ := r
    unfold nxt at e
    dsimp only at e
    split at e
    · rename_i xs e1
      obtain ⟨vs, h1, r1⟩ := S.lst ha e1
      have e := Option.some.inj e
      refine ⟨vs, SqL.of h1, ?_⟩
      rw [← r1.length]
      exact List.getElem?_eq_none_iff.mp e
    · cases e
  | vs xs =>
    have e : xs[i]? = none := Option.some.inj e
    obtain ⟨G, g, mo, k⟩ := r
    exact (k _ _ g i).1 e
theorem nxt_item (S : Sim K m h H) {it : Itv} {J : L2.It} {i : Nat} {x : MV} (r : JR K m H it J) (e : nxt h it i = some (some x)) : J.go i H ∧ ∀ y H', J.yld i H y H' → Post K m H m H' ∧ Sim K m h H' ∧ VR K m H' x y := by
  cases it with
  | il l =>
    obtain ⟨a, ha, rfl⟩ := r
    unfold nxt at e
    dsimp only at e
    split at e
    · rename_i xs e1
      obtain ⟨vs, h1, r1⟩ := S.lst ha e1
      have e := Option.some.inj e
      obtain ⟨v, e2, q⟩ := r1.get e
      refine ⟨⟨vs, v, SqL.of h1, e2⟩, fun y H' hy => ?_⟩
      obtain ⟨rfl, hy⟩ := hy
      have e3 := hy vs (SqL.of h1)
      rw [e2] at e3
      cases e3
      exact ⟨Post.refl, S, q⟩
    · cases e
  | vs xs =>
    have e : xs[i]? = some x := Option.some.inj e
    obtain ⟨G, g, mo, k⟩ := r
    obtain ⟨go, yl⟩ := (k _ _ g i).2 x e
    refine ⟨go, fun y H' hy => ?_⟩
    obtain ⟨st, rv⟩ := yl y H' hy
    obtain ⟨P, S'⟩ := st.post S
    exact ⟨P, S', rv⟩
end
/-- for -/
theorem for_lift {K : PySem.W.Frag} {fi : Env → M Itv} {fg : MV → Env → M Env} {fb : Env → M (Env × Fl)} {W : Nat} {D : Ends} {σ : L2.St} {H : Hp}
    (w : tSt K (fun ρ => (fi ρ).bnd fun J => forLoop fg fb J W 0 ρ) D σ H) : tFor (tI K fi) (tG K fg) (tSt K fb) D σ H := by
  obtain ⟨m, h, ρ, S, en, w⟩ := w
  refine liftS (R := JR K) (g := fun J ρ => forLoop fg fb J W 0 ρ) S en w fun m1 h1 it J H1 P S1 en1 rJ w1 => ?_
  refine ⟨fun i μ σ' H' => ∃ m h ρ, Sim K m h H' ∧ EnvR K m H' ρ σ' ∧ JR K m H' it J ∧ WS K (forLoop fg fb it μ i ρ h) m H' D, ⟨W, m1, h1, ρ, S1, en1, rJ, w1⟩, ?_⟩
  rintro i μ σ2 H2 ⟨m2, h2, ρ2, S2, en2, r2, w2⟩
  cases μ with
  | zero => exact False.elim w2
  | succ μ =>
    unfold forLoop at w2
    cases e : nxt h2 it i with
    | none => rw [e] at w2; exact False.elim w2
    | some o =>
      rw [e] at w2
      cases o with
      | none => exact .inl ⟨nxt_stop S2 r2 e, WS.ret (p := (ρ2, Fl.nx)) w2 S2 en2⟩
      | some x =>
        obtain ⟨go, yl⟩ := nxt_item S2 r2 e
        refine .inr ⟨go, fun σ' H' => ∃ m h ρ, Sim K m h H' ∧ EnvR K m H' ρ σ' ∧ JR K m H' it J ∧ WS K (forLoop fg fb it μ (i + 1) ρ h) m H' D, fun σ' H' q => ⟨μ, Nat.lt_succ_self _, q⟩, fun y H3 hy => ?_⟩
        obtain ⟨P3, S3, rv⟩ := yl y H3 hy
        have w3 := WS.at w2 P3
        refine ⟨m2, h2, ρ2, x, S3, en2.mono P3, rv, (WS.bind (Rx := rE K) w3).mono fun σ4 H4 ⟨m4, h4, ρ4, P4, S4, en4, w4⟩ => ?_⟩
        refine ⟨m4, h4, ρ4, S4, en4, WS.seq w4 fun p m5 h5 H5 σ5 P5 S5 en5 w5 => ?_⟩
        have r5 := ((r2.mono P3).mono P4).mono P5
        obtain ⟨ρ5, fl⟩ := p
        cases fl with
        | nx => exact ⟨m5, h5, ρ5, S5, en5, r5, w5⟩
        | ct => exact ⟨m5, h5, ρ5, S5, en5, r5, w5⟩
        | bk => exact WS.ret (p := (ρ5, Fl.nx)) w5 S5 en5
        | rt v => exact WS.ret (p := (ρ5, Fl.rt v)) w5 S5 en5
/-- while -/
theorem whl_lift {K : PySem.W.Frag} {ft : Env → M Bool} {fb : Env → M (Env × Fl)} {W : Nat} {D : Ends} {σ : L2.St} {H : Hp}
    (w : tSt K (fun ρ => whlLoop ft fb W ρ) D σ H) : tWhile (tT K ft) (tSt K fb) D σ H := by
  obtain ⟨m, h, ρ, S, en, w⟩ := w
  refine ⟨fun μ σ' H' => ∃ m h ρ, Sim K m h H' ∧ EnvR K m H' ρ σ' ∧ WS K (whlLoop ft fb μ ρ h) m H' D, ⟨W, m, h, ρ, S, en, w⟩, ?_⟩
  rintro μ σ2 H2 ⟨m2, h2, ρ2, S2, en2, w2⟩
  cases μ with
  | zero => exact False.elim w2
  | succ μ =>
    unfold whlLoop at w2
    refine liftS (R := rId) (f := ft) (g := fun k ρ2 => if k then (fb ρ2).bnd fun p => match p.2 with
      | .nx => whlLoop ft fb μ p.1
      | .ct => whlLoop ft fb μ p.1
      | .bk => .ret (p.1, .nx)
      | .rt v => .ret (p.1, .rt v)
    else .ret (ρ2, .nx)) S2 en2 w2 fun m3 h3 k b H3 P3 S3 en3 e w3 => ?_
    cases e
    cases k with
    | false =>
      rw [if_neg Bool.false_ne_true]
      exact WS.ret (p := (ρ2, Fl.nx)) w3 S3 en3
    | true =>
      rw [if_pos rfl]
      replace w3 : WS K ((fb ρ2).bnd (fun p => match p.2 with
      | .nx => whlLoop ft fb μ p.1
      | .ct => whlLoop ft fb μ p.1
      | .bk => .ret (p.1, .nx)
      | .rt v => .ret (p.1, .rt v)) h3) m3 H3 D := w3
      refine ⟨fun σ' H' => ∃ m h ρ, Sim K m h H' ∧ EnvR K m H' ρ σ' ∧ WS K (whlLoop ft fb μ ρ h) m H' D, fun σ' H' q => ⟨μ, Nat.lt_succ_self _, q⟩, ?_⟩
      refine ⟨m3, h3, ρ2, S3, en3, WS.seq w3 fun p m5 h5 H5 σ5 P5 S5 en5 w5 => ?_⟩
      obtain ⟨ρ5, fl⟩ := p
      cases fl with
      | nx => exact ⟨m5, h5, ρ5, S5, en5, w5⟩
      | ct => exact ⟨m5, h5, ρ5, S5, en5, w5⟩
      | bk => exact WS.ret (p := (ρ5, Fl.nx)) w5 S5 en5
      | rt v => exact WS.ret (p := (ρ5, Fl.rt v)) w5 S5 en5
/-- a target of a comprehension: it stores in own slots alone -/
def tGw (K : PySem.W.Frag) (own : List Nat) (f : MV → Env → M Env) : TG := fun v σ H Q => ∃ m h ρ x, Sim K m h H ∧ EnvR K m H ρ σ ∧ VR K m H x v ∧ WP K (rE K) (f x ρ h) m H (fun σ' H' => L2.wipe σ' own = L2.wipe σ own → Q σ' H')
theorem WP.bind' {K : PySem.W.Frag} {α β γ δ : Type} {Rx : List Addr → Hp → α → β → Prop} {R : List Addr → Hp → γ → δ → Prop} {x : M α} {f : α → M γ} {m : List Addr} {h0 : MH} {H : Hp} {Q : δ → Hp → Prop} (h : WP K R (M.bnd x f h0) m H Q) (m2 : List Addr) (H2 : Hp) :
    WP K Rx (x h0) m2 H2 (fun b H3 => ∃ m3 h3 a, Post K m2 H2 m3 H3 ∧ Sim K m3 h3 H3 ∧ Rx m3 H3 a b ∧ WP K R (f a h3) m H Q) := by
  unfold M.bnd at h
  cases e : x h0 with
  | ok a h' =>
    rw [e] at h
    exact fun m' H' b P S r => ⟨m', h', a, P, S, r, h⟩
  | exc _ _ => rw [e] at h; exact h
  | stuck => rw [e] at h; exact h
theorem WP.bnd_bnd {K : PySem.W.Frag} {α β γ δ : Type} {R : List Addr → Hp → γ → δ → Prop} {x : M α} {f : α → M β} {g : β → M γ} {h0 : MH} : M.bnd (M.bnd x f) g h0 = M.bnd x (fun a => M.bnd (f a) g) h0 := by
  unfold M.bnd
  cases x h0 <;> rfl
theorem wipe_get (τ : L2.St) (j : Nat) : ∀ vs : List Nat, (L2.wipe τ vs)[j]? = if j ∈ vs then (τ[j]?).map (fun _ => none) else τ[j]?
  | [] => rfl
  | v :: vs => by
    have ih := wipe_get τ j vs
    unfold L2.wipe
    by_cases hv : v = j
    · subst hv
      rw [if_pos List.mem_cons_self]
      by_cases hl : v < (L2.wipe τ vs).length
      · rw [List.getElem?_set_self hl]
        rw [L2.wipe_length] at hl
        rw [List.getElem?_eq_getElem hl]
        rfl
      · rw [List.getElem?_eq_none (by simpa using hl)]
        rw [L2.wipe_length] at hl
        rw [List.getElem?_eq_none (by omega)]
        rfl
    · rw [List.getElem?_set_ne hv, ih]
      by_cases hi : j ∈ vs
      · rw [if_pos hi, if_pos (List.mem_cons_of_mem _ hi)]
      · rw [if_neg hi, if_neg (fun z => (List.mem_cons.mp z).elim (fun e => hv e.symm) hi)]
theorem wipe_wipe (σ : L2.St) (own : List Nat) : L2.wipe (L2.wipe σ own) own = L2.wipe σ own := by
  apply List.ext_getElem?
  intro i
  rw [wipe_get, wipe_get]
  by_cases hi : i ∈ own
  · rw [if_pos hi, if_pos hi]
    cases σ[i]? <;> rfl
  · rw [if_neg hi]
theorem wipe_set (σ : L2.St) {own : List Nat} {i : Nat} (hi : i ∈ own) (x : Option V) : L2.wipe (σ.set i x) own = L2.wipe σ own := by
  apply List.ext_getElem?
  intro j
  rw [wipe_get, wipe_get]
  by_cases hj : j ∈ own
  · rw [if_pos hj, if_pos hj]
    by_cases hij : i = j
    · subst hij
      by_cases hl : i < σ.length
      · rw [List.getElem?_set_self hl, List.getElem?_eq_getElem hl]; rfl
      · rw [List.getElem?_eq_none (by simpa using hl), List.getElem?_eq_none (by omega)]
    · rw [List.getElem?_set_ne hij]
  · rw [if_neg hj, if_neg hj, List.getElem?_set_ne (fun e => hj (by rw [← e]; exact hi))]
theorem M.bnd_congr {α β : Type} {x y : M α} {f : α → M β} {h : MH} (e : x h = y h) : M.bnd x f h = M.bnd y f h := by
  unfold M.bnd
  rw [e]
theorem lcLoop_eq {step : MV → M (Option MV)} {it : Itv} {w i : Nat} {acc : List MV} {h : MH} : lcLoop step it (w + 1) i acc h = match nxt h it i with
    | none => .stuck
    | some none => .ok acc h
    | some (some x) => ((step x).bnd fun o => match o with
      | some y => if fitsL acc.length then lcLoop step it w (i + 1) (acc ++ [y]) else .stk
      | none => lcLoop step it w (i + 1) acc) h := rfl
theorem lcStep_eq {fg : MV → Env → M Env} {ft : Env → M Bool} {fe : Env → M MV} {ρ : Env} {x : MV} : lcStep fg ft fe ρ x = (fg x ρ).bnd fun ρ' => (ft ρ').bnd fun k => if k then (fe ρ').bnd fun y => .ret (some y) else .ret none := rfl
/-- a comprehension -/
theorem lc_lift {K : PySem.W.Frag} {fi : Env → M Itv} {fg : MV → Env → M Env} {ft : Env → M Bool} {fe : Env → M MV} {own : List Nat} {W : Nat} {Q : VK} {σ : L2.St} {H : Hp}
    (w : tE K (fun ρ => (fi ρ).bnd fun J => (lcLoop (lcStep fg ft fe (wipeE ρ own)) J W 0 []).bnd fun ys => M.alloc (.lst ys)) σ H Q) :
    tLc (tI K fi) (tGw K own fg) (tT K ft) (tE K fe) own σ H Q := by
  obtain ⟨m, h, ρ, S, en, w⟩ := w
  refine liftG (R := JR K) (f := fi) (g := fun J ρ => (lcLoop (lcStep fg ft fe (wipeE ρ own)) J W 0 []).bnd fun ys => M.alloc (.lst ys)) S en w fun m1 h1 it J H1 P S1 en1 rJ w1 => ?_
  intro D hD
  have PD : Post K m1 H1 m1 (upd H1 D (.lst [])) := ⟨List.prefix_refl _, fun _ _ q => tup_upd q (wr_none hD), fun _ _ q => roL_upd q (wr_none hD), frz_upd (wr_none hD), fun a o _ e => by rw [upd_ne (ne_of_none e hD)]; exact e, fun _ z n => absurd z n⟩
  have SD : Sim K m1 h1 (upd H1 D (.lst [])) := ⟨S1.len, S1.nd, fun l a o e1 e2 => (S1.ob l a o e1 e2).mono PD fun u e => by rw [upd_ne (ne_of_none e hD)]; exact e⟩
  have nD : D ∉ m1 := S1.notIn hD
  refine ⟨fun i μ H' => ∃ m h acc vs, Sim K m h H' ∧ EnvR K m H' ρ σ ∧ JR K m H' it J ∧ D ∉ m ∧ H' D = some (.lst vs) ∧ VRs K m H' acc vs ∧ Post K m1 H1 m H' ∧
    WP K (rV K) (((lcLoop (lcStep fg ft fe (wipeE ρ own)) it μ i acc).bnd fun ys => M.alloc (.lst ys)) h) m1 H1 Q,
    ⟨W, m1, h1, [], [], SD, en1.mono PD, rJ.mono PD, nD, upd_same, by unfold VRs; rfl, PD, w1⟩, ?_⟩
  rintro i μ H2 ⟨m2, h2, acc, vs, S2, en2, r2, n2, hD2, ra, P2, w2⟩
  cases μ with
  | zero => exact False.elim w2
  | succ μ =>
    cases e : nxt h2 it i with
    | none =>
      rw [M.bnd_congr (y := fun _ => .stuck) (by rw [lcLoop_eq, e])] at w2
      exact False.elim w2
    | some o =>
      cases o with
      | none =>
        refine .inl ⟨nxt_stop S2 r2 e, ?_⟩
        rw [M.bnd_congr (y := M.ret acc) (by rw [lcLoop_eq, e]; rfl)] at w2
        have w3 : WP K (rV K) (M.alloc (.lst acc) h2) m1 H1 Q := w2
        refine w3 (m2 ++ [D]) H2 (.ref D) ⟨P2.pre.trans (List.prefix_append _ _), P2.tup, P2.ro, P2.frz, P2.out, fun a z n => ?_⟩ (S2.adopt hD2 trivial n2 ⟨vs, hD2, ra.mn (Mon.adopt hD2 trivial)⟩) ?_
        · rcases List.mem_append.mp z with z | z
          · exact P2.new a z n
          · rw [List.mem_singleton.mp z]; exact hD
        · show VR _ _ _ _ _
          unfold VR
          exact ⟨D, by rw [← S2.len]; simp, rfl⟩
      | some x =>
        obtain ⟨go, yl⟩ := nxt_item S2 r2 e
        refine .inr ⟨go, fun H' => ∃ m h acc vs, Sim K m h H' ∧ EnvR K m H' ρ σ ∧ JR K m H' it J ∧ D ∉ m ∧ H' D = some (.lst vs) ∧ VRs K m H' acc vs ∧ Post K m1 H1 m H' ∧
          WP K (rV K) (((lcLoop (lcStep fg ft fe (wipeE ρ own)) it μ (i + 1) acc).bnd fun ys => M.alloc (.lst ys)) h) m1 H1 Q, fun H' q => ⟨μ, Nat.lt_succ_self _, q⟩, fun y H3 hy => ?_⟩
        obtain ⟨P3, S3, rv⟩ := yl y H3 hy
        rw [M.bnd_congr (y := (lcStep fg ft fe (wipeE ρ own) x).bnd fun o => match o with
          | some y => if fitsL acc.length then lcLoop (lcStep fg ft fe (wipeE ρ own)) it μ (i + 1) (acc ++ [y]) else .stk
          | none => lcLoop (lcStep fg ft fe (wipeE ρ own)) it μ (i + 1) acc) (by rw [lcLoop_eq, e]), WP.bnd_bnd (K := K) (R := rV K)] at w2
        rw [lcStep_eq] at w2
        rw [WP.bnd_bnd (K := K) (R := rV K)] at w2
        refine ⟨m2, h2, wipeE ρ own, x, S3, (en2.mono P3).wipe own, rv, (WP.bind' (Rx := rE K) w2 m2 H3).mono fun σ4 H4 ⟨m4, h4, ρ4, P4, S4, en4, w4⟩ hwp => ⟨hwp.trans (wipe_wipe σ own), ?_⟩⟩
        rw [WP.bnd_bnd (K := K) (R := rV K)] at w4
        refine ⟨m4, h4, ρ4, S4, en4, (WP.bind' (Rx := rId) w4 m4 H4).mono fun b H5 ⟨m5, h5, k, P5, S5, ek, w5⟩ => ?_⟩
        cases ek
        have PP := (P3.trans P4).trans P5
        cases b with
        | false =>
          rw [if_neg Bool.false_ne_true]
          have n5 : D ∉ m5 := fun z => by
            have q := PP.new D z n2
            rw [hD2] at q; cases q
          exact ⟨m5, h5, acc, vs, S5, en2.mono PP, r2.mono PP, n5, PP.out D _ n2 hD2, ra.mono PP, P2.trans PP, w5⟩
        | true =>
          rw [if_pos rfl]
          replace w5 : WP K (rV K) (M.bnd (M.bnd ((fe ρ4).bnd fun y => M.ret (some y)) fun o => match o with
            | some y => if fitsL acc.length then lcLoop (lcStep fg ft fe (wipeE ρ own)) it μ (i + 1) (acc ++ [y]) else .stk
            | none => lcLoop (lcStep fg ft fe (wipeE ρ own)) it μ (i + 1) acc) (fun ys => M.alloc (.lst ys)) h5) m1 H1 Q := by
            rw [WP.bnd_bnd (K := K) (R := rV K)]
            exact w5
          rw [WP.bnd_bnd (K := K) (R := rV K), WP.bnd_bnd (K := K) (R := rV K)] at w5
          refine ⟨m5, h5, ρ4, S5, en4.mono P5, (WP.bind' (Rx := rV K) w5 m5 H5).mono fun z H6 ⟨m6, h6, zv, P6, S6, rz, w6⟩ => ?_⟩
          have PQ := PP.trans P6
          have n6 : D ∉ m6 := fun z => by
            have q := PQ.new D z n2
            rw [hD2] at q; cases q
          have h6D := PQ.out D _ n2 hD2
          replace w6 : WP K (rV K) (M.bnd (if fitsL acc.length then lcLoop (lcStep fg ft fe (wipeE ρ own)) it μ (i + 1) (acc ++ [zv]) else .stk) (fun ys => M.alloc (.lst ys)) h6) m1 H1 Q := w6
          cases hf : fitsL acc.length with
          | false =>
            rw [hf] at w6
            exact False.elim w6
          | true =>
            rw [hf] at w6
            have A6 : Mon K m6 H6 m6 (upd H6 D (.lst (vs ++ [z]))) := Mon.aside h6D trivial trivial
            refine ⟨vs, h6D, by rw [← ra.length]; exact fitsL_lt hf, m6, h6, acc ++ [zv], vs ++ [z], S6.aside h6D trivial trivial n6, ⟨(en2.mono PQ).1, fun j u ej => ?_⟩, ?_, n6, upd_same, (((ra.mono PQ).append (VRs.one rz)).mn A6), ?_, w6⟩
            · obtain ⟨xx, e1, e2⟩ := (en2.mono PQ).2 j u ej
              exact ⟨xx, e1, e2.mn A6⟩
            · exact (r2.mono PQ).mn A6
            · have PR := P2.trans PQ
              refine ⟨PR.pre, fun a us q => A6.tup a us (PR.tup a us q), fun a us q => A6.ro a us (PR.ro a us q), fun a b u q => A6.frz a b u (PR.frz a b u q), fun a o n e => ?_, PR.new⟩
              rw [upd_ne (ne_of_none e hD)]
              exact PR.out a o n e
end MP
/-! MP: each construct lifted. -/
namespace MP
open PySem PySem.Spec PyProof.Rows L2
section
variable {X : Cx} {ea eb ec : Expr} {pos : Pos} {fa fb fc : Env → M MV} {ta tb tc : Env → M Bool}
/-! ### the syntax' side conditions -/
def noStar : Expr → Bool
  | .Starred _ _ => false
  | _ => true
theorem star_cons {e : Expr} {es : List Expr} {env : PySem.Env} (h : noStar e = true) : starEach (e :: es) env = (false, eval e env) :: starEach es env := by
  cases e <;> first | rfl | cases h
theorem star_any {env : PySem.Env} : ∀ {es : List Expr}, es.all noStar = true → (backTo pos (starEach es env)).any (·.1) = false
  | [], _ => rfl
  | e :: es, h => by
    rw [List.all_cons, Bool.and_eq_true_iff] at h
    rw [star_cons h.1]
    exact star_any h.2
theorem star_all {env : PySem.Env} : ∀ {es : List Expr}, es.all noStar = true → (backTo pos (starEach es env)).all (fun x => !x.1) = true
  | [], _ => rfl
  | e :: es, h => by
    rw [List.all_cons, Bool.and_eq_true_iff] at h
    rw [star_cons h.1]
    exact star_all h.2
def noSlice : Expr → Bool
  | .Slice _ _ _ _ => false
  | _ => true
theorem plain_ix {e : Expr} (h : noSlice e = true) : PlainIx e := by
  intro o i
  cases e <;> first | rfl | cases h
def noSet : Expr → Bool
  | .Set _ _ _ => false
  | _ => true
theorem no_behind {op : CmpOp} {e : Expr} (h : noSet e = true) : behindInMarks op e = false := by
  cases e <;> first | rfl | cases h
/-- no comprehension, so that nothing is swapped -/
def noComp : Expr → Bool
  | .ListComp _ _ _ _ | .SetComp _ _ _ _ | .DictComp _ _ _ _ _ => false
  | _ => true
theorem no_swaps {e : Expr} {t : Option Expr} {l : Nat} {env : PySem.Env} (h : noComp e = true) : swapsWith e t l env = pure false := by
  cases e <;> first | rfl | cases h
def noSuper : Expr → Bool
  | .Call (.Name _ _) [] [] _ => false
  | _ => true
theorem no_super {e : Expr} {a : Str} {env : PySem.Env} {w : Sem Value} (h : noSuper e = true) : attributeBase e a env w = w := by
  unfold attributeBase
  split
  · cases h
  · rfl
theorem no_folded {e : Expr} {env : PySem.Env} (h : noSet e = true) : ∀ x, foldedSetIterable e env x = pure x := by
  intro x
  cases e <;> first | rfl | cases h
/-- an expression whose test is its value's truth -/
def plainTest : Expr → Bool
  | .UnaryOp .Not _ _ | .BoolOp _ _ _ | .IfExp _ _ _ _ | .Compare _ _ _ _ => false
  | _ => true
theorem plain_test {e : Expr} {env : PySem.Env} (h : plainTest e = true) : ∀ w, isTrue e env w = (do let v ← w; standAt e.pos; holding [v] (truthy v)) := by
  intro w
  cases e with
  | UnaryOp o x p => cases o <;> first | rfl | cases h
  | _ => first | rfl | cases h

/-! ### expressions -/
theorem l_bin (o : Bop) (ha : PE X ea (tE X.K fa)) (hb : PE X eb (tE X.K fb)) : PE X (.BinOp ea (aBop o) eb pos) (tE X.K fun ρ => (fa ρ).bnd fun x => (fb ρ).bnd fun y => binV o x y) :=
  pe_imp (pe_op (op_binM o) ha hb) fun σ H Q ⟨m, h, ρ, S, en, w⟩ =>
    liftG (g := fun x ρ => (fb ρ).bnd fun y => binV o x y) S en w fun m1 h1 x v H1 P1 S1 en1 r1 w1 =>
      liftG (g := fun y _ => binV o x y) S1 en1 w1 fun m2 h2 y u H2 P2 S2 en2 r2 w2 => ⟨m2, h2, x, y, S2, r1.mono P2, r2, w2⟩
theorem l_neg (ha : PE X ea (tE X.K fa)) : PE X (.UnaryOp .USub ea pos) (tE X.K fun ρ => (fa ρ).bnd negV) :=
  pe_imp (pe_un un_neg ha) fun σ H Q ⟨m, h, ρ, S, en, w⟩ =>
    liftG (R := rV X.K) (g := fun x _ => negV x) S en w fun m1 h1 x v H1 P1 S1 en1 r1 w1 => by
      cases x with
      | int i => exact ⟨i, vr_int' r1, w1.ret S1 (vr_int _)⟩
      | _ => exact False.elim w1
theorem l_cmp (sm : SmOk X) (hu : X.A.units + 65 < cLine) (o : Cop) (hn : noSet eb = true) (ha : PE X ea (tE X.K fa)) (hb : PE X eb (tE X.K fb)) :
    PE X (.Compare ea [aCop o] [eb] pos) (tE X.K fun ρ => (fa ρ).bnd fun x => (fb ρ).bnd fun y => (cmpV o x y).bnd fun k => .ret (MV.bl k)) :=
  pe_imp (pe_cmpR (op_cmpM sm hu o) ha hb (no_behind hn)) fun σ H Q ⟨m, h, ρ, S, en, w⟩ =>
    liftG (R := rV X.K) (g := fun x ρ => (fb ρ).bnd fun y => (cmpV o x y).bnd fun k => .ret (MV.bl k)) S en w fun m1 h1 x v H1 P1 S1 en1 r1 w1 =>
      liftG (R := rV X.K) (g := fun y _ => (cmpV o x y).bnd fun k => .ret (MV.bl k)) S1 en1 w1 fun m2 h2 y u H2 P2 S2 en2 r2 w2 =>
        ⟨m2, h2, x, y, S2, r1.mono P2, r2, (WP.bind (Rx := rId) w2).mono fun k H3 ⟨m3, h3, k', P3, S3, e, w3⟩ => by
          cases e
          exact w3.ret S3 (vr_bl _)⟩
theorem lt_cmp (sm : SmOk X) (hu : X.A.units + 65 < cLine) (o : Cop) (hn : noSet eb = true) (ha : PE X ea (tE X.K fa)) (hb : PE X eb (tE X.K fb)) :
    PT X (.Compare ea [aCop o] [eb] pos) (tT X.K fun ρ => (fa ρ).bnd fun x => (fb ρ).bnd fun y => cmpV o x y) :=
  pt_imp (pt_cmpR (op_cmpM sm hu o) ha hb (no_behind hn)) fun σ H Q ⟨m, h, ρ, S, en, w⟩ =>
    liftG (R := rV X.K) (g := fun x ρ => (fb ρ).bnd fun y => cmpV o x y) S en w fun m1 h1 x v H1 P1 S1 en1 r1 w1 =>
      liftG (R := rV X.K) (g := fun y _ => cmpV o x y) S1 en1 w1 fun m2 h2 y u H2 P2 S2 en2 r2 w2 =>
        ⟨m2, h2, x, y, S2, r1.mono P2, r2, w2.mono fun k H3 q => ⟨k, rfl, q⟩⟩
theorem marks2 {o p : CmpOp} {b c : Expr} (h : noSet c = true) : lastMarks [o, p] [b, c] = false := by
  show behindInMarks p c = false
  exact no_behind h
theorem l_chain (sm : SmOk X) (hu : X.A.units + 65 < cLine) (o p : Cop) (hn : noSet ec = true) (ha : PE X ea (tE X.K fa)) (hb : PE X eb (tE X.K fb)) (hc : PE X ec (tE X.K fc)) :
    PE X (.Compare ea [aCop o, aCop p] [eb, ec] pos) (tE X.K fun ρ => (fa ρ).bnd fun x => (fb ρ).bnd fun y => (cmpV o x y).bnd fun k =>
      if k then (fc ρ).bnd fun z => (cmpV p y z).bnd fun k => .ret (MV.bl k) else .ret (MV.bl false)) :=
  pe_imp (L2.pe_chain (op_cmpM sm hu o) (op_cmpM sm hu p) ha hb hc (marks2 hn)) fun σ H Q ⟨m, h, ρ, S, en, w⟩ =>
    liftG (R := rV X.K) (g := fun x ρ => (fb ρ).bnd fun y => (cmpV o x y).bnd fun k => if k then (fc ρ).bnd fun z => (cmpV p y z).bnd fun k => .ret (MV.bl k) else .ret (MV.bl false)) S en w fun m1 h1 x v H1 P1 S1 en1 r1 w1 =>
      liftG (R := rV X.K) (g := fun y ρ => (cmpV o x y).bnd fun k => if k then (fc ρ).bnd fun z => (cmpV p y z).bnd fun k => .ret (MV.bl k) else .ret (MV.bl false)) S1 en1 w1 fun m2 h2 y u H2 P2 S2 en2 r2 w2 =>
        ⟨m2, h2, x, y, S2, r1.mono P2, r2, (WP.bind (Rx := rId) w2).mono fun k H3 ⟨m3, h3, k', P3, S3, e, w3⟩ => by
          cases e
          refine ⟨k, rfl, ?_⟩
          cases k with
          | false =>
            rw [if_neg Bool.false_ne_true]
            exact WP.ret (a := MV.bl false) w3 S3 (vr_bl _)
          | true =>
            rw [if_pos rfl]
            exact liftG (R := rV X.K) (g := fun z _ => (cmpV p y z).bnd fun k => .ret (MV.bl k)) S3 (en2.mono P3) w3 fun m4 h4 z uz H4 P4 S4 en4 r4 w4 =>
              ⟨m4, h4, y, z, S4, (r2.mono P3).mono P4, r4, (WP.bind (Rx := rId) w4).mono fun k H5 ⟨m5, h5, k', P5, S5, e, w5⟩ => by
                cases e
                exact w5.ret S5 (vr_bl _)⟩⟩
theorem lt_chain (sm : SmOk X) (hu : X.A.units + 65 < cLine) (o p : Cop) (hn : noSet ec = true) (ha : PE X ea (tE X.K fa)) (hb : PE X eb (tE X.K fb)) (hc : PE X ec (tE X.K fc)) :
    PT X (.Compare ea [aCop o, aCop p] [eb, ec] pos) (tT X.K fun ρ => (fa ρ).bnd fun x => (fb ρ).bnd fun y => (cmpV o x y).bnd fun k =>
      if k then (fc ρ).bnd fun z => cmpV p y z else .ret false) :=
  pt_imp (L2.pt_chain (op_cmpM sm hu o) (op_cmpM sm hu p) ha hb hc (marks2 hn)) fun σ H Q ⟨m, h, ρ, S, en, w⟩ =>
    liftG (R := rV X.K) (g := fun x ρ => (fb ρ).bnd fun y => (cmpV o x y).bnd fun k => if k then (fc ρ).bnd fun z => cmpV p y z else .ret false) S en w fun m1 h1 x v H1 P1 S1 en1 r1 w1 =>
      liftG (R := rV X.K) (g := fun y ρ => (cmpV o x y).bnd fun k => if k then (fc ρ).bnd fun z => cmpV p y z else .ret false) S1 en1 w1 fun m2 h2 y u H2 P2 S2 en2 r2 w2 =>
        ⟨m2, h2, x, y, S2, r1.mono P2, r2, (WP.bind (Rx := rId) w2).mono fun k H3 ⟨m3, h3, k', P3, S3, e, w3⟩ => by
          cases e
          refine ⟨k, rfl, ?_⟩
          cases k with
          | false =>
            rw [if_neg Bool.false_ne_true]
            exact ⟨false, rfl, WP.ret (a := false) w3 S3 rfl⟩
          | true =>
            rw [if_pos rfl]
            exact liftG (R := rV X.K) (g := fun z _ => cmpV p y z) S3 (en2.mono P3) w3 fun m4 h4 z uz H4 P4 S4 en4 r4 w4 =>
              ⟨m4, h4, y, z, S4, (r2.mono P3).mono P4, r4, w4.mono fun k H5 q => ⟨k, rfl, q⟩⟩⟩
/-- is a constant -/
theorem is_bool_gen {M : Model} {A : Around} {E : Value → Shared → Prop} {s : Shared} {v : Value} {b : Bool} {Q : Value → Shared → Prop} (nb : ∀ i, v ≠ .builtin i) (h : Q (.bool (v == .bool b)) s) : wpAny M A (compareOp .Is v (.bool b)) Q E s := by
  cases v <;> first | exact wpAny_pure h | exact absurd rfl (nb _)
theorem isnot_bool_gen {M : Model} {A : Around} {E : Value → Shared → Prop} {s : Shared} {v : Value} {b : Bool} {Q : Value → Shared → Prop} (nb : ∀ i, v ≠ .builtin i) (h : Q (.bool (!(v == .bool b))) s) : wpAny M A (compareOp .IsNot v (.bool b)) Q E s := by
  cases v <;> first | exact wpAny_pure h | exact absurd rfl (nb _)
def cK : MV → Option Const
  | .non => some .none
  | .bl b => some (.bool b)
  | .int i => some (.int i)
  | .str s => some (.str s)
  | _ => none
theorem isK_val {K : PySem.W.Frag} {m : List Addr} {H : Hp} {x k : MV} {v : V} {u : Value} {α β : Type} {R : List Addr → Hp → α → β → Prop} {f : Bool → M α} {h : MH} {Q : β → Hp → Prop} (hk : k = .non ∨ ∃ b, k = .bl b) (r : VR K m H x v) (q : L2.RelV v u) (w : WP K R (((isKV x k).bnd f) h) m H Q) :
    (∀ i, u ≠ .builtin i) ∧ ∃ b, WP K R (f b h) m H Q ∧ ((k = .non ∧ (u == Value.none) = b) ∨ ∃ c, k = .bl c ∧ (u == Value.bool c) = b) := by
  rcases hk with rfl | ⟨c, rfl⟩
  · cases x with
    | non => rw [vr_non' r] at q; cases q; exact ⟨(fun _ z => nomatch z), true, w, .inl ⟨rfl, rfl⟩⟩
    | bl b => rw [vr_bl' r] at q; cases q; exact ⟨(fun _ z => nomatch z), false, w, .inl ⟨rfl, rfl⟩⟩
    | int b => rw [vr_int' r] at q; obtain ⟨t, rfl⟩ := q; exact ⟨(fun _ z => nomatch z), false, w, .inl ⟨rfl, rfl⟩⟩
    | str b => rw [vr_str' r] at q; obtain ⟨t, rfl⟩ := q; exact ⟨(fun _ z => nomatch z), false, w, .inl ⟨rfl, rfl⟩⟩
    | tup b => obtain ⟨a, vs, rfl, _⟩ := vr_tup' r; cases q; exact ⟨(fun _ z => nomatch z), false, w, .inl ⟨rfl, rfl⟩⟩
    | ro b => obtain ⟨a, vs, rfl, _⟩ := vr_ro' r; cases q; exact ⟨(fun _ z => nomatch z), false, w, .inl ⟨rfl, rfl⟩⟩
    | ref b => obtain ⟨a, _, rfl⟩ := vr_ref' r; cases q; exact ⟨(fun _ z => nomatch z), false, w, .inl ⟨rfl, rfl⟩⟩
    | rod _ _ _ => obtain ⟨a, _, _, rfl, _⟩ := vr_rod' r; cases q; exact ⟨(fun _ z => nomatch z), false, w, .inl ⟨rfl, rfl⟩⟩
    | obj _ _ _ => obtain ⟨a, _, _, rfl, _⟩ := vr_obj' r; cases q; exact ⟨(fun _ z => nomatch z), false, w, .inl ⟨rfl, rfl⟩⟩
  · cases x with
    | non => rw [vr_non' r] at q; cases q; exact ⟨(fun _ z => nomatch z), false, w, .inr ⟨c, rfl, rfl⟩⟩
    | bl b => rw [vr_bl' r] at q; cases q; exact ⟨(fun _ z => nomatch z), b == c, w, .inr ⟨c, rfl, by cases b <;> cases c <;> rfl⟩⟩
    | int b => rw [vr_int' r] at q; obtain ⟨t, rfl⟩ := q; exact ⟨(fun _ z => nomatch z), false, w, .inr ⟨c, rfl, rfl⟩⟩
    | str b => rw [vr_str' r] at q; obtain ⟨t, rfl⟩ := q; exact ⟨(fun _ z => nomatch z), false, w, .inr ⟨c, rfl, rfl⟩⟩
    | tup b => obtain ⟨a, vs, rfl, _⟩ := vr_tup' r; cases q; exact ⟨(fun _ z => nomatch z), false, w, .inr ⟨c, rfl, rfl⟩⟩
    | ro b => obtain ⟨a, vs, rfl, _⟩ := vr_ro' r; cases q; exact ⟨(fun _ z => nomatch z), false, w, .inr ⟨c, rfl, rfl⟩⟩
    | ref b => obtain ⟨a, _, rfl⟩ := vr_ref' r; cases q; exact ⟨(fun _ z => nomatch z), false, w, .inr ⟨c, rfl, rfl⟩⟩
    | rod _ _ _ => obtain ⟨a, _, _, rfl, _⟩ := vr_rod' r; cases q; exact ⟨(fun _ z => nomatch z), false, w, .inr ⟨c, rfl, rfl⟩⟩
    | obj _ _ _ => obtain ⟨a, _, _, rfl, _⟩ := vr_obj' r; cases q; exact ⟨(fun _ z => nomatch z), false, w, .inr ⟨c, rfl, rfl⟩⟩
def isKop (ng : Bool) : CmpOp := if ng then .IsNot else .Is
/-- the rule of is, by values -/
def rK (K : PySem.W.Frag) (ng : Bool) (k : MV) : R2 := fun x y H Q => ∃ m h a, Sim K m h H ∧ VR K m H a x ∧ ((k = .non ∧ y = .non) ∨ ∃ b, k = .bl b ∧ y = .bl b) ∧ WP K rId (((isKV a k).bnd fun b => .ret (if ng then !b else b)) h) m H (fun b H' => Q (.bl b) H')
theorem op_isK (ng : Bool) (k : MV) : OpR X (compareOp (isKop ng)) (rK X.K ng k) := by
  intro pins s σ H x y v u Q I rx ry ⟨m, h, a, S, ra, hk, w⟩
  obtain ⟨nb, b, w, e⟩ := isK_val (hk.imp (fun z => z.1) fun ⟨b, z, _⟩ => ⟨b, z⟩) ra rx w
  have q := w.ret S rfl
  rcases hk with ⟨rfl, rfl⟩ | ⟨c, rfl, rfl⟩
  · cases ry
    rcases e with ⟨_, e⟩ | ⟨_, e, _⟩
    · cases ng with
      | false => exact is_none_gen ⟨.bl b, H, I, by rw [e]; rfl, q⟩
      | true => exact isnot_none_gen ⟨.bl (!b), H, I, by rw [e]; rfl, q⟩
    · cases e
  · cases ry
    rcases e with ⟨e, _⟩ | ⟨c', e', e⟩
    · cases e
    · cases e'
      cases ng with
      | false => exact is_bool_gen nb ⟨.bl b, H, I, by rw [e]; rfl, q⟩
      | true => exact isnot_bool_gen nb ⟨.bl (!b), H, I, by rw [e]; rfl, q⟩
theorem pe_const {k : MV} {c : Const} {j : Nat} {p : Pos} (hk : (k = .non ∧ c = .none) ∨ ∃ b, k = .bl b ∧ c = .bool b) : PE X (.Constant c j p) (fun _ H Q => ∀ y, ((k = .non ∧ y = .non) ∨ ∃ b, k = .bl b ∧ y = .bl b) → Q y H) := by
  rcases hk with ⟨rfl, rfl⟩ | ⟨b, rfl, rfl⟩
  · exact pe_imp pe_non fun σ H Q q => q .non (.inl ⟨rfl, rfl⟩)
  · exact pe_imp pe_bl fun σ H Q q => q (.bl b) (.inr ⟨b, rfl, rfl⟩)
theorem l_isK (ng : Bool) {k : MV} {c : Const} {j : Nat} {p : Pos} (hk : (k = .non ∧ c = .none) ∨ ∃ b, k = .bl b ∧ c = .bool b) (ha : PE X ea (tE X.K fa)) :
    PE X (.Compare ea [isKop ng] [.Constant c j p] pos) (tE X.K fun ρ => (fa ρ).bnd fun x => (isKV x k).bnd fun b => .ret (MV.bl (if ng then !b else b))) :=
  pe_imp (pe_cmpR (op_isK ng k) ha (pe_const hk) (by cases ng <;> rfl)) fun σ H Q ⟨m, h, ρ, S, en, w⟩ =>
    liftG (R := rV X.K) (g := fun x _ => (isKV x k).bnd fun b => .ret (MV.bl (if ng then !b else b))) S en w fun m1 h1 x v H1 P1 S1 en1 r1 w1 y hy => by
      refine ⟨m1, h1, x, S1, r1, hy, ?_⟩
      have : WP X.K (rV X.K) ((((isKV x k).bnd fun b => M.ret (if ng then !b else b)).bnd fun b => .ret (MV.bl b)) h1) m1 H1 Q := by
        rw [WP.bnd_bnd (K := X.K) (R := rV X.K)]
        exact w1
      exact (WP.bind (Rx := rId) this).mono fun b H2 ⟨m2, h2, b', P2, S2, e, w2⟩ => by
        cases e
        exact w2.ret S2 (vr_bl _)
theorem lt_isK (ng : Bool) {k : MV} {c : Const} {j : Nat} {p : Pos} (hk : (k = .non ∧ c = .none) ∨ ∃ b, k = .bl b ∧ c = .bool b) (ha : PE X ea (tE X.K fa)) :
    PT X (.Compare ea [isKop ng] [.Constant c j p] pos) (tT X.K fun ρ => (fa ρ).bnd fun x => (isKV x k).bnd fun b => .ret (if ng then !b else b)) :=
  pt_imp (pt_cmpR (op_isK ng k) ha (pe_const hk) (by cases ng <;> rfl)) fun σ H Q ⟨m, h, ρ, S, en, w⟩ =>
    liftG (R := rV X.K) (g := fun x _ => (isKV x k).bnd fun b => .ret (if ng then !b else b)) S en w fun m1 h1 x v H1 P1 S1 en1 r1 w1 y hy =>
      ⟨m1, h1, x, S1, r1, hy, w1.mono fun b H2 q => ⟨b, rfl, q⟩⟩
/-- a value's truth -/
theorem lt_val (hp : plainTest ea = true) (ha : PE X ea (tE X.K fa)) : PT X ea (tT X.K fun ρ => (fa ρ).bnd truV) :=
  pt_imp (pt_truth ha (plain_test hp)) fun σ H Q ⟨m, h, ρ, S, en, w⟩ =>
    liftG (R := rV X.K) (g := fun x _ => truV x) S en w fun m1 h1 x v H1 P1 S1 en1 r1 w1 => tru_of S1 r1 w1
theorem l_not (ha : PE X ea (tE X.K fa)) : PE X (.UnaryOp .Not ea pos) (tE X.K fun ρ => (fa ρ).bnd notV) :=
  pe_imp (pe_not ha) fun σ H Q ⟨m, h, ρ, S, en, w⟩ =>
    liftG (R := rV X.K) (g := fun x _ => notV x) S en w fun m1 h1 x v H1 P1 S1 en1 r1 w1 => by
      cases x with
      | bl i => exact ⟨i, vr_bl' r1, w1.ret S1 (vr_bl _)⟩
      | _ => exact False.elim w1
theorem lt_not (ha : PT X ea (tT X.K ta)) : PT X (.UnaryOp .Not ea pos) (tT X.K fun ρ => (ta ρ).bnd fun k => .ret (!k)) :=
  pt_imp (pt_not ha) fun σ H Q ⟨m, h, ρ, S, en, w⟩ =>
    liftG (R := rId) (g := fun k _ => .ret (!k)) S en w fun m1 h1 k v H1 P1 S1 en1 r1 w1 => by
      cases r1
      exact w1.ret S1 rfl
theorem l_ife (hc : PT X ec (tT X.K tc)) (ha : PE X ea (tE X.K fa)) (hb : PE X eb (tE X.K fb)) : PE X (.IfExp ec ea eb pos) (tE X.K fun ρ => (tc ρ).bnd fun k => if k then fa ρ else fb ρ) :=
  pe_imp (pe_ifExp hc ha hb) fun σ H Q ⟨m, h, ρ, S, en, w⟩ =>
    liftG (R := rId) (g := fun k ρ => if k then fa ρ else fb ρ) S en w fun m1 h1 k v H1 P1 S1 en1 r1 w1 => by
      cases r1
      cases k with
      | false => rw [if_neg Bool.false_ne_true]; exact ⟨m1, h1, ρ, S1, en1, w1⟩
      | true => rw [if_pos rfl]; exact ⟨m1, h1, ρ, S1, en1, w1⟩
/-! and, or -/
def aB (d : Bool) : BoolOp := if d then .And else .Or
theorem l_b1 (d : Bool) (ha : PE X ea (tE X.K fa)) : PE X (.BoolOp (aB d) [ea] pos) (tE X.K fa) := pe_one ha
theorem l_b2 (d : Bool) {er : Expr} {es : List Expr} (ha : PE X ea (tE X.K fa)) (hb : PE X (.BoolOp (aB d) (er :: es) pos) (tE X.K fb)) :
    PE X (.BoolOp (aB d) (ea :: er :: es) pos) (tE X.K fun ρ => (fa ρ).bnd fun x => bopV d (fb ρ) x) := by
  cases d with
  | true =>
    refine pe_imp (pe_and ha hb) fun σ H Q ⟨m, h, ρ, S, en, w⟩ =>
      liftG (R := rV X.K) (g := fun x ρ => bopV true (fb ρ) x) S en w fun m1 h1 x v H1 P1 S1 en1 r1 w1 => ?_
    cases x with
    | bl k =>
      refine ⟨k, vr_bl' r1, ?_⟩
      cases k with
      | true => rw [if_pos rfl]; exact ⟨m1, h1, ρ, S1, en1, w1⟩
      | false => rw [if_neg Bool.false_ne_true]; exact WP.ret (a := MV.bl false) w1 S1 (vr_bl _)
    | _ => exact False.elim w1
  | false =>
    refine pe_imp (pe_or ha hb) fun σ H Q ⟨m, h, ρ, S, en, w⟩ =>
      liftG (R := rV X.K) (g := fun x ρ => bopV false (fb ρ) x) S en w fun m1 h1 x v H1 P1 S1 en1 r1 w1 => ?_
    cases x with
    | bl k =>
      refine ⟨k, vr_bl' r1, ?_⟩
      cases k with
      | true => rw [if_pos rfl]; exact WP.ret (a := MV.bl true) w1 S1 (vr_bl _)
      | false => rw [if_neg Bool.false_ne_true]; exact ⟨m1, h1, ρ, S1, en1, w1⟩
    | _ => exact False.elim w1
theorem lw_1 (d : Bool) (ha : PT X ea (tT X.K ta)) : PW X (.BoolOp (aB d) [ea] pos) (tT X.K ta) := by
  cases d with
  | true => exact pw_and1 ha
  | false => exact pw_or1 ha
theorem lw_2 (d : Bool) {er : Expr} {es : List Expr} (ha : PT X ea (tT X.K ta)) (hb : PW X (.BoolOp (aB d) (er :: es) pos) (tT X.K tb)) :
    PW X (.BoolOp (aB d) (ea :: er :: es) pos) (tT X.K fun ρ => (ta ρ).bnd fun k => if k == d then tb ρ else .ret k) := by
  cases d with
  | true =>
    refine pw_imp (pw_and ha hb) fun σ H Q ⟨m, h, ρ, S, en, w⟩ =>
      liftG (R := rId) (g := fun k ρ => if k == true then tb ρ else .ret k) S en w fun m1 h1 k v H1 P1 S1 en1 r1 w1 => ?_
    cases r1
    cases k with
    | true => rw [if_pos rfl]; exact ⟨m1, h1, ρ, S1, en1, w1⟩
    | false => rw [if_neg Bool.false_ne_true]; exact WP.ret (a := false) w1 S1 rfl
  | false =>
    refine pw_imp (pw_or ha hb) fun σ H Q ⟨m, h, ρ, S, en, w⟩ =>
      liftG (R := rId) (g := fun k ρ => if k == false then tb ρ else .ret k) S en w fun m1 h1 k v H1 P1 S1 en1 r1 w1 => ?_
    cases r1
    cases k with
    | true => rw [if_pos rfl]; exact WP.ret (a := true) w1 S1 rfl
    | false => rw [if_neg Bool.false_ne_true]; exact ⟨m1, h1, ρ, S1, en1, w1⟩
end
end MP
/-! MP: names, displays, calls, items, comprehensions, stores, statements. -/
namespace MP
open PySem PySem.Spec PyProof.Rows L2
section
variable {X : Cx} {ea eb ec : Expr} {es : List Expr} {pos p : Pos} {fa fb fc : Env → M MV} {ta tb tc : Env → M Bool} {fl fk : Env → M (List MV)}
theorem l_var {i : Nat} {x : Str} (hN : X.N[i]? = some x) (hv : Vis X.env.scope x) (hd : (x == ("__debug__" : Str)) = false) (hcd : (x == ("__classdict__" : Str)) = false) :
    PE X (.Name x pos) (tE X.K fun ρ => match ρ[i]? with
    | some (some v) => .ret v
    | _ => .stk) :=
  pe_imp (L2.pe_var hN hv hd hcd) fun σ H Q ⟨m, h, ρ, S, en, w⟩ => by
    cases e : ρ[i]? with
    | none =>
      have w : WP X.K (rV X.K) ((match ρ[i]? with
        | some (some v) => M.ret v
        | _ => M.stk) h) m H Q := w
      rw [e] at w
      exact False.elim w
    | some o =>
      have w : WP X.K (rV X.K) ((match ρ[i]? with
        | some (some v) => M.ret v
        | _ => M.stk) h) m H Q := w
      rw [e] at w
      cases o with
      | none => exact False.elim w
      | some v =>
        obtain ⟨y, e2, r⟩ := en.2 i v e
        exact ⟨y, e2, w.ret S r⟩
theorem l_lit {v : MV} {c : Const} {j : Nat} (h : cK v = some c) : PE X (.Constant c j pos) (tE X.K fun _ => .ret v) := by
  cases v with
  | non => cases h; exact pe_imp pe_non fun σ H Q ⟨m, h, ρ, S, en, w⟩ => w.ret S vr_non
  | bl b => cases h; exact pe_imp pe_bl fun σ H Q ⟨m, h, ρ, S, en, w⟩ => w.ret S (vr_bl _)
  | int b => cases h; exact pe_imp pe_int fun σ H Q ⟨m, h, ρ, S, en, w⟩ => w.ret S (vr_int _)
  | str b => cases h; exact pe_imp pe_str fun σ H Q ⟨m, h, ρ, S, en, w⟩ => w.ret S (vr_str _)
  | _ => cases h
/-- a module's constant -/
structure ConOk (K : PySem.W.Frag) (mg : Str → Option Value) (x : Str) (v : MV) : Prop where
  ex : ∃ u y, mg x = some u ∧ L2.RelV y u ∧ ∀ m H, VR K m H v y
theorem l_glo {x : Str} {v : MV} (hg : Gl X x) (hd : (x == ("__debug__" : Str)) = false) (c : ConOk X.K X.mg x v) : PE X (.Name x pos) (tE X.K fun _ => .ret v) := by
  obtain ⟨u, y, e, r, q⟩ := c.ex
  exact pe_imp (pe_glob hg e r hd) fun σ H Q ⟨m, h, ρ, S, en, w⟩ => w.ret S (q m H)
theorem l_nil : PA X [] (tA X.K fun _ => .ret []) := pa_imp pa_nil fun σ H Q ⟨m, h, ρ, S, en, w⟩ => w.ret S (by show VRs _ _ _ _ _; unfold VRs; rfl)
theorem l_cons (hs : noStar ea = true) (ha : PE X ea (tE X.K fa)) (hr : PA X es (tA X.K fl)) : PA X (ea :: es) (tA X.K fun ρ => (fa ρ).bnd fun x => (fl ρ).bnd fun xs => .ret (x :: xs)) :=
  pa_imp (pa_cons ha hr (star_cons hs)) fun σ H Q ⟨m, h, ρ, S, en, w⟩ =>
    liftG (R := rV X.K) (g := fun x ρ => (fl ρ).bnd fun xs => .ret (x :: xs)) S en w fun m1 h1 x v H1 P1 S1 en1 r1 w1 =>
      liftG (R := rL X.K) (g := fun xs _ => .ret (x :: xs)) S1 en1 w1 fun m2 h2 xs us H2 P2 S2 en2 r2 w2 =>
        w2.ret S2 (by show VRs _ _ _ _ _; unfold VRs; exact ⟨v, us, rfl, r1.mono P2, r2⟩)
theorem l_tup {j : Nat} (hl : PA X es (tA X.K fl)) : PE X (.Tuple es j pos) (tE X.K fun ρ => (fl ρ).bnd tupV) :=
  pe_imp (pe_tup hl) fun σ H Q ⟨m, h, ρ, S, en, w⟩ =>
    liftG (R := rL X.K) (g := fun xs _ => tupV xs) S en w fun m1 h1 xs vs H1 P1 S1 en1 r1 w1 => by
      unfold tupV at w1
      split at w1
      · rename_i hf
        exact ⟨by rw [← r1.length]; exact fits_le hf, wp_tup w1 S1 r1⟩
      · exact False.elim w1
theorem l_lst (hl : PA X es (tA X.K fl)) : PE X (.List es pos) (tE X.K fun ρ => (fl ρ).bnd lstV) :=
  pe_imp (pe_lst hl) fun σ H Q ⟨m, h, ρ, S, en, w⟩ =>
    liftG (R := rL X.K) (g := fun xs _ => lstV xs) S en w fun m1 h1 xs vs H1 P1 S1 en1 r1 w1 => by
      unfold lstV at w1
      split at w1
      · rename_i hf
        exact ⟨by rw [← r1.length]; exact fits_le hf, wp_lst w1 S1 r1⟩
      · exact False.elim w1
theorem l_dct0 : PE X (.Dict [] [] pos) (tE X.K fun _ => (M.ret []).bnd dctV) :=
  pe_imp pe_dnewK fun σ H Q ⟨m, h, ρ, S, en, w⟩ => wp_dct0 w S
theorem l_dct1 {k : Str} {j : Nat} (ha : PE X ea (tE X.K fa)) : PE X (.Dict [some (.Constant (.str k) j p)] [ea] pos) (tE X.K fun ρ => ((M.ret (MV.str k)).bnd fun x => ((fa ρ).bnd fun y => (M.ret []).bnd fun zs => .ret (y :: zs)).bnd fun ys => .ret (x :: ys)).bnd dctV) :=
  pe_imp (pe_disp (pps_cons pe_str ha pps_nil) rfl rfl (by simp) (by simp)) fun σ H Q ⟨m, h, ρ, S, en, w⟩ => by
    intro q hq
    have e : (((M.ret (MV.str k)).bnd fun x => ((fa ρ).bnd fun y => (M.ret []).bnd fun zs => M.ret (y :: zs)).bnd fun ys => M.ret (x :: ys)).bnd dctV) h = ((fa ρ).bnd fun y => dctV [.str k, y]) h := by
      simp only [M.bnd, M.ret]
      generalize fa ρ h = r
      cases r <;> rfl
    replace w : WP X.K (rV X.K) ((((M.ret (MV.str k)).bnd fun x => ((fa ρ).bnd fun y => (M.ret []).bnd fun zs => M.ret (y :: zs)).bnd fun ys => M.ret (x :: ys)).bnd dctV) h) m H Q := w
    rw [e] at w
    have PD : Post X.K m H m (upd H q (.dK [])) := ⟨List.prefix_refl _, fun _ _ z => tup_upd z (wr_none hq), fun _ _ z => roL_upd z (wr_none hq), frz_upd (wr_none hq), fun a o _ z => by rw [upd_ne (ne_of_none z hq)]; exact z, fun _ z n => absurd z n⟩
    have SD : Sim X.K m h (upd H q (.dK [])) := ⟨S.len, S.nd, fun l a o e1 e2 => (S.ob l a o e1 e2).mono PD fun u z => by rw [upd_ne (ne_of_none z hq)]; exact z⟩
    have nq : q ∉ m := S.notIn hq
    refine ⟨m, h, ρ, SD, en.mono PD, (WP.bind' (Rx := rV X.K) w m (upd H q (.dK []))).mono fun y H3 ⟨m3, h3, x, P3, S3, rx, w3⟩ => ?_⟩
    have n3 : q ∉ m3 := fun z => by
      have := P3.new q z nq
      rw [upd_same] at this; cases this
    have h3q : H3 q = some (.dK []) := P3.out q _ nq upd_same
    refine ⟨h3q, [(Sum.inr k, y)], rfl, by simp, ?_⟩
    have A3 : Mon X.K m3 H3 m3 (upd H3 q (.dK [(Sum.inr k, y)])) := Mon.aside h3q trivial trivial
    have S4 : Sim X.K m3 h3 (upd H3 q (.dK [(Sum.inr k, y)])) := ⟨S3.len, S3.nd, fun l a u e1 e2 => (S3.ob l a u e1 e2).mn A3 fun w' z => by
      rw [upd_ne]; exact z
      rintro rfl
      exact n3 (List.mem_of_getElem? e1)⟩
    have w3 : WP X.K (rV X.K) (M.alloc (.dct false [(.str k, x)]) h3) m H Q := w3
    have PR := PD.trans P3
    show Q (.ref q) (upd H3 q (.dK [(Sum.inr k, y)]))
    refine w3 (m3 ++ [q]) _ (.ref q) ⟨PR.pre.trans (List.prefix_append _ _), fun a us z => A3.tup a us (PR.tup a us z), fun a us z => A3.ro a us (PR.ro a us z), fun a b u z => A3.frz a b u (PR.frz a b u z), fun a o n z => ?_, fun a z n => ?_⟩ (S4.adopt (u := .dK [(Sum.inr k, y)]) upd_same trivial n3 ⟨_, upd_same, [(Sum.inr k, y)], rfl, ⟨Sum.inr k, y, [], rfl, rfl, (rx.mn A3).mn (Mon.adopt (u := .dK [(Sum.inr k, y)]) upd_same trivial), rfl⟩⟩) ?_
    · rw [upd_ne (ne_of_none z hq)]
      exact PR.out a o n z
    · rcases List.mem_append.mp z with z | z
      · exact PR.new a z n
      · rw [List.mem_singleton.mp z]; exact hq
    · show VR _ _ _ _ _
      unfold VR
      exact ⟨q, by rw [← S4.len]; simp, rfl⟩
end
end MP
/-! MP: calls, kinds, methods, items, slices, comprehensions, targets, walks, statements. -/
namespace MP
open PySem PySem.Spec PyProof.Rows L2
section
variable {X : Cx} {ea eb ec : Expr} {es : List Expr} {pos p : Pos} {fa fb fc : Env → M MV} {ta tb tc : Env → M Bool} {fl fk : Env → M (List MV)}
/-! ### calls -/
/-- a def as it is called by position -/
def CallM (X : Cx) (a : Addr) (g : List MV → M MV) : Prop := CallR X (.ref a) (rF X.K g)
theorem l_call0 {x : Str} {a : Addr} {g : List MV → M MV} (hg : Gl X x) (hd : (x == ("__debug__" : Str)) = false) (hm : X.mg x = some (.ref a)) (hk : PySem.W.keepIn X.K (.ref a) = true) (hc : CallM X a g) :
    PE X (.Call (.Name x p) [] [] pos) (tE X.K fun _ => (M.ret []).bnd g) := by
  refine ⟨fun pins s σ H Q I ⟨m, h, ρ, S, en, w⟩ => ?_⟩
  refine wpAny_Call_Name_kw (ld_glob I hg hm ?_ hd)
  exact PySem.W.callWith_K0 I.kIn hk (hc pins s σ H [] [] Q I .nil ⟨m, h, [], S, by unfold VRs; rfl, w⟩)
theorem l_call {x : Str} {a : Addr} {g : List MV → M MV} (hs : noStar ea = true) (hss : es.all noStar = true) (hg : Gl X x) (hd : (x == ("__debug__" : Str)) = false) (hm : X.mg x = some (.ref a)) (hk : PySem.W.keepIn X.K (.ref a) = true) (hc : CallM X a g) (hl : PA X (ea :: es) (tA X.K fl)) :
    PE X (.Call (.Name x p) (ea :: es) [] pos) (tE X.K fun ρ => (fl ρ).bnd g) := by
  refine ⟨fun pins s σ H Q I ⟨m, h, ρ, S, en, w⟩ => ?_⟩
  refine wpAny_Call_Name_kw (ld_glob I hg hm ?_ hd)
  have hl' := hl.run pos pins s σ H _ I (liftG (R := rL X.K) (g := fun xs _ => g xs) (r := fun vs H1 => rF X.K g vs H1 Q) S en w fun m1 h1 xs vs H1 P1 S1 en1 r1 w1 => ⟨m1, h1, xs, S1, r1, w1⟩)
  exact PySem.W.callWith_K (h₀ := X.base) I.ok.mod.kin hk (thn hl' fun us s1 ⟨vs, H1, I1, r1, q1⟩ => ⟨I1.kIn, hc pins s1 σ H1 vs us Q I1 r1 q1⟩) (star_cons hs) (star_any hss)
/-- keywords: all of them named -/
def kwOk (ks : List Str) : List Keyword → Bool
  | [] => ks.isEmpty
  | ⟨some n, _, _⟩ :: r => match ks with
    | k :: t => decide (k = n) && kwOk t r
    | [] => false
  | ⟨none, _, _⟩ :: _ => false
theorem kw_all {env : PySem.Env} : ∀ {kws : List Keyword} {ks : List Str}, kwOk ks kws = true → (backToKw pos (keywordEach kws env)).all (·.1.isSome) = true ∧ (backToKw pos (keywordEach kws env)).filterMap (·.1) = ks ∧ (backToKw pos (keywordEach kws env)).any (·.1.isNone) = false
  | [], ks, h => by
    cases ks with
    | nil => exact ⟨rfl, rfl, rfl⟩
    | cons _ _ => cases h
  | ⟨none, v, q⟩ :: r, ks, h => absurd h (by unfold kwOk; exact Bool.false_ne_true)
  | ⟨some n, v, q⟩ :: r, ks, h => by
    cases ks with
    | nil => cases h
    | cons k t =>
      have h : (decide (k = n) && kwOk t r) = true := h
      rw [Bool.and_eq_true_iff] at h
      obtain ⟨h1, h2, h3⟩ := kw_all (env := env) h.2
      have e : k = n := of_decide_eq_true h.1
      subst e
      refine ⟨?_, ?_, ?_⟩
      · show (true && _) = true
        rw [Bool.true_and]; exact h1
      · show k :: _ = k :: t
        rw [← h2]; rfl
      · show (false || _) = false
        rw [Bool.false_or]; exact h3
theorem l_knil : PK X [] (tA X.K fun _ => .ret []) := ⟨fun pos pins s σ H Q I ⟨m, h, ρ, S, en, w⟩ => pk_nil.run pos pins s σ H Q I (w.ret S (by show VRs _ _ _ _ _; unfold VRs; rfl))⟩
theorem l_kcons {nm : Option Str} {q : Pos} {kws : List Keyword} (ha : PE X ea (tE X.K fa)) (hr : PK X kws (tA X.K fl)) : PK X (⟨nm, ea, q⟩ :: kws) (tA X.K fun ρ => (fa ρ).bnd fun x => (fl ρ).bnd fun xs => .ret (x :: xs)) :=
  ⟨fun pos pins s σ H Q I ⟨m, h, ρ, S, en, w⟩ => (pk_cons ha hr).run pos pins s σ H Q I
    (liftG (R := rV X.K) (g := fun x ρ => (fl ρ).bnd fun xs => .ret (x :: xs)) S en w fun m1 h1 x v H1 P1 S1 en1 r1 w1 =>
      liftG (R := rL X.K) (g := fun xs _ => .ret (x :: xs)) S1 en1 w1 fun m2 h2 xs us H2 P2 S2 en2 r2 w2 =>
        w2.ret S2 (by show VRs _ _ _ _ _; unfold VRs; exact ⟨v, us, rfl, r1.mono P2, r2⟩))⟩
/-- a def as it is called with keywords: the values in the parameters' order -/
def rFK (K : PySem.W.Frag) (g : List MV → M MV) (arr : List Nat) : List V → List V → Hp → VK → Prop := fun xs zs H Q => ∃ m h vs ws, Sim K m h H ∧ VRs K m H vs xs ∧ VRs K m H ws zs ∧ WP K (rV K) (((M.opt (pick (vs ++ ws) arr)).bnd g) h) m H Q
def CallK (X : Cx) (a : Addr) (np : Nat) (ks : List Str) (arr : List Nat) (g : List MV → M MV) : Prop :=
  ∀ (pins : List (Addr × Obj)) (s : Shared) (σ : L2.St) (H : Hp) (vs zs : List V) (us ws : List Value) (Q : VK), Inv X pins σ H s → Vals vs us → Vals zs ws → us.length = np → ws.length = ks.length → rFK X.K g arr vs zs H Q →
    wpAny (model X.prog X.w) X.A (call (.ref a) us (ks.zip ws)) (EP X pins σ Q) X.xe s
theorem VRs.len_of {K : PySem.W.Frag} {m : List Addr} {H : Hp} {xs : List MV} {vs : List V} (r : VRs K m H xs vs) : vs.length = xs.length := r.length.symm
theorem l_callk0 {x : Str} {a : Addr} {g : List MV → M MV} {kws : List Keyword} {ks : List Str} {arr : List Nat} {n : Nat} (hkw : kwOk ks kws = true) (hlen : ∀ ρ h ys h', fk ρ h = .ok ys h' → ys.length = ks.length) (hg : Gl X x) (hd : (x == ("__debug__" : Str)) = false) (hm : X.mg x = some (.ref a)) (hk : PySem.W.keepIn X.K (.ref a) = true) (hc : CallK X a 0 ks arr g)
    (hl : PK X kws (tA X.K fk)) : PE X (.Call (.Name x p) [] kws pos) (tE X.K fun ρ => (M.ret ([] : List MV)).bnd fun xs => (fk ρ).bnd fun ys => (M.opt (pick (xs ++ ys) arr)).bnd g) := by
  refine ⟨fun pins s σ H Q I ⟨m, h, ρ, S, en, w⟩ => ?_⟩
  obtain ⟨k1, k2, k3⟩ := kw_all (pos := pos) (env := X.env) hkw
  refine wpAny_Call_Name_kw (ld_glob I hg hm ?_ hd)
  replace w : WP X.K (rV X.K) (((fk ρ).bnd fun ys => (M.opt (pick ys arr)).bnd g) h) m H Q := w
  refine PySem.W.callWith_KW0 (h₀ := X.base) I.ok.mod.kin hk k1 ?_ (by rw [k3]; rfl)
  have key : tA X.K fk σ H (fun vs H1 => vs.length = ks.length ∧ rFK X.K g arr [] vs H1 Q) := by
    refine ⟨m, h, ρ, S, en, ?_⟩
    cases e : fk ρ h with
    | ok ys h' =>
      have hw : WP X.K (rV X.K) (((M.opt (pick ys arr)).bnd g) h') m H Q := by
        have := w
        unfold M.bnd at this
        rw [e] at this
        exact this
      intro m' H' b P S' r
      refine ⟨by rw [← hlen ρ h ys h' e]; exact r.len_of, m', h', [], ys, S', by unfold VRs; rfl, r, hw.at P⟩
    | exc _ _ =>
      unfold M.bnd at w
      rw [e] at w
      exact w
    | stuck =>
      unfold M.bnd at w
      rw [e] at w
      exact w
  refine thn (hl.run pos pins s σ H _ I key) fun ws s1 ⟨zs, H1, I1, r1, q0, q1⟩ => ⟨I1.kIn, ?_⟩
  rw [k2]
  exact hc pins s1 σ H1 [] zs [] ws Q I1 .nil r1 rfl (by rw [← r1.length]; exact q0) q1
theorem l_callk {x : Str} {a : Addr} {g : List MV → M MV} {kws : List Keyword} {ks : List Str} {arr : List Nat} {n : Nat} (hs : noStar ea = true) (hss : es.all noStar = true) (hkw : kwOk ks kws = true) (hlen0 : ∀ ρ h ys h', fl ρ h = .ok ys h' → ys.length = n) (hlen : ∀ ρ h ys h', fk ρ h = .ok ys h' → ys.length = ks.length) (hg : Gl X x) (hd : (x == ("__debug__" : Str)) = false)
    (hm : X.mg x = some (.ref a)) (hk : PySem.W.keepIn X.K (.ref a) = true) (hc : CallK X a n ks arr g) (hl : PA X (ea :: es) (tA X.K fl)) (hkk : PK X kws (tA X.K fk)) :
    PE X (.Call (.Name x p) (ea :: es) kws pos) (tE X.K fun ρ => (fl ρ).bnd fun xs => (fk ρ).bnd fun ys => (M.opt (pick (xs ++ ys) arr)).bnd g) := by
  refine ⟨fun pins s σ H Q I ⟨m, h, ρ, S, en, w⟩ => ?_⟩
  obtain ⟨k1, k2, k3⟩ := kw_all (pos := pos) (env := X.env) hkw
  replace w : WP X.K (rV X.K) (((fl ρ).bnd fun xs => (fk ρ).bnd fun ys => (M.opt (pick (xs ++ ys) arr)).bnd g) h) m H Q := w
  refine wpAny_Call_Name_kw (ld_glob I hg hm ?_ hd)
  refine PySem.W.callWith_KW (h₀ := X.base) I.ok.mod.kin hk k1 ?_ (by rw [star_any (by rw [List.all_cons, hs, hss]; rfl), k3]; rfl) (star_cons hs)
  have key : tA X.K fl σ H (fun vs H1 => vs.length = n ∧ ∃ m1 h1 ρ xs, Sim X.K m1 h1 H1 ∧ EnvR X.K m1 H1 ρ σ ∧ VRs X.K m1 H1 xs vs ∧ WP X.K (rV X.K) (((fk ρ).bnd fun ys => (M.opt (pick (xs ++ ys) arr)).bnd g) h1) m1 H1 Q) := by
    refine ⟨m, h, ρ, S, en, ?_⟩
    cases e : fl ρ h with
    | ok xs h' =>
      have hw : WP X.K (rV X.K) (((fk ρ).bnd fun ys => (M.opt (pick (xs ++ ys) arr)).bnd g) h') m H Q := by
        have := w
        unfold M.bnd at this
        rw [e] at this
        exact this
      exact fun m' H' b P S' r => ⟨by rw [← hlen0 ρ h xs h' e]; exact r.len_of, m', h', ρ, xs, S', en.mono P, r, hw.at P⟩
    | exc _ _ =>
      unfold M.bnd at w
      rw [e] at w
      exact w
    | stuck =>
      unfold M.bnd at w
      rw [e] at w
      exact w
  refine thn (hl.run pos pins s σ H _ I key) fun us s1 ⟨vs, H1, I1, r1, q0, m1, h1, ρ1, xs, S1, en1, rx, w1⟩ => ?_
  have key2 : tA X.K fk σ H1 (fun zs H2 => zs.length = ks.length ∧ rFK X.K g arr vs zs H2 Q) := by
    refine ⟨m1, h1, ρ1, S1, en1, ?_⟩
    cases e : fk ρ1 h1 with
    | ok ys h' =>
      have hw : WP X.K (rV X.K) (((M.opt (pick (xs ++ ys) arr)).bnd g) h') m1 H1 Q := by
        have := w1
        unfold M.bnd at this
        rw [e] at this
        exact this
      exact fun m' H' b P S' r => ⟨by rw [← hlen ρ1 h1 ys h' e]; exact r.len_of, m', h', xs, ys, S', rx.mono P, r, hw.at P⟩
    | exc _ _ =>
      unfold M.bnd at w1
      rw [e] at w1
      exact w1
    | stuck =>
      unfold M.bnd at w1
      rw [e] at w1
      exact w1
  refine thn (hkk.run pos pins s1 σ H1 _ I1 key2) fun ws s2 ⟨zs, H2, I2, r2, q1, q2⟩ => ⟨I2.kIn, ?_⟩
  rw [k2]
  exact hc pins s2 σ H2 vs zs us ws Q I2 r1 r2 (by rw [← r1.length]; exact q0) (by rw [← r2.length]; exact q1) q2
/-! ### built-ins -/
def biN : Bi → Str
  | .abs => "abs" | .max => "max" | .min => "min" | .int => "int" | .len => "len" | .divmod => "divmod" | .all => "all" | .any => "any" | .repr => "repr" | .list => "list" | .tuple => "tuple" | .sum => "sum" | .sorted => "sorted" | .maxL => "max" | .dict => "dict"
theorem boot_bi (b : Bi) : bootBuiltins (biN b) = some (biF b) := by
  cases b <;> decide +kernel
theorem biN_ok (b : Bi) : biN b ≠ "__name__" ∧ (biN b == ("__debug__" : Str)) = false := by
  cases b <;> decide +kernel
theorem l_bi (b : Bi) (gd : X.A.guards = some []) (sm : SmOk X) (hu : X.A.units + 65 < cLine) (hcalm : X.calm = true) (hs : noStar ea = true) (hss : es.all noStar = true) (hg : Gl X (biN b)) (hm : X.mg (biN b) = none) (hl : PA X (ea :: es) (tA X.K fl)) :
    PE X (.Call (.Name (biN b) p) (ea :: es) [] pos) (tE X.K fun ρ => (fl ρ).bnd (biV b)) := by
  have hc := cr_bi (X := X) hcalm gd sm hu b
  have key : ∀ σ H Q, tE X.K (fun ρ => (fl ρ).bnd (biV b)) σ H Q → tCB (rF X.K (biV b)) (tA X.K fl) σ H Q := fun σ H Q ⟨m, h, ρ, S, en, w⟩ =>
    liftG (R := rL X.K) (g := fun xs _ => biV b xs) S en w fun m1 h1 xs vs H1 P1 S1 en1 r1 w1 => ⟨m1, h1, xs, S1, r1, w1⟩
  cases b <;> first
    | exact pe_imp (pe_callB hc hg hm (boot_bi _) hl (biN_ok _).1 (biN_ok _).2 (star_cons hs) (star_any hss)) key
    | exact pe_imp (pe_callTy hc hg hm (boot_bi _) hl (biN_ok _).1 (biN_ok _).2 (star_cons hs) (star_any hss)) key
end
end MP
/-! MP: kinds, methods, items, slices, walks, targets, comprehensions. -/
namespace MP
open PySem PySem.Spec PyProof.Rows L2
section
variable {X : Cx} {ea eb ec : Expr} {es : List Expr} {pos p : Pos} {fa fb fc : Env → M MV} {ta tb tc : Env → M Bool} {fl fk : Env → M (List MV)}
/-! ### isinstance -/
def tyN : Ty → Str
  | .int => "int" | .str => "str" | .bool => "bool" | .list => "list" | .tuple => "tuple" | .dict => "dict"
theorem boot_ty (t : Ty) : bootBuiltins (tyN t) = some (.type (tyS t)) := by
  cases t <;> decide +kernel
theorem tyN_ok (t : Ty) : tyN t ≠ "__name__" ∧ (tyN t == ("__debug__" : Str)) = false := by
  cases t <;> decide +kernel
theorem isi_of {m : List Addr} {h : MH} {H : Hp} {x : MV} {v : V} {t : Ty} {b : Bool} {h' : MH} (S : Sim X.K m h H) (r : VR X.K m H x v) (e : isiV x t h = .ok b h') : ∃ n, TyX X.K H v (.type n) ∧ ∀ u c h'', isiV x u h = .ok c h'' → h'' = h ∧ kitB n (tyS u) = some c := by
  cases x with
  | non =>
    rw [vr_non' r]
    exact ⟨_, .base .non, fun u c h'' e => by cases u <;> (cases e; exact ⟨rfl, by decide +kernel⟩)⟩
  | bl k =>
    rw [vr_bl' r]
    exact ⟨_, .base (.bl k), fun u c h'' e => by cases u <;> (cases e; exact ⟨rfl, by decide +kernel⟩)⟩
  | int k =>
    rw [vr_int' r]
    exact ⟨_, .base (.int k), fun u c h'' e => by cases u <;> (cases e; exact ⟨rfl, by decide +kernel⟩)⟩
  | str k =>
    rw [vr_str' r]
    exact ⟨_, .base (.str k), fun u c h'' e => by cases u <;> (cases e; exact ⟨rfl, by decide +kernel⟩)⟩
  | tup k =>
    obtain ⟨a, vs, rfl, q, _⟩ := vr_tup' r
    have ty : TyX X.K H (.ref a) (.type "tuple") := by
      rcases q with (q | ⟨o, q⟩) | ⟨o, its, n, q, c, _⟩
      · exact .base (.tup q)
      · exact .fTuple q
      · exact .kTuple q c
    exact ⟨_, ty, fun u c h'' e => by cases u <;> (cases e; exact ⟨rfl, by decide +kernel⟩)⟩
  | ro k =>
    obtain ⟨a, vs, rfl, q, _⟩ := vr_ro' r
    have ty : TyX X.K H (.ref a) (.type "list") := by
      rcases q with ⟨o, q⟩ | ⟨its, n, q, _⟩
      · exact .base (.frz q)
      · exact .kList q rfl
    exact ⟨_, ty, fun u c h'' e => by cases u <;> (cases e; exact ⟨rfl, by decide +kernel⟩)⟩
  | rod w ks ws =>
    cases w with
    | true => cases e
    | false =>
      obtain ⟨a, u, ps, rfl, ⟨o, q⟩, d, _⟩ := vr_rod' r
      rcases d with ⟨_, kk, rfl, _, _⟩ | ⟨z, _⟩
      · exact ⟨_, .fDict q, fun u c h'' e => by cases u <;> (cases e; exact ⟨rfl, by decide +kernel⟩)⟩
      · cases z
  | obj _ _ _ => cases e
  | ref l =>
    obtain ⟨a, ha, rfl⟩ := vr_ref' r
    unfold isiV at e
    dsimp only at e
    split at e
    · rename_i xs e1
      obtain ⟨vs, q, _⟩ := S.lst ha e1
      refine ⟨_, .base (.lst q), fun u c h'' e => ?_⟩
      unfold isiV at e
      dsimp only at e
      rw [e1] at e
      cases u <;> (cases e; exact ⟨rfl, by decide +kernel⟩)
    · rename_i w xs e1
      obtain ⟨vs, q, _⟩ := S.dctK ha e1
      have ty : TyX X.K H (.ref a) (.type "dict") := .base (.dK q)
      refine ⟨_, ty, fun u c h'' e => ?_⟩
      unfold isiV at e
      dsimp only at e
      rw [e1] at e
      cases u <;> (cases e; exact ⟨rfl, by decide +kernel⟩)
    · cases e
def isiN : Str := "isinstance"
/-- isinstance by one type -/
def rI1 (K : PySem.W.Frag) (t : Ty) : List V → Hp → VK → Prop := fun vs H Q => ∃ m h x v, vs = [v, .ty (tyS t)] ∧ Sim K m h H ∧ VR K m H x v ∧ WP K rId (isiV x t h) m H (fun b H' => Q (.bl b) H')
theorem call_i1 {t : Ty} : CallR X (.builtin "isinstance") (rI1 X.K t) := by
  intro pins s σ H xs us Q I r ⟨m, h, x, v, e, S, rx, w⟩
  cases ee : isiV x t h with
  | ok b h' =>
    rw [ee] at w
    obtain ⟨n, ty, kk⟩ := isi_of S rx ee
    obtain ⟨e2, k⟩ := kk _ _ _ ee
    subst e2
    exact call_isi pins s σ H xs us Q I r ⟨v, _, _, _, b, e, .ty _, ty, kit_ty k, w m H b Post.refl S rfl⟩
  | exc _ _ => rw [ee] at w; exact False.elim w
  | stuck => rw [ee] at w; exact False.elim w
theorem pe_tyN {t : Ty} (hg : Gl X (tyN t)) (hm : X.mg (tyN t) = none) : PE X (.Name (tyN t) pos) (tC (.ty (tyS t))) :=
  pe_bltn hg hm (boot_ty t) rfl (tyN_ok t).1 (tyN_ok t).2
theorem l_isi1 {t : Ty} {q : Pos} (hs : noStar ea = true) (hi : Gl X isiN) (hj : X.mg isiN = none) (hg : Gl X (tyN t)) (hm : X.mg (tyN t) = none) (ha : PE X ea (tE X.K fa)) :
    PE X (.Call (.Name isiN p) [ea, .Name (tyN t) q] [] pos) (tE X.K fun ρ => (fa ρ).bnd fun x => (isisV x [t]).bnd fun k => .ret (MV.bl k)) :=
  pe_imp (pe_callB call_i1 hi hj boot_isinstance (pa_cons ha (pa_cons (pe_tyN hg hm) pa_nil (by rfl)) (star_cons hs)) (by decide +kernel) (by decide +kernel) (star_cons hs) (by rfl)) fun σ H Q ⟨m, h, ρ, S, en, w⟩ =>
    liftG (R := rV X.K) (g := fun x _ => (isisV x [t]).bnd fun k => .ret (MV.bl k)) S en w fun m1 h1 x v H1 P1 S1 en1 r1 w1 =>
      ⟨m1, h1, x, v, rfl, S1, r1, (WP.bind (Rx := rId) w1).mono fun b H2 ⟨m2, h2, b', P2, S2, e, w2⟩ => by
        cases e
        exact w2.ret S2 (vr_bl _)⟩
/-- isinstance by two types, in a tuple just laid -/
def rI2 (K : PySem.W.Frag) (t u : Ty) : List V → Hp → VK → Prop := fun vs H Q => ∃ m h x v tp, vs = [v, .ref tp] ∧ H tp = some (.tup [.ty (tyS t), .ty (tyS u)]) ∧ Sim K m h H ∧ VR K m H x v ∧ WP K rId (isisV x [t, u] h) m H (fun b H' => Q (.bl b) H')
theorem call_i2 {t u : Ty} : CallR X (.builtin "isinstance") (rI2 X.K t u) := by
  intro pins s σ H xs us Q I r ⟨m, h, x, v, tp, e, htp, S, rx, w⟩
  replace w : WP X.K rId (((isiV x t).bnd fun k => (isiV x u).bnd fun j => .ret (k || j)) h) m H (fun b H' => Q (.bl b) H') := w
  unfold M.bnd at w
  cases ee : isiV x t h with
  | ok b h' =>
    obtain ⟨n, ty, kk⟩ := isi_of S rx ee
    obtain ⟨e2, k⟩ := kk _ _ _ ee
    subst e2
    rw [ee] at w
    dsimp only at w
    cases e3 : isiV x u h' with
    | ok b2 h2 =>
      obtain ⟨e4, k2⟩ := kk _ _ _ e3
      subst e4
      rw [e3] at w
      refine call_isiT pins s σ H xs us Q I r ⟨v, tp, _, _, _, b || b2, e, htp, .cons (.ty _) (.cons (.ty _) .nil), ty, ?_, w m H (b || b2) Post.refl S rfl⟩
      refine kitAny_cons (kit_ty k) (fun hb => ?_) (fun hb => by rw [hb]; rfl)
      subst hb
      refine kitAny_cons (kit_ty k2) (fun hb => ?_) (fun hb => by rw [hb]; rfl)
      subst hb
      rfl
    | exc _ _ => rw [e3] at w; exact False.elim w
    | stuck => rw [e3] at w; exact False.elim w
  | exc _ _ => rw [ee] at w; exact False.elim w
  | stuck => rw [ee] at w; exact False.elim w
theorem wp_atTuple {α β : Type} {R : List Addr → Hp → α → β → Prop} {r : Res α} {m : List Addr} {h : MH} {H : Hp} {Q : β → Hp → Prop} {q : Addr} {us : List V} (S : Sim X.K m h H) (hp : H q = none) (w : WP X.K R r m H Q) : WP X.K R r m (upd H q (.tup us)) Q := w.at (Post.new_tuple S hp)
theorem l_isi2 {t u : Ty} {q q2 q3 : Pos} {j : Nat} (hs : noStar ea = true) (hi : Gl X isiN) (hj : X.mg isiN = none) (hg : Gl X (tyN t)) (hm : X.mg (tyN t) = none) (hg2 : Gl X (tyN u)) (hm2 : X.mg (tyN u) = none) (ha : PE X ea (tE X.K fa)) :
    PE X (.Call (.Name isiN p) [ea, .Tuple [.Name (tyN t) q, .Name (tyN u) q2] j q3] [] pos) (tE X.K fun ρ => (fa ρ).bnd fun x => (isisV x [t, u]).bnd fun k => .ret (MV.bl k)) :=
  pe_imp (pe_callB call_i2 hi hj boot_isinstance (pa_cons ha (pa_cons (pe_tup (pa_cons (pe_tyN hg hm) (pa_cons (pe_tyN hg2 hm2) pa_nil (by rfl)) (by rfl))) pa_nil (by rfl)) (star_cons hs)) (by decide +kernel) (by decide +kernel) (star_cons hs) (by rfl)) fun σ H Q ⟨m, h, ρ, S, en, w⟩ =>
    liftG (R := rV X.K) (g := fun x _ => (isisV x [t, u]).bnd fun k => .ret (MV.bl k)) S en w fun m1 h1 x v H1 P1 S1 en1 r1 w1 => by
      refine ⟨show 2 ≤ sizeLine by decide +kernel, fun tp htp => ?_⟩
      have PT := Post.new_tuple (vs := [V.ty (tyS t), V.ty (tyS u)]) S1 htp
      refine ⟨m1, h1, x, v, tp, rfl, upd_same, S1.new_tuple htp, r1.mono PT, (WP.bind (Rx := rId) (wp_atTuple S1 htp w1)).mono fun b H2 ⟨m2, h2, b', P2, S2, e, w2⟩ => ?_⟩
      cases e
      exact w2.ret S2 (vr_bl _)
/-! ### methods -/
def mtT : Mt → String
  | .join => "str"
  | _ => "list"
def mtN : Mt → Str
  | .append => "append" | .join => "join" | .pop => "pop" | .popAt => "pop" | .extend => "extend" | .insert => "insert" | .index => "index" | .count => "count"
theorem mt_plain (n : Mt) : PlainAttrs (mtT n) := by
  cases n with
  | join => exact PySem.F.plainAttrs_str
  | _ => exact PySem.F.plainAttrs_list
theorem mt_slot (n : Mt) : Slot (mtT n) (mtN n) (mtId n) := by
  cases n with
  | append => exact PySem.F.slot_list_append
  | extend => exact PySem.F.slot_list_extend
  | insert => exact PySem.F.slot_list_insert
  | index => exact PySem.F.slot_list_index
  | count => exact PySem.F.slot_list_count
  | join => exact PySem.F.slot_str_join
  | pop => exact PySem.F.slot_list_pop
  | popAt => exact PySem.F.slot_list_pop
theorem mt_type (n : Mt) : typeOf (.builtin (mtId n)) = pure (.type "method_descriptor") := by
  cases n with
  | append => exact PySem.F.type_list_append
  | extend => exact PySem.F.type_list_extend
  | insert => exact PySem.F.type_list_insert
  | index => exact PySem.F.type_list_index
  | count => exact PySem.F.type_list_count
  | join => exact PySem.F.type_str_join
  | pop => exact PySem.F.type_list_pop
  | popAt => exact PySem.F.type_list_pop
theorem rcv_of {α β : Type} {R : List Addr → Hp → α → β → Prop} {n : Mt} {m : List Addr} {h : MH} {H : Hp} {x : MV} {v : V} {f : M α} {Q : β → Hp → Prop} (S : Sim X.K m h H) (r : VR X.K m H x v) (w : WP X.K R (((rcvV n x).bnd fun _ => f) h) m H Q) : tyV X.K (mtT n) v H ∧ WP X.K R (f h) m H Q := by
  have key : ∀ l, rcvV n (.ref l) = chkL l → mtT n = "list" → x = .ref l → tyV X.K (mtT n) v H ∧ WP X.K R (f h) m H Q := by
    intro l e2 e1 e
    subst e
    obtain ⟨a, ha, rfl⟩ := vr_ref' r
    have e3 : ((rcvV n (.ref l)).bnd fun _ => f) h = ((chkL l).bnd fun _ => f) h := by rw [e2]
    rw [e3] at w
    cases e : h[l]? with
    | none =>
      have e4 : chkL l h = .stuck := by unfold chkL; rw [e]
      unfold M.bnd at w
      rw [e4] at w
      exact False.elim w
    | some o =>
      cases o with
      | lst xs =>
        have e4 : chkL l h = .ok () h := by unfold chkL; rw [e]
        unfold M.bnd at w
        rw [e4] at w
        obtain ⟨vs, h1, _⟩ := S.lst ha e
        exact ⟨.inl ⟨e1, vs, SqL.of h1⟩, w⟩
      | _ =>
        have e4 : chkL l h = .stuck := by unfold chkL; rw [e]
        unfold M.bnd at w
        rw [e4] at w
        exact False.elim w
  have fro : ∀ xs, x = .ro xs → mtT n = "list" → rcvV n (.ro xs) = .ret () → tyV X.K (mtT n) v H ∧ WP X.K R (f h) m H Q := by
    intro xs e e1 e2
    subst e
    obtain ⟨a, vs, rfl, q, _⟩ := vr_ro' r
    rw [e2] at w
    exact ⟨.inl ⟨e1, vs, q.sq⟩, w⟩
  cases n with
  | join =>
    cases x with
    | str z =>
      rw [vr_str' r]
      exact ⟨rfl, w⟩
    | _ => exact False.elim w
  | index =>
    cases x with
    | ref l => exact key l rfl rfl rfl
    | ro xs => exact fro xs rfl rfl rfl
    | _ => exact False.elim w
  | count =>
    cases x with
    | ref l => exact key l rfl rfl rfl
    | ro xs => exact fro xs rfl rfl rfl
    | _ => exact False.elim w
  | _ =>
    cases x with
    | ref l => exact key l rfl rfl rfl
    | _ => exact False.elim w
theorem few_args {env : PySem.Env} (hs : noStar ea = true) (hss : es.all noStar = true) (hn : decide ((ea :: es).length < 30) = true) : ((backTo pos (starEach (ea :: es) env)).all (fun x => !x.1) && (backToKw pos (keywordEach [] env)).all (fun x => x.1.isSome)
      && decide ((ea :: es).length + ([] : List Keyword).length + (if ([] : List Keyword).isEmpty then 0 else 1) < 30)) = true := by
  rw [star_all (by rw [List.all_cons, hs, hss]; rfl)]
  exact hn
theorem l_mth (sm : SmOk X) (hu : X.A.units + 65 < cLine) (n : Mt) {apos : Pos} (hb : noSuper ea = true) (hs : noStar eb = true) (hss : es.all noStar = true) (hn : decide ((eb :: es).length < 30) = true) (hline : (apos.endLine == pos.line) = true) (ho : PE X ea (tE X.K fa)) (hl : PA X (eb :: es) (tA X.K fl)) :
    PE X (.Call (.Attribute ea (mtN n) apos) (eb :: es) [] pos) (tE X.K fun ρ => (fa ρ).bnd fun x => (rcvV n x).bnd fun _ => (fl ρ).bnd fun xs => mtV n x xs) :=
  pe_imp (pe_bm (mt_plain n) (mt_slot n) (mt_type n) (mt_M sm hu n) ho hl (no_super hb) (few_args hs hss hn) hline (star_cons hs) (star_any hss)) fun σ H Q ⟨m, h, ρ, S, en, w⟩ =>
    liftG (R := rV X.K) (g := fun x ρ => (rcvV n x).bnd fun _ => (fl ρ).bnd fun xs => mtV n x xs) S en w fun m1 h1 x v H1 P1 S1 en1 r1 w1 => by
      obtain ⟨ty, w2⟩ := rcv_of S1 r1 w1
      exact ⟨ty, liftG (R := rL X.K) (g := fun xs _ => mtV n x xs) S1 en1 w2 fun m2 h2 xs vs H2 P2 S2 en2 r2 w3 => ⟨m2, h2, x, xs, S2, r1.mono P2, r2, w3⟩⟩
theorem l_mth0 (sm : SmOk X) (hu : X.A.units + 65 < cLine) (n : Mt) {apos : Pos} (hb : noSuper ea = true) (hline : (apos.endLine == pos.line) = true) (ho : PE X ea (tE X.K fa)) :
    PE X (.Call (.Attribute ea (mtN n) apos) [] [] pos) (tE X.K fun ρ => (fa ρ).bnd fun x => (rcvV n x).bnd fun _ => (M.ret []).bnd fun xs => mtV n x xs) :=
  pe_imp (pe_bm0 (mt_plain n) (mt_slot n) (mt_type n) (mt_M sm hu n) ho (no_super hb) hline) fun σ H Q ⟨m, h, ρ, S, en, w⟩ =>
    liftG (R := rV X.K) (g := fun x ρ => (rcvV n x).bnd fun _ => (M.ret []).bnd fun xs => mtV n x xs) S en w fun m1 h1 x v H1 P1 S1 en1 r1 w1 => by
      obtain ⟨ty, w2⟩ := rcv_of S1 r1 w1
      exact ⟨ty, m1, h1, x, [], S1, r1, by unfold VRs; rfl, w2⟩
/-! ### items, slices -/
theorem l_idx (hu : X.A.units + 65 < cLine) (hn : noSlice eb = true) (ha : PE X ea (tE X.K fa)) (hb : PE X eb (tE X.K fb)) : PE X (.Subscript ea eb pos) (tE X.K fun ρ => (fa ρ).bnd fun x => (fb ρ).bnd fun y => idxV x y) :=
  pe_imp (pe_ix (ix_M (by omega)) ha hb (plain_ix hn)) fun σ H Q ⟨m, h, ρ, S, en, w⟩ =>
    liftG (R := rV X.K) (g := fun x ρ => (fb ρ).bnd fun y => idxV x y) S en w fun m1 h1 x v H1 P1 S1 en1 r1 w1 =>
      liftG (R := rV X.K) (g := fun y _ => idxV x y) S1 en1 w1 fun m2 h2 y u H2 P2 S2 en2 r2 w2 => ⟨m2, h2, x, y, S2, r1.mono P2, r2, w2⟩
theorem lo_no : PO X none (tO X.K fun _ => .ret none) := po_imp po_none fun σ H Q ⟨m, h, ρ, S, en, w⟩ => w.ret S rfl
theorem lo_so (ha : PE X ea (tE X.K fa)) : PO X (some ea) (tO X.K fun ρ => (fa ρ).bnd intO) :=
  po_imp (po_some ha) fun σ H Q ⟨m, h, ρ, S, en, w⟩ =>
    liftG (R := rV X.K) (g := fun x _ => intO x) S en w fun m1 h1 x v H1 P1 S1 en1 r1 w1 => by
      cases x with
      | int i => exact ⟨i, vr_int' r1, w1.ret S1 rfl⟩
      | _ => exact False.elim w1
theorem l_slc {lo hi : Option Expr} {fo fu : Env → M (Option Int)} {q : Pos} (ha : PE X ea (tE X.K fa)) (hl : PO X lo (tO X.K fo)) (hu : PO X hi (tO X.K fu)) : PE X (.Subscript ea (.Slice lo hi none q) pos) (tE X.K fun ρ => (fa ρ).bnd fun x => (fo ρ).bnd fun l => (fu ρ).bnd fun u => slcV x l u) :=
  pe_imp (pe_slice sl_M ha hl hu) fun σ H Q ⟨m, h, ρ, S, en, w⟩ =>
    liftG (R := rV X.K) (g := fun x ρ => (fo ρ).bnd fun l => (fu ρ).bnd fun u => slcV x l u) S en w fun m1 h1 x v H1 P1 S1 en1 r1 w1 =>
      liftG (R := rId) (g := fun l ρ => (fu ρ).bnd fun u => slcV x l u) S1 en1 w1 fun m2 h2 l l' H2 P2 S2 en2 e2 w2 =>
        liftG (R := rId) (g := fun u _ => slcV x l u) S2 en2 w2 fun m3 h3 u u' H3 P3 S3 en3 e3 w3 => by
          cases e2
          cases e3
          exact ⟨m3, h3, x, S3, (r1.mono P2).mono P3, w3⟩
end
end MP
/-! walks of pairs over the hand layer: enumerate, zip of lists, tuples, dicts, items of dicts by tuples. -/
namespace PySem
open Sem (wp)
section
variable {prog : Program} {w : World} {A : Around} {E : Value → Shared → Prop} {s : Shared}
theorem wpAny_nextOf_keys_item {it d : Addr} {i ep : Nat} {es : Array DictEntry} {Q : Value → Shared → Prop} (hit : s.heap.IsKeyIter it d i es.size ep)
    (hm : s.heap.DictRaw d es ep) (hlt' : i < es.size)
    (hQ : ∀ h', h'.IsKeyIter it d (i + 1) es.size ep → Heap.SameBut it s.heap h' → Q es[i].key { s with heap := h' }) :
    wpAny (model prog w) A (Builtin.SmallTypes.nextOf (.ref it)) Q E s := by
  obtain ⟨o, ho, hc, hd⟩ := id hit
  obtain ⟨od, hod, hcd, hdd⟩ := id hm
  unfold Builtin.SmallTypes.nextOf
  refine wpAny_bind (wpAny_callSpecial?_slot (name := Str.ofString "__next__") hit.typeIs F.slot_dict_keyiterator_next
    (wpAny_call_entry F.slot_dict_keyiterator_next hit.typeIs F.entry_dict_keyiterator_next ?_ (F.args_dict_keyiterator_next_1 _)))
  refine wpAny_bind (wpAny_pure ?_)
  refine wpAny_bind ?_
  refine wpAny_bind ?_
  first | refine wpAny_bind (wpAny_typeNameOfWhole_keyiter hit.typeIs (wpAny_pure ?_)) | refine wpAny_bind (wpAny_typeNameOf_keyiter hit.typeIs (wpAny_pure ?_))
  refine wpAny_bind (wpAny_fieldsOf ho hd ?_)
  have hown : Builtin.Dict_items.ownsTuple "dict_keyiterator" = false := by decide
  simp only [hown, Bool.false_eq_true, if_false]
  show wpAny _ _ (if (Value.ref d == Value.none) = true then _ else _) _ _ s
  rw [if_neg (show ¬ ((Value.ref d == Value.none) = true) from Bool.false_ne_true)]
  refine wpAny_bind (wpAny_pure ?_)
  refine wpAny_bind (wpAny_dictEntries hod hdd ?_)
  rw [if_neg (by simp)]
  refine wpAny_bind (wpAny_pure ?_)
  refine wpAny_bind (wpAny_dictEpoch hod hdd ?_)
  rw [if_neg (by simp)]
  refine wpAny_pure ?_
  simp only [show ¬ ((i : Int) < 0) from by omega, if_false, Int.toNat_natCast, Array.getElem?_eq_getElem hlt']
  refine wpAny_bind ?_
  first | refine wpAny_bind (wpAny_typeNameOfWhole_keyiter hit.typeIs (wpAny_pure ?_)) | refine wpAny_bind (wpAny_typeNameOf_keyiter hit.typeIs (wpAny_pure ?_))
  refine wpAny_bind (wpAny_isOneOf_keyiter hit.typeIs ?_)
  show wpAny _ _ (setField (.ref it) 1 (rawInt ((i : Int) + 1)) >>= _) _ _ s
  refine wpAny_bind (wpAny_setField ho hd (by simp) ?_)
  have hit' : (s.heap.update it (Obj.mapFields (·.setIfInBounds 1 (rawInt ((i : Int) + 1))))).IsKeyIter it d (i + 1) es.size ep :=
    ⟨_, Heap.get?_update_self _ ho (Obj.isFreed_of_fields (Obj.data_mapFields hd _)), (Obj.cls_mapFields ..).trans hc, by rw [Obj.data_mapFields hd]; simp [rawInt]⟩
  refine wpAny_bind (wpAny_holding ?_)
  refine wpAny_bind (wpAny_isOneOf_keyiter (s := { s with heap := s.heap.update it (Obj.mapFields (·.setIfInBounds 1 (rawInt ((i : Int) + 1)))) }) hit'.typeIs ?_)
  show wpAny _ _ (pure es[i].key) _ _ _
  exact wpAny_pure (wpAny_pure ⟨_, rfl, wpAny_pure (hQ _ hit' (Heap.SameBut.update ..))⟩)
theorem wpAny_nextOf_keys_end {it d : Addr} {i ep : Nat} {es : Array DictEntry} {Q : Value → Shared → Prop} (hh : A.handled = none) (hit : s.heap.IsKeyIter it d i es.size ep)
    (hm : s.heap.DictRaw d es ep) (hge : es.size ≤ i)
    (hE : ∀ h' e, Heap.ExtBut it s.heap h' → (∃ o, h'.get? e = some o ∧ o.cls = .type "StopIteration") → E (.ref e) { s with heap := h' }) : wpAny (model prog w) A (Builtin.SmallTypes.nextOf (.ref it)) Q E s := by
  obtain ⟨o, ho, hc, hd⟩ := id hit
  obtain ⟨od, hod, hcd, hdd⟩ := id hm
  unfold Builtin.SmallTypes.nextOf
  refine wpAny_bind (wpAny_callSpecial?_slot (name := Str.ofString "__next__") hit.typeIs F.slot_dict_keyiterator_next
    (wpAny_call_entry F.slot_dict_keyiterator_next hit.typeIs F.entry_dict_keyiterator_next ?_ (F.args_dict_keyiterator_next_1 _)))
  refine wpAny_bind (wpAny_pure ?_)
  refine wpAny_bind ?_
  refine wpAny_bind ?_
  first | refine wpAny_bind (wpAny_typeNameOfWhole_keyiter hit.typeIs (wpAny_pure ?_)) | refine wpAny_bind (wpAny_typeNameOf_keyiter hit.typeIs (wpAny_pure ?_))
  refine wpAny_bind (wpAny_fieldsOf ho hd ?_)
  have hown : Builtin.Dict_items.ownsTuple "dict_keyiterator" = false := by decide
  simp only [hown, Bool.false_eq_true, if_false]
  show wpAny _ _ (if (Value.ref d == Value.none) = true then _ else _) _ _ s
  rw [if_neg (show ¬ ((Value.ref d == Value.none) = true) from Bool.false_ne_true)]
  refine wpAny_bind (wpAny_pure ?_)
  refine wpAny_bind (wpAny_dictEntries hod hdd ?_)
  rw [if_neg (by simp)]
  refine wpAny_bind (wpAny_pure ?_)
  refine wpAny_bind (wpAny_dictEpoch hod hdd ?_)
  rw [if_neg (by simp)]
  refine wpAny_pure ?_
  simp only [show ¬ ((i : Int) < 0) from by omega, if_false, Int.toNat_natCast, Array.getElem?_eq_none hge]
  refine wpAny_bind ?_
  first | refine wpAny_bind (wpAny_typeNameOfWhole_keyiter hit.typeIs (wpAny_pure ?_)) | refine wpAny_bind (wpAny_typeNameOf_keyiter hit.typeIs (wpAny_pure ?_))
  show wpAny _ _ (setField (.ref it) 0 .none >>= _) _ _ s
  refine wpAny_bind (wpAny_setField ho hd (by simp) ?_)
  show wpAny _ _ (newExc (.type "StopIteration") [] >>= _) _ _ _
  refine wpAny_bind ?_
  simp only [newExc, newTuple]
  refine wpAny_bind (wpAny_newObj_type ?_ (by size_fits))
  refine wpAny_bind (m := firstArgMember _ _) (wpAny_of_eq (a := Value.none) (by first | rfl | (simp only [firstArgMember]; rfl)) ?_)
  refine wpAny_newObj_type ?_ (by size_fits)
  simp only [raiseNew]
  refine wpAny_bind (wpAny_handled ?_)
  first | rw [show A.in1.handled = none from hh] | rw [hh]
  refine wpAny_bind (wpAny_pure (wpAny_throw ?_))
  exact hE _ _ (((Heap.SameBut.update ..).extBut.push _).push _) ⟨_, Heap.get?_push_size _ rfl, rfl⟩
end
theorem Draws.rawKeys {prog : Program} {w : World} {A : Around} (hh : A.handled = none) (it d : Addr) (hne : d ≠ it) (es : Array DictEntry) (ep : Nat) :
    Draws prog w A it [it, d] es.size (fun i v => ∃ hi : i < es.size, v = es[i].key) (fun i h => h.IsKeyIter it d i es.size ep ∧ h.DictRaw d es ep) where
  live := fun _ _ st => let ⟨o, ho, _⟩ := st.1; ⟨o, ho⟩
  frame := fun _ _ _ st hk => ⟨st.1.at fun o e => hk it (by simp) o e, st.2.at fun o e => hk d (by simp) o e⟩
  item := fun i s Q E hi st hQ => by
    refine wpAny_nextOf_keys_item st.1 st.2 hi fun h' hit' hs' => ?_
    exact hQ _ h' s.toks ⟨hi, rfl⟩ ⟨hit', st.2.at fun o e => hs'.extBut d o hne e⟩ hs'
  done := fun s Q E st hE => wpAny_nextOf_keys_end hh st.1 st.2 (Nat.le_refl _) hE
end PySem
namespace MPW
open PySem PySem.Spec PyProof.Rows L2
/-- pairs, each in a new tuple, while RB stands -/
def Itp (RB : Hp → Prop) (ps : List (V × V)) : It :=
  ⟨fun i H => RB H ∧ i < ps.length, fun i H v H' => ∃ T x y, v = .ref T ∧ H T = none ∧ H' = upd H T (.tup [x, y]) ∧ ps[i]? = some (x, y), fun i H => RB H ∧ ps.length ≤ i⟩
theorem turn_pair {P : Program} {w : World} {K : PySem.W.Frag} {elts : List Expr} {kk : Nat} {tpos : Pos} {I : Addr} {own : List Addr} (hI : I ∈ own) {Own : Nat → Heap → Prop} {RB : Hp → Prop} {ps : List (V × V)}
    (live : ∀ i h, Own i h → ∀ b ∈ own, ∃ o, h.get? b = some o ∧ ∀ v, o.data ≠ .cell v)
    (keep : ∀ i h h', Own i h → (∀ b ∈ own, ∀ o, h.get? b = some o → h'.get? b = some o) → Own i h')
    (self : ∀ (A : Around) (i : Nat) (s : Shared) (Q : Value → Shared → Prop) (E : Value → Shared → Prop), Own i s.heap → Q (.ref I) s → wpAny (model P w) A (pyIter (.ref I)) Q E s)
    (base : ∀ (X : Cx) (pins : List (Addr × Obj)) (σ : L2.St) (H : Hp) (s : Shared), X.prog = P → X.w = w → X.K = K → Inv X pins σ H s → RB H → X.A.handled = none → ∃ (Base : Heap → Prop) (fp wr : List Addr) (Y : Nat → Heap → Value → Heap → Prop), Base s.heap ∧ (∀ b ∈ wr, b ∈ own) ∧
      GoesN P w X.A (.Tuple elts kk tpos) I fp wr ps.length Y (fun i h => Own i h ∧ Base h) ∧
      ∀ i h0 v h, Y i h0 v h → ∃ T p q x y, v = .ref T ∧ h0.objs.size ≤ T ∧ h.IsTuple T #[p, q] ∧ ps[i]? = some (x, y) ∧ RelV x p ∧ RelV y q) :
    Turn P w K (.Tuple elts kk tpos) (Itp RB ps) own I (fun i h => i ≤ ps.length ∧ Own i h) where
  mem := hI
  obj := fun i h st => live i h st.2
  keep := fun i h h' st k => ⟨st.1, keep i h h' st.2 k⟩
  item := by
    intro X hP hw hK hc i pins s σ H E II hf st hg
    obtain ⟨rb, hi⟩ := hg
    obtain ⟨Base, fp, wr, Y, b0, sub, W, hY⟩ := base X pins σ H s hP hw hK II rb (II.ok.hd hc)
    subst hP hw hK
    refine W.goes i s (fun u s2 => ∃ x H', Inv X pins σ H' s2 ∧ RelV x u ∧ (Itp RB ps).yld i H x H' ∧ (i + 1 ≤ ps.length ∧ Own (i + 1) s2.heap) ∧ ∀ b ∈ own, H' b = none) E hi ⟨st.2, b0⟩ fun v h' tk y st' hk htk => ?_
    obtain ⟨T, p, q, x, z, rfl, hT, hTup, hps, r1, r2⟩ := hY _ _ _ _ y
    have new : ObjOk X.prog X.w (upd H T (.tup [x, z])) h' T (.tup [x, z]) := ⟨by show 2 ≤ sizeLine; decide, [p, q], .cons r1 (.cons r2 .nil), hTup⟩
    have I1 : Inv X pins σ (upd H T (.tup [x, z])) { s with heap := h', toks := tk } :=
      II.turnedNew (t' := tk) (ch := own) (fun b ob hb e => hk b ob (fun z => hb (sub b z)) e) hf hT new
    refine ⟨.ref T, _, I1, rfl, ⟨T, x, z, rfl, II.hok.fresh hT, rfl, hps⟩, ⟨hi, st'.1⟩, fun b hb => ?_⟩
    obtain ⟨o, e, _⟩ := live _ _ st.2 b hb
    rw [upd_ne (Nat.ne_of_lt (Nat.lt_of_lt_of_le (Heap.lt_size e) hT))]
    exact (hf b hb).1
  done := by
    intro X hP hw hK hc i pins s σ H E II hf st hg
    obtain ⟨rb, hi⟩ := hg
    obtain ⟨Base, fp, wr, Y, b0, sub, W, hY⟩ := base X pins σ H s hP hw hK II rb (II.ok.hd hc)
    subst hP hw hK
    have e : i = ps.length := Nat.le_antisymm st.1 hi
    subst e
    refine wpAny_mono (W.stops s (fun s1 => Inv X pins σ H s1) E ⟨st.2, b0⟩ fun h' tk hk htk => ?_) (fun r s1 h => h) fun _ _ z => z
    exact II.turnedL (t' := tk) (ch := own) (fun b ob hb e => hk b ob (fun z => hb (sub b z)) e) hf
  self := fun A i s Q E st h => self A i s Q E st.2 h
/-- what an iterator is made of: the thing at c -/
structure Source (c : Addr) (o : Obj) {β : Type} (n : β → Nat) (B : β → Heap → Prop) (P : β → Nat → Value → Prop) (Own : Addr → Nat → Heap → Prop) : Prop where
  beg : ∀ b, Begins (.ref c) o (B b)
  start : ∀ h it, h.get? it = some o → Own it 0 h
  live : ∀ it i h, Own it i h → ∃ o, h.get? it = some o ∧ ∀ v, o.data ≠ .cell v
  keep : ∀ it i h h', Own it i h → (∀ o, h.get? it = some o → h'.get? it = some o) → Own it i h'
  there : ∀ b h, B b h → ∃ o, h.get? c = some o
  draws : ∀ (prog : Program) (w : World) (A : Around), A.handled = none → ∀ it b, c ≠ it → Draws prog w A it [it, c] (n b) (P b) (fun i h => Own it i h ∧ B b h)
/-- .. over the abstract heap: vs are its items while RB stands -/
def SrcV (K : PySem.W.Frag) (RB : Hp → Prop) (c : Addr) (vs : List V) : Prop := ∃ (β : Type) (o : Obj) (n : β → Nat) (B : β → Heap → Prop) (P : β → Nat → Value → Prop) (Own : Addr → Nat → Heap → Prop), Source c o n B P Own ∧
  ∀ (X : Cx) (pins : List (Addr × Obj)) (σ : L2.St) (H : Hp) (s : Shared), X.K = K → Inv X pins σ H s → RB H → ∃ b us, B b s.heap ∧ n b = vs.length ∧ Vals vs us ∧ ∀ i p, P b i p → us[i]? = some p
theorem source_list (l : Addr) : Source l { cls := .type "list_iterator", data := .fields #[.ref l, .int 0 0] } (β := Array Value) (·.size) (fun its h => h.IsList l its) (fun its i v => its[i]? = some v) (fun it i h => h.IsListIter it l i) where
  beg := fun b => begins_list l b
  start := fun h it e => ⟨_, e, rfl, rfl⟩
  live := fun it i h ⟨o, e, _, d⟩ => ⟨o, e, fun v z => by rw [d] at z; cases z⟩
  keep := fun it i h h' st k => st.at fun o e => k o e
  there := fun b h ⟨o, e, _⟩ => ⟨o, e⟩
  draws := fun prog w A hh it b hne => Draws.list hh it l hne b
theorem source_tuple (l : Addr) : Source l { cls := .type "tuple_iterator", data := .fields #[.ref l, .int 0 0] } (β := Array Value) (·.size) (fun its h => h.IsTuple l its) (fun its i v => its[i]? = some v) (fun it i h => h.IsTupleIter it l i) where
  beg := fun b => begins_tuple l b
  start := fun h it e => ⟨_, e, rfl, rfl⟩
  live := fun it i h ⟨o, e, _, d⟩ => ⟨o, e, fun v z => by rw [d] at z; cases z⟩
  keep := fun it i h h' st k => st.at fun o e => k o e
  there := fun b h ⟨o, e, _⟩ => ⟨o, e⟩
  draws := fun prog w A hh it b hne => Draws.tuple hh it l hne b
theorem source_keys (d : Addr) (hd : (d == sysModules) = false) (es : Array DictEntry) (ep : Nat) : Source d { cls := .type "dict_keyiterator", data := .fields #[.ref d, .int 0 0, .int es.size 0, .int ep 0] } (β := Unit) (fun _ => es.size) (fun _ h => h.DictRaw d es ep)
    (fun _ i v => ∃ hi : i < es.size, v = es[i].key) (fun it i h => h.IsKeyIter it d i es.size ep) where
  beg := fun b => ⟨fun prog w A E s Q hm h => wpAny_pyIter_dict_raw hd hm h, fun h h' x hk => x.at fun o e => hk d o e, rfl⟩
  start := fun h it e => ⟨_, e, rfl, rfl⟩
  live := fun it i h ⟨o, e, _, d⟩ => ⟨o, e, fun v z => by rw [d] at z; cases z⟩
  keep := fun it i h h' st k => st.at fun o e => k o e
  there := fun b h ⟨o, e, _⟩ => ⟨o, e⟩
  draws := fun prog w A hh it b hne => Draws.rawKeys hh it d hne es ep
theorem vals_back : ∀ {vs : List V} {its : List Value} {i : Nat} {p : Value}, Vals vs its → its[i]? = some p → ∃ x, vs[i]? = some x ∧ RelV x p
  | [], _, _, _, r, e => by cases r; simp at e
  | v :: vs, _, 0, _, r, e => by
    cases r with
    | cons a b =>
      simp at e
      subst e
      exact ⟨v, rfl, a⟩
  | v :: vs, _, i + 1, _, r, e => by
    cases r with
    | cons a b =>
      simp at e
      obtain ⟨x, h1, h2⟩ := vals_back b e
      exact ⟨x, by simpa using h1, h2⟩
theorem vals_at {vs : List V} {its : List Value} (r : Vals vs its) {i : Nat} {p : Value} (e : its.toArray[i]? = some p) : ∃ x, vs[i]? = some x ∧ RelV x p := vals_back r (by simpa using e)
theorem vals_of : ∀ {vs : List V} {us : List Value}, vs.length = us.length → (∀ (i : Nat) (v : V) (u : Value), vs[i]? = some v → us[i]? = some u → RelV v u) → Vals vs us
  | [], us, h, _ => by
    rw [List.length_eq_zero_iff.mp h.symm]
    exact .nil
  | v :: vs, us, h, k => by
    cases us with
    | nil => cases h
    | cons u us => exact .cons (k 0 v u rfl rfl) (vals_of (by simpa using h) fun i x y e1 e2 => k (i + 1) x y (by simpa using e1) (by simpa using e2))
/-- .. each by itself -/
theorem srcWeak {K : PySem.W.Frag} {RB : Hp → Prop} {vs : List V} {β : Type} {n : β → Nat} {B : β → Heap → Prop} {P : β → Nat → Value → Prop} (k : ∀ (X : Cx) (pins : List (Addr × Obj)) (σ : L2.St) (H : Hp) (s : Shared), X.K = K → Inv X pins σ H s → RB H → ∃ b us, B b s.heap ∧ n b = vs.length ∧ Vals vs us ∧ ∀ i p, P b i p → us[i]? = some p) :
    ∀ (X : Cx) (pins : List (Addr × Obj)) (σ : L2.St) (H : Hp) (s : Shared), X.K = K → Inv X pins σ H s → RB H → ∃ b, B b s.heap ∧ n b = vs.length ∧ ∀ i p, P b i p → ∃ x, vs[i]? = some x ∧ RelV x p := fun X pins σ H s hK I rb => by
  obtain ⟨b, us, h1, h2, h3, h4⟩ := k X pins σ H s hK I rb
  exact ⟨b, h1, h2, fun i p e => vals_back h3 (h4 i p e)⟩
theorem pairs_at {P : Program} {w : World} : ∀ {es : List DictEntry} {kvs : List (Key × Value)}, Pairs (mixKind P w) es kvs → ∀ {i : Nat} {e : DictEntry} {k : Key} {u : Value}, es[i]? = some e → kvs[i]? = some (k, u) → keyIs k e.key = true ∧ e.val = u
  | [], _, p, i, e, k, u, h1, _ => by simp at h1
  | x :: es, _, p, 0, e, k, u, h1, h2 => by
    cases p with
    | cons a b c =>
      simp at h1 h2
      subst h1
      subst h2
      exact ⟨a, b⟩
  | x :: es, _, p, i + 1, e, k, u, h1, h2 => by
    cases p with
    | cons a b c =>
      simp at h1 h2
      exact pairs_at c h1 h2
section
variable {K : PySem.W.Frag} {c : Addr}
theorem srcV_list {vs : List V} : SrcV K (fun H => SqL K H c vs) c vs := by
  refine ⟨_, _, _, _, _, _, source_list c, fun X pins σ H s hK I rb => ?_⟩
  subst hK
  obtain ⟨its, r, p, _⟩ := I.list rb
  exact ⟨its.toArray, its, p.isList, by rw [List.size_toArray, ← r.length], r, fun i p e => by simpa using e⟩
theorem srcV_tuple {vs : List V} : SrcV K (fun H => SqT K H c vs) c vs := by
  refine ⟨_, _, _, _, _, _, source_tuple c, fun X pins σ H s hK I rb => ?_⟩
  subst hK
  obtain ⟨its, r, p, _⟩ := I.tuple rb
  exact ⟨its.toArray, its, p, by rw [List.size_toArray, ← r.length], r, fun i p e => by simpa using e⟩
/-- a locked dict by texts and ints: its keys -/
theorem srcV_keys {X : Cx} {pins : List (Addr × Obj)} {σ : L2.St} {H : Hp} {s : Shared} {o : Obj} {kvs : List (Key × V)} (I : Inv X pins σ H s) (h : H c = some (.frz o (.dK kvs))) : SrcV X.K (fun H => H c = some (.frz o (.dK kvs))) c (kvs.map fun kv => kV kv.1) := by
  obtain ⟨hs, hgd, hx, es, ep, vs, hdt, hsz, kv, hm⟩ := I.frzK h
  refine ⟨_, _, _, _, _, _, source_keys c hs es ep, fun Y pins σ H s hK I rb => ?_⟩
  obtain ⟨hs, hgd, hx, es', ep', vs, hdt', hsz, kv, hm⟩ := I.frzK rb
  obtain ⟨rfl, rfl⟩ := dict_ep hdt' hdt
  refine ⟨(), es.toList.map (·.key), ⟨o, hgd, hx, hdt⟩, by rw [hsz, List.length_map], vals_of (by rw [List.length_map, List.length_map]; simp [hsz]) fun i p u e1 e2 => ?_, fun i p e => ?_⟩
  · rw [List.getElem?_map] at e1 e2
    obtain ⟨⟨k, v⟩, hkv, rfl⟩ := Option.map_eq_some_iff.mp e1
    obtain ⟨en, he2, rfl⟩ := Option.map_eq_some_iff.mp e2
    obtain ⟨u, hu, ru⟩ := kv_get kv hkv
    obtain ⟨o', es2, ho, hx2, hdt2, _, he, _⟩ := hm
    rw [hgd] at ho
    cases ho
    obtain ⟨rfl, _⟩ := dict_ep hdt hdt2
    exact relV_key (pairs_at he (i := i) he2 hu).1
  · obtain ⟨hi, rfl⟩ := e
    rw [List.getElem?_map, Array.getElem?_toList, Array.getElem?_eq_getElem hi]
    rfl
end
theorem goesN_congr {prog : Program} {w : World} {A : Around} {target : Expr} {I : Addr} {fp wr : List Addr} {n : Nat} {Y : Nat → Heap → Value → Heap → Prop} {St St' : Nat → Heap → Prop} (G : GoesN prog w A target I fp wr n Y St) (e : ∀ i h, St i h ↔ St' i h) : GoesN prog w A target I fp wr n Y St' := by
  have : St = St' := by
    funext i h
    exact propext (e i h)
  rw [← this]
  exact G
/-- zip of two sources -/
def iZipS (K : PySem.W.Frag) (ta : TA) : TI := fun σ H R => ta σ H fun us H1 => ∃ (c1 c2 : Addr) (RB1 RB2 : Hp → Prop) (xs ys : List V), us = [.ref c1, .ref c2] ∧ RB1 H1 ∧ RB2 H1 ∧
  (∀ (X : Cx) (pins : List (Addr × Obj)) (σ : L2.St) (s : Shared), X.K = K → Inv X pins σ H1 s → SrcV K RB1 c1 xs ∧ SrcV K RB2 c2 ys) ∧ R (Itp (fun H => RB1 H ∧ RB2 H) (xs.zip ys)) H1
theorem zip_at {xs ys : List V} {i : Nat} {x y : V} (h1 : xs[i]? = some x) (h2 : ys[i]? = some y) : (xs.zip ys)[i]? = some (x, y) := by
  rw [List.getElem?_zip_eq_some]
  exact ⟨h1, h2⟩
theorem pi_zipS {X : Cx} {e e2 : Expr} {ta : TA} {p pos tpos : Pos} {elts : List Expr} {kk : Nat} (hg : Gl X "zip") (hm : X.mg "zip" = none) (ha : PA X [e, e2] ta)
    (hs : starEach [e, e2] X.env = (false, eval e X.env) :: starEach [e2] X.env := by rfl) (hpl : (backTo pos (starEach [e2] X.env)).any (·.1) = false := by rfl) :
    PI X (.Tuple elts kk tpos) (.Call (.Name "zip" p) [e, e2] [] pos) (iZipS X.K ta) := by
  refine ⟨fun pins s σ H R I h => ?_⟩
  refine Call_ (ld_blt I hg hm PyProof.Rows.boot_zip (PyProof.Rows.callWith_type1 (thn (ha.run pos pins s σ H _ I h) fun us s1 ⟨vs, H1, I1, r1, q1⟩ => ?_) hs hpl))
  obtain ⟨c1, c2, RB1, RB2, xs, ys, ex, rb1, rb2, src, q⟩ := q1
  subst ex
  cases r1 with
  | cons r rr =>
    cases rr with
    | cons r' rr =>
      cases rr
      cases r
      cases r'
      obtain ⟨⟨β1, o1, n1, B1, P1, Own1, S1, k1⟩, β2, o2, n2, B2, P2, Own2, S2, k2⟩ := src X pins σ s1 rfl I1
      have k1 := srcWeak k1
      have k2 := srcWeak k2
      obtain ⟨b1, hb1, _⟩ := k1 X pins σ H1 s1 rfl I1 rb1
      obtain ⟨b2, hb2, _⟩ := k2 X pins σ H1 s1 rfl I1 rb2
      have l1 : c1 < s1.heap.objs.size := by obtain ⟨_, z⟩ := S1.there _ _ hb1; exact Heap.lt_size z
      have l2 : c2 < s1.heap.objs.size := by obtain ⟨_, z⟩ := S2.there _ _ hb2; exact Heap.lt_size z
      refine zip_begins2 (S1.beg b1) (S2.beg b2) hb1 hb2 fun h' hz hTI hTO h1 h2 hsz hk => wpAny_pyIter_zip hz ?_
      have I2 : Inv X pins σ H1 { s1 with heap := h' } := I1.kept (t' := s1.toks) hk
      have sep : ZipSep2 (s1.heap.objs.size + 4) (s1.heap.objs.size + 2) (s1.heap.objs.size + 3) s1.heap.objs.size (s1.heap.objs.size + 1) [s1.heap.objs.size, c1] [s1.heap.objs.size + 1, c2] :=
        zip_sep2 (fp1 := [c1]) (fp2 := [c2]) (fun b hb => by rw [List.mem_singleton.mp hb]; exact l1) (fun b hb => by rw [List.mem_singleton.mp hb]; exact l2)
      have tn := turn_pair (P := X.prog) (w := X.w) (K := X.K) (elts := elts) (kk := kk) (tpos := tpos) (I := s1.heap.objs.size + 4) (own := [s1.heap.objs.size + 4, s1.heap.objs.size + 2, s1.heap.objs.size + 3, s1.heap.objs.size, s1.heap.objs.size + 1]) (by simp)
        (Own := fun i h => IsZip h (s1.heap.objs.size + 4) (s1.heap.objs.size + 2) (s1.heap.objs.size + 3) .none ∧ IsTupOf2 h (s1.heap.objs.size + 2) (.ref s1.heap.objs.size) (.ref (s1.heap.objs.size + 1)) ∧ (∃ a1 a2, IsTupOf2 h (s1.heap.objs.size + 3) a1 a2) ∧ Own1 s1.heap.objs.size i h ∧ Own2 (s1.heap.objs.size + 1) i h)
        (RB := fun H => RB1 H ∧ RB2 H) (ps := xs.zip ys)
        (fun i h st b hb => by
          obtain ⟨t1, t2, ⟨a1, a2, t3⟩, t4, t5⟩ := st
          have e' : b = s1.heap.objs.size + 4 ∨ b = s1.heap.objs.size + 2 ∨ b = s1.heap.objs.size + 3 ∨ b = s1.heap.objs.size ∨ b = s1.heap.objs.size + 1 := by simpa using hb
          rcases e' with z | z | z | z | z
          · rw [z]; exact ⟨_, t1, fun v q => nomatch q⟩
          · rw [z]; exact ⟨_, t2, fun v q => nomatch q⟩
          · rw [z]; exact ⟨_, t3, fun v q => nomatch q⟩
          · rw [z]; exact S1.live _ _ _ t4
          · rw [z]; exact S2.live _ _ _ t5)
        (fun i h h' st k => by
          obtain ⟨t1, t2, ⟨a1, a2, t3⟩, t4, t5⟩ := st
          exact ⟨k _ (by simp) _ t1, k _ (by simp) _ t2, ⟨a1, a2, k _ (by simp) _ t3⟩, S1.keep _ _ _ _ t4 fun o e => k _ (by simp) o e, S2.keep _ _ _ _ t5 fun o e => k _ (by simp) o e⟩)
        (fun A i s Q E st h => wpAny_pyIter_zip st.1 h)
        (fun Y pins σ H s hP hw hK J rb hh => by
          obtain ⟨c1', z1, z2, z3⟩ := k1 Y pins σ H s hK J rb.1
          obtain ⟨c2', y1, y2, y3⟩ := k2 Y pins σ H s hK J rb.2
          have n1' : c1 ≠ s1.heap.objs.size := Nat.ne_of_lt l1
          have n2' : c2 ≠ s1.heap.objs.size + 1 := Nat.ne_of_lt (Nat.lt_succ_of_lt l2)
          have G := GoesN.zip2 (elts := elts) (x1 := kk) (pos := tpos) sep (S1.draws X.prog X.w Y.A.in1 hh s1.heap.objs.size c1' n1') (S2.draws X.prog X.w Y.A.in1 hh (s1.heap.objs.size + 1) c2' n2')
          rw [z2, y2, ← List.length_zip] at G
          refine ⟨fun h => B1 c1' h ∧ B2 c2' h, _, [s1.heap.objs.size + 4, s1.heap.objs.size + 3, s1.heap.objs.size, s1.heap.objs.size + 1], _, ⟨z1, y1⟩, fun b hb => ?_, goesN_congr G fun i h => ⟨fun ⟨t1, t2, t3, ⟨t4, t6⟩, t5, t7⟩ => ⟨⟨t1, t2, t3, t4, t5⟩, t6, t7⟩, fun ⟨⟨t1, t2, t3, t4, t5⟩, t6, t7⟩ => ⟨t1, t2, t3, ⟨t4, t6⟩, t5, t7⟩⟩, ?_⟩
          · have e' : b = s1.heap.objs.size + 4 ∨ b = s1.heap.objs.size + 3 ∨ b = s1.heap.objs.size ∨ b = s1.heap.objs.size + 1 := by simpa using hb
            rcases e' with z | z | z | z <;> rw [z] <;> simp
          · rintro i h0 v h ⟨T, p, q, rfl, hT, hp, hq, hTup⟩
            obtain ⟨x, e1, r1⟩ := z3 i p hp
            obtain ⟨y, e2, r2⟩ := y3 i q hq
            exact ⟨T, p, q, x, y, rfl, hT, hTup, zip_at e1 e2, r1, r2⟩)
      refine ⟨s1.heap.objs.size + 4, [s1.heap.objs.size + 4, s1.heap.objs.size + 2, s1.heap.objs.size + 3, s1.heap.objs.size, s1.heap.objs.size + 1], _, _, H1, rfl, I2, tn, ⟨Nat.zero_le _, hz, hTI, ⟨_, _, hTO⟩, S1.start _ _ h1, S2.start _ _ h2⟩, fun c hcm => ?_, q⟩
      have hle : s1.heap.objs.size ≤ c := by
        have e' : c = s1.heap.objs.size + 4 ∨ c = s1.heap.objs.size + 2 ∨ c = s1.heap.objs.size + 3 ∨ c = s1.heap.objs.size ∨ c = s1.heap.objs.size + 1 := by simpa using hcm
        rcases e' with z | z | z | z | z <;> rw [z] <;> first | exact Nat.le_add_right _ _ | exact Nat.le_refl _
      exact I1.fpOk hle (I1.hok.fresh hle)
end MPW
namespace PySem
open Sem (wp)
theorem meets_enumerate_newB1 {v : Value} {o : Obj} {H : Heap → Prop} (B : Begins v o H) :
    Meets (Builtin.«enumerate.__new__» ⟨[.type "enumerate", v], []⟩) (fun _ R s => H s.heap ∧
      R (.ok (.ret (.ref (s.heap.push o).objs.size))) { s with heap := (s.heap.push o).push { cls := .type "enumerate", data := .fields #[.none, .bool false, .ref s.heap.objs.size, rawInt 0, .none, .none] } }) :=
  .of_wp fun prog w A R s h => by
    obtain ⟨hp, g, d, tk, os⟩ := s; obtain ⟨h1, h⟩ := h
    have hsub := sub_enumerate
    have q1 : ∀ {A' : Around} {E : Value → Shared → Prop} {Q : Value → Shared → Prop}, Q (.ref hp.objs.size) ⟨hp.push o, g, d, tk, os⟩ → wpAny (model prog w) A' (pyIter v) Q E ⟨hp, g, d, tk, os⟩ :=
      fun q => B.iter prog w _ _ ⟨hp, g, d, tk, os⟩ _ h1 q
    wp_walk using q1
    refine wpAny_stack_any fun st => wpAny_pure ?_
    split
    · rename_i c _ _ _ _ _
      cases (c == Value.type "enumerate")
      · wp_walk using q1
        exact ⟨_, rfl, h⟩
      · wp_walk using q1
        exact ⟨_, rfl, h⟩
    · wp_walk using q1
      exact ⟨_, rfl, h⟩
theorem enum_begins1 {prog : Program} {w : World} {A : Around} {E : Value → Shared → Prop} {s : Shared} {v : Value} {o : Obj} {H : Heap → Prop} {Q : Value → Shared → Prop} (B : Begins v o H) (h1 : H s.heap)
    (h : ∀ h', IsEnum h' (s.heap.objs.size + 1) s.heap.objs.size 0 .none → h'.get? s.heap.objs.size = some o → h'.objs.size = s.heap.objs.size + 2 →
      (∀ b o, s.heap.get? b = some o → h'.get? b = some o) → Q (.ref (s.heap.objs.size + 1)) { s with heap := h' }) :
    wpAny (model prog w) A (call (.type "enumerate") [v]) Q E s := by
  refine callType_new F.called_enumerate (by decide) (F.typeCall_enumerate_1 _) (F.newCall_enumerate_1 _) (fun obj => F.args_object_init_2 obj _) F.entry_enumerate_new
    (meets_enumerate_newB1 B) ⟨h1, ?_⟩
  have hz : (s.heap.push o).objs.size = s.heap.objs.size + 1 := Heap.size_push ..
  show _ ∧ _
  rw [hz]
  have he : IsEnum ((s.heap.push o).push { cls := .type "enumerate", data := .fields #[.none, .bool false, .ref s.heap.objs.size, rawInt 0, .none, .none] }) (s.heap.objs.size + 1) s.heap.objs.size 0 .none := by
    have := Heap.get?_push_size (s.heap.push o) (o := { cls := .type "enumerate", data := .fields #[.none, .bool false, .ref s.heap.objs.size, rawInt 0, .none, .none] }) rfl
    rw [hz] at this; exact this
  refine ⟨⟨_, he, rfl⟩, h _ he (Heap.get?_push_of_some _ (Heap.get?_push_size _ B.free)) (by rw [Heap.size_push, hz]) fun b o x => Heap.get?_push_of_some _ (Heap.get?_push_of_some _ x)⟩
end PySem
namespace MPW
open PySem PySem.Spec PyProof.Rows L2
def numS (xs : List V) : List (V × V) := (List.range xs.length).zip xs |>.map fun p => (V.int (p.1 : Int), p.2)
theorem numS_len (xs : List V) : (numS xs).length = xs.length := by unfold numS; simp
theorem numS_at {xs : List V} {i : Nat} {x : V} (e : xs[i]? = some x) : (numS xs)[i]? = some (V.int (i : Int), x) := by
  have hl := (List.getElem?_eq_some_iff.mp e).1
  unfold numS
  rw [List.getElem?_map, (List.getElem?_zip_eq_some (z := (i, x))).mpr ⟨List.getElem?_range hl, e⟩]
  rfl
/-- enumerate of a source -/
def iEnumS (K : PySem.W.Frag) (ta : TA) : TI := fun σ H R => ta σ H fun us H1 => ∃ (c : Addr) (RB : Hp → Prop) (xs : List V), us = [.ref c] ∧ RB H1 ∧
  (∀ (X : Cx) (pins : List (Addr × Obj)) (σ : L2.St) (s : Shared), X.K = K → Inv X pins σ H1 s → SrcV K RB c xs) ∧ R (Itp RB (numS xs)) H1
theorem pi_enumS {X : Cx} {e : Expr} {ta : TA} {p pos tpos : Pos} {elts : List Expr} {kk : Nat} (hg : Gl X "enumerate") (hm : X.mg "enumerate" = none) (ha : PA X [e] ta) (hs : starEach [e] X.env = [(false, eval e X.env)] := by rfl) :
    PI X (.Tuple elts kk tpos) (.Call (.Name "enumerate" p) [e] [] pos) (iEnumS X.K ta) := by
  refine ⟨fun pins s σ H R I h => ?_⟩
  refine Call_ (ld_blt I hg hm boot_enumerate (PyProof.Rows.callWith_type1 (thn (ha.run pos pins s σ H _ I h) fun us s1 ⟨vs, H1, I1, r1, q1⟩ => ?_) hs rfl))
  obtain ⟨c1, RB1, xs, ex, rb1, src, q⟩ := q1
  subst ex
  cases r1 with
  | cons r rr =>
    cases rr
    cases r
    obtain ⟨β1, o1, n1, B1, P1, Own1, S1, k1⟩ := src X pins σ s1 rfl I1
    have k1 := srcWeak k1
    obtain ⟨b1, hb1, _⟩ := k1 X pins σ H1 s1 rfl I1 rb1
    have l1 : c1 < s1.heap.objs.size := by obtain ⟨_, z⟩ := S1.there _ _ hb1; exact Heap.lt_size z
    refine enum_begins1 (S1.beg b1) hb1 fun h' he h1 hsz hk => wpAny_pyIter_enum he ?_
    have I2 : Inv X pins σ H1 { s1 with heap := h' } := I1.kept (t' := s1.toks) hk
    have tn := turn_pair (P := X.prog) (w := X.w) (K := X.K) (elts := elts) (kk := kk) (tpos := tpos) (I := s1.heap.objs.size + 1) (own := [s1.heap.objs.size + 1, s1.heap.objs.size]) (by simp)
      (Own := fun i h => (∃ old, IsEnum h (s1.heap.objs.size + 1) s1.heap.objs.size (0 + (i : Int)) old) ∧ Own1 s1.heap.objs.size i h) (RB := RB1) (ps := numS xs)
      (fun i h st b hb => by
        obtain ⟨⟨old, t1⟩, t2⟩ := st
        have e' : b = s1.heap.objs.size + 1 ∨ b = s1.heap.objs.size := by simpa using hb
        rcases e' with z | z
        · rw [z]; exact ⟨_, t1, fun v q => nomatch q⟩
        · rw [z]; exact S1.live _ _ _ t2)
      (fun i h h' st k => by
        obtain ⟨⟨old, t1⟩, t2⟩ := st
        exact ⟨⟨old, k _ (by simp) _ t1⟩, S1.keep _ _ _ _ t2 fun o e => k _ (by simp) o e⟩)
      (fun A i s Q E st h => by obtain ⟨⟨old, t1⟩, _⟩ := st; exact wpAny_pyIter_enum t1 h)
      (fun Y pins σ H s hP hw hK J rb hh => by
        obtain ⟨c1', z1, z2, z3⟩ := k1 Y pins σ H s hK J rb
        have n1' : c1 ≠ s1.heap.objs.size := Nat.ne_of_lt l1
        have n2' : s1.heap.objs.size + 1 ∉ [s1.heap.objs.size, c1] := fun z => by
          have e' : s1.heap.objs.size + 1 = s1.heap.objs.size ∨ s1.heap.objs.size + 1 = c1 := by simpa using z
          rcases e' with z | z
          · exact absurd z (Nat.succ_ne_self _)
          · rw [← z] at l1
            exact absurd l1 (Nat.not_lt.mpr (Nat.le_succ _))
        have G := GoesN.enumFrom (elts := elts) (x1 := kk) (pos := tpos) (0 : Int) (S1.draws X.prog X.w Y.A.in1 hh s1.heap.objs.size c1' n1') (s1.heap.objs.size + 1) (Nat.succ_ne_self _) n2' (by simp)
        rw [z2, ← numS_len] at G
        refine ⟨fun h => B1 c1' h, _, [s1.heap.objs.size + 1, s1.heap.objs.size], _, z1, fun b hb => hb, goesN_congr G fun i h => ⟨fun ⟨t1, t2, t3⟩ => ⟨⟨t1, t2⟩, t3⟩, fun ⟨⟨t1, t2⟩, t3⟩ => ⟨t1, t2, t3⟩⟩, ?_⟩
        rintro i h0 v h ⟨T, t, x, rfl, hT, hp, hTup⟩
        obtain ⟨y, e1, r1⟩ := z3 i x hp
        exact ⟨T, _, x, V.int (i : Int), y, rfl, hT, hTup, numS_at e1, ⟨t, by rw [Int.zero_add]⟩, r1⟩)
    refine ⟨s1.heap.objs.size + 1, [s1.heap.objs.size + 1, s1.heap.objs.size], _, _, H1, rfl, I2, tn, ⟨Nat.zero_le _, ⟨_, he⟩, S1.start _ _ h1⟩, fun c hcm => ?_, q⟩
    have hle : s1.heap.objs.size ≤ c := by
      have e' : c = s1.heap.objs.size + 1 ∨ c = s1.heap.objs.size := by simpa using hcm
      rcases e' with z | z <;> rw [z] <;> first | exact Nat.le_add_right _ _ | exact Nat.le_refl _
    exact I1.fpOk hle (I1.hok.fresh hle)
/-- the pairs of a locked dict by tuples -/
def IsPairs (H : Hp) (kvs : List (List Key × V)) (ps : List (V × V)) : Prop := ps.length = kvs.length ∧ ∀ (i : Nat) (k : List Key) (v : V), kvs[i]? = some (k, v) → ∃ q, ps[i]? = some (.ref q, v) ∧ H q = some (.tup (k.map kV))
/-- the items of a dict, by its kind -/
def iItemsA (td : TE) : TI := fun σ H R => td σ H fun x H1 => ∃ d o, x = .ref d ∧ ((∃ kvs, H1 d = some (.frz o (.dK kvs)) ∧ R (Iti d o kvs) H1) ∨ (∃ kvs, H1 d = some (.frz o (.dT kvs)) ∧ ∀ ps, IsPairs H1 kvs ps → R (Itp (fun H => H d = some (.frz o (.dT kvs))) ps) H1))
theorem pi_itemsA {X : Cx} {td : TE} {e : Expr} {apos cpos tpos : Pos} {elts : List Expr} {kk : Nat} (he : PE X e td) (hbase : attributeBase e "items" X.env (eval e X.env) = eval e X.env := by rfl) (hline : (apos.endLine == cpos.line) = true := by rfl) :
    PI X (.Tuple elts kk tpos) (.Call (.Attribute e "items" apos) [] [] cpos) (iItemsA td) := by
  refine ⟨fun pins s σ H R I h => ?_⟩
  refine wpAny_Call_method (T := "dict") (id := "dict.items") hbase rfl hline F.plainAttrs_dict F.slot_dict_items F.type_dict_items (thn (he.run pins s σ H _ I h) fun u s1 ⟨x, H1, I1, rx, d, o, ex, q⟩ => ?_)
  rcases q with ⟨kvs, hd, q⟩ | ⟨kvs, hd, q⟩
  · subst ex
    obtain rfl : u = Value.ref d := rx
    obtain ⟨hs, hgd, hx, es, ep, vs, hdt, hsz, kv, hm⟩ := I1.frzK hd
    have hl : kvs.length = vs.length := Paired.length kv
    refine ⟨hm.dictOf.typeIs, hm.dictOf.mapOf.noDict, ?_⟩
    have I2 : Inv X pins σ H1 { s1 with heap := s1.heap.push { cls := .type "dict_items", data := .fields #[.ref d] } } := I1.kept (t' := s1.toks) fun b ob q => Heap.get?_push_of_some _ q
    have fin : wpAny (model X.prog X.w) X.A (pyIter (.ref s1.heap.objs.size)) (PIE X pins σ (.Tuple elts kk tpos) R) X.xe { s1 with heap := s1.heap.push { cls := .type "dict_items", data := .fields #[.ref d] } } := by
      refine wpAny_pyIter_items (d := d) (knd := mixKind X.prog X.w) ⟨_, Heap.get?_push_size _ rfl, rfl, rfl⟩ (hm.push _) (pi_one (tk := s1.toks) I2 _ (turn_items _ hdt) ⟨.none, .none, ?_⟩ q)
      rw [hl]
      exact Heap.get?_push_size _ rfl
    show wpAny _ _ (callWith cpos (.builtin "dict.items") [.ref d] [] []) _ X.xe s1
    exact method_meetsIn F.slot_dict_items F.entry_dict_items rfl (PySem.evalArgs_none ⟨rfl, hm.dictOf.typeIs, F.args_dict_items_1 _, _, meets_dict_items (mixKind X.prog X.w) d hs, ⟨vs, hm.dictOf⟩, fin⟩)
  · subst ex
    obtain rfl : u = Value.ref d := rx
    obtain ⟨hgd, z, hs, xs, pr, o', es, ep, ho, hx, hdt, hen, hnd⟩ := I1.hok d _ hd
    have ho2 := ho
    rw [hgd] at ho2
    cases ho2
    have hm : s1.heap.DictRaw d es ep := ⟨o, hgd, hx, hdt⟩
    have l1 : es.size = xs.length := size_of_entries hen
    have l2 : kvs.length = xs.length := Paired.length pr
    have lt : d < s1.heap.objs.size := Heap.lt_size hgd
    refine ⟨hm.typeIs, fun b e => ?_, ?_⟩
    · cases e
      exact ⟨o, hgd, hx.2.1⟩
    let ps : List (V × V) := (kvs.zip xs).map fun p => (V.ref p.2.2.1, p.1.2)
    have psl : ps.length = kvs.length := by simp [ps]; omega
    have psat : ∀ (i : Nat) (k : List Key) (v : V), kvs[i]? = some (k, v) → ∃ b, xs[i]? = some b ∧ ps[i]? = some (.ref b.2.1, v) ∧ k = b.1 ∧ RelV v b.2.2 ∧ H1 b.2.1 = some (.tup (k.map kV)) := fun i k v e => by
      obtain ⟨b, e1, e2, e3, e4⟩ := L2.paired_get pr e
      refine ⟨b, e1, ?_, e2, e4, e3⟩
      show ((kvs.zip xs).map _)[i]? = _
      rw [List.getElem?_map, (List.getElem?_zip_eq_some (z := ((k, v), b))).mpr ⟨e, e1⟩]
      rfl
    have I2 : Inv X pins σ H1 { s1 with heap := s1.heap.push { cls := .type "dict_items", data := .fields #[.ref d] } } := I1.kept (t' := s1.toks) fun b ob q => Heap.get?_push_of_some _ q
    have tn : ∀ it, d < it → Turn X.prog X.w X.K (.Tuple elts kk tpos) (Itp (fun H => H d = some (.frz o (.dT kvs))) ps) [it] it (fun i h => i ≤ ps.length ∧ ∃ ok ov, IsItemIter h it d i es.size ep ok ov) := fun it hit =>
      turn_pair (by simp)
        (fun i h ⟨ok, ov, e⟩ b hb => by
          rw [List.mem_singleton.mp hb]
          exact ⟨_, e, fun v q => nomatch q⟩)
        (fun i h h' ⟨ok, ov, e⟩ k => ⟨ok, ov, k it (by simp) _ e⟩)
        (fun A i s Q E ⟨ok, ov, e⟩ h => PySem.W.kcp_self e h)
        (fun Y pins σ H s hP hw hK J rb hh => by
          obtain ⟨gd, _, _, xs', pr', o2, es', ep', ho', hx', hdt', hen', _⟩ := J.hok d _ rb
          rw [gd] at ho'
          cases ho'
          obtain ⟨rfl, rfl⟩ := dict_ep hdt hdt'
          have G := GoesN.rawItems (prog := X.prog) (w := X.w) (elts := elts) (x1 := kk) (pos := tpos) hh it d (Nat.ne_of_lt hit) es' ep'
          have eS : es'.size = ps.length := by rw [psl, l2]; exact size_of_entries hen
          have G2 := G.mono (Y' := fun i h₀ v h => ∃ T en, es'[i]? = some en ∧ v = .ref T ∧ h₀.objs.size ≤ T ∧ h.IsTuple T #[en.key, en.val]) fun i h₀ v h hi0 ⟨T, hi, e1, e2, e3⟩ => ⟨T, es'[i], Array.getElem?_eq_getElem hi, e1, e2, e3⟩
          refine ⟨fun h => h.DictRaw d es' ep', [it, d], [it], fun i h₀ v h => ∃ T en, es'[i]? = some en ∧ v = .ref T ∧ h₀.objs.size ≤ T ∧ h.IsTuple T #[en.key, en.val], ⟨o, gd, hx, hdt⟩, fun b hb => hb, ?_, ?_⟩
          · rw [← eS]
            exact G2
          · rintro i h0 v h ⟨T, en, hen1, rfl, hT, hTup⟩
            have hi : i < es'.size := (Array.getElem?_eq_some_iff.mp hen1).1
            have hi2 : i < kvs.length := by omega
            obtain ⟨⟨k, v⟩, hkv⟩ : ∃ p, kvs[i]? = some p := ⟨kvs[i], List.getElem?_eq_getElem hi2⟩
            obtain ⟨b, e1, e2, e3, e4, e5⟩ := psat i k v hkv
            have q1 := entry_at hen i
            rw [e1, hen1] at q1
            have q1 := Option.some.inj q1
            refine ⟨T, _, _, _, _, rfl, hT, hTup, e2, ?_, ?_⟩
            · show en.key = Value.ref b.2.1
              rw [q1]; rfl
            · rw [show en.val = b.2.2 from by rw [q1]; rfl]
              exact e4)
    have fin : wpAny (model X.prog X.w) X.A (pyIter (.ref s1.heap.objs.size)) (PIE X pins σ (.Tuple elts kk tpos) R) X.xe { s1 with heap := s1.heap.push { cls := .type "dict_items", data := .fields #[.ref d] } } := by
      refine wpAny_pyIter_items_raw (d := d) ⟨_, Heap.get?_push_size _ rfl, rfl, rfl⟩ (hm.at fun o e => Heap.get?_push_of_some _ e) (pi_one (tk := s1.toks) I2 _ (tn _ ?_) ⟨Nat.zero_le _, .none, .none, Heap.get?_push_size _ rfl⟩ (q ps ⟨psl, fun i k v e => ?_⟩))
      · rw [Heap.size_push]
        exact Nat.lt_succ_of_lt lt
      · obtain ⟨b, _, e2, _, _, e5⟩ := psat i k v e
        exact ⟨b.2.1, e2, e5⟩
    show wpAny _ _ (callWith cpos (.builtin "dict.items") [.ref d] [] []) _ X.xe s1
    exact method_meetsIn F.slot_dict_items F.entry_dict_items rfl (PySem.evalArgs_none ⟨rfl, hm.typeIs, F.args_dict_items_1 _, _, meets_dict_items_raw d hs, ⟨es, ep, hm⟩, fin⟩)
end MPW
/-! MP: walks, targets, comprehensions, statements. -/
namespace MP
open PySem PySem.Spec PyProof.Rows L2
section
variable {X : Cx} {ea eb ec tg : Expr} {es : List Expr} {pos p : Pos} {fa fb fc : Env → M MV} {ta tb tc : Env → M Bool} {fl fk : Env → M (List MV)}
/-! ### walks -/
/-- a list, a tuple, a text: by the value met -/
def iAny (K : PySem.W.Frag) (t : TE) : TI := fun σ H R => t σ H fun x H1 => (∃ a xs, x = .ref a ∧ SqL K H1 a xs ∧ R (Itl K a) H1) ∨ (∃ a xs, x = .ref a ∧ SqT K H1 a xs ∧ R (Itt K a) H1) ∨ (∃ z, x = .str z ∧ R (Its z) H1) ∨
  ∃ d o, x = .ref d ∧ ((∃ kvs, H1 d = some (.frz o (.dK kvs)) ∧ R (Itk d o kvs) H1) ∨ ∃ kvs, H1 d = some (.frz o (.dT kvs)) ∧ R (Itkt d o kvs) H1)
theorem pi_any {t : TE} (he : PE X ea t) : PI X tg ea (iAny X.K t) := by
  refine ⟨fun pins s σ H R I k => ?_⟩
  refine thn (he.run pins s σ H _ I k) fun u s1 ⟨x, H1, I1, rx, d⟩ => ?_
  rcases d with ⟨a, xs, rfl, hq, q⟩ | ⟨a, xs, rfl, hq, q⟩ | ⟨z, rfl, q⟩ | ⟨d, o, rfl, q⟩
  · obtain ⟨w, rv, hl, _⟩ := I1.list hq
    cases rx
    exact wpAny_pyIter_list hl.isList (pi_one (tk := s1.toks) I1 _ (turn_list a _) ⟨_, Heap.get?_push_size _ rfl, rfl, rfl⟩ q)
  · obtain ⟨w, rv, hl, _⟩ := I1.tuple hq
    cases rx
    exact wpAny_pyIter_tuple (show s1.heap.IsTuple a w.toArray from hl) (pi_one (tk := s1.toks) I1 _ (turn_tuple a _) ⟨_, Heap.get?_push_size _ rfl, rfl, rfl⟩ q)
  · obtain ⟨tk, rfl⟩ := rx
    cases hw : z.cps.all (· < 128) with
    | false => exact wpAny_pyIter_wide hw (pi_one (tk := s1.toks) I1 _ (turn_str _ z tk "str_iterator" (.inr rfl)) ⟨_, Heap.get?_push_size _ rfl, rfl, rfl⟩ q)
    | true => exact wpAny_pyIter_ascii hw (pi_one (tk := s1.toks) I1 _ (turn_str _ z tk "str_ascii_iterator" (.inl rfl)) ⟨_, Heap.get?_push_size _ rfl, rfl, rfl⟩ q)
  · obtain rfl : u = Value.ref d := rx
    rcases q with ⟨kvs, hd, q⟩ | ⟨kvs, hd, q⟩
    · obtain ⟨hs, hgd, hx, es, ep, vs, hdt, hsz, kv, hm⟩ := I1.frzK hd
      refine iter_keys hs hgd hx hdt (pi_one (tk := s1.toks) I1 _ (turn_keys _ hdt) ⟨_, Heap.get?_push_size _ rfl, rfl, ?_⟩ q)
      rw [hsz] <;> rfl
    · obtain ⟨hs, hgd, hx, es, ep, hdt, hsz, ent⟩ := I1.frzT hd
      refine iter_keys hs hgd hx hdt (pi_one (tk := s1.toks) I1 _ (turn_keysT _ hdt) ⟨_, Heap.get?_push_size _ rfl, rfl, ?_⟩ q)
      rw [hsz] <;> rfl
section
variable {K : PySem.W.Frag} {m m' : List Addr} {H H' : Hp}
theorem vr_keyT {x : MV} {k : List Key} {q : Addr} (e : keyT x = some k) (hq : H q = some (.tup (k.map kV))) : VR K m H x (.ref q) := by
  cases x <;> first | cases e | skip
  unfold VR
  exact ⟨q, _, rfl, hq, vrs_keys e⟩
theorem mapO_at {α β : Type} {f : α → Option β} {xs : List α} {ys : List β} (e : mapO f xs = some ys) {i : Nat} {x : α} (h : xs[i]? = some x) : ∃ y, ys[i]? = some y ∧ f x = some y := (mapO_some e).2 i x h
theorem zip_len {α β : Type} {xs : List α} {ys : List β} (h : xs.length = ys.length) : (xs.zip ys).length = xs.length := by
  rw [List.length_zip]; omega
theorem Mon.fresh {p : Addr} {o : HO} (hp : H p = none) : Mon K m H m (upd H p o) :=
  ⟨List.prefix_refl _, fun _ _ q => tup_upd q (wr_none hp), fun _ _ q => roL_upd q (wr_none hp), frz_upd (wr_none hp), fun a C dx fs n e => ⟨n, by rw [upd_ne (ne_of_none e hp)]; exact e⟩⟩
theorem jv_keys {d : Addr} {o : Obj} {ks : List MV} {kk : List Key} {ws : List V} (q : H d = some (.frz o (.dK (kk.zip ws)))) (e : mapO keyM ks = some kk) (hl : kk.length = ws.length) : JV K m H ks (Itk d o (kk.zip ws)) := by
  have l1 := (mapO_some e).1
  have l2 := zip_len hl
  refine ⟨fun m H => H d = some (.frz o (.dK (kk.zip ws))), q, fun m H m' H' P g => P.frz _ _ _ g, fun m H g i => ⟨fun e0 => ⟨g, ?_⟩, fun x e0 => ⟨⟨g, ?_⟩, fun y H' hy => ?_⟩⟩⟩
  · have := List.getElem?_eq_none_iff.mp e0
    omega
  · have := (List.getElem?_eq_some_iff.mp e0).1
    omega
  · obtain ⟨rfl, k, v, e2, rfl⟩ := hy
    obtain ⟨k', e3, e4⟩ := mapO_at e e0
    have := (List.getElem?_zip_eq_some.mp e2).1
    rw [e3] at this
    cases this
    exact ⟨.inl rfl, vr_key e4⟩
theorem jv_keysT {d : Addr} {o : Obj} {ks : List MV} {kk : List (List Key)} {ws : List V} (q : H d = some (.frz o (.dT (kk.zip ws)))) (e : mapO keyT ks = some kk) (hl : kk.length = ws.length) : JV K m H ks (Itkt d o (kk.zip ws)) := by
  have l1 := (mapO_some e).1
  have l2 := zip_len hl
  refine ⟨fun m H => H d = some (.frz o (.dT (kk.zip ws))), q, fun m H m' H' P g => P.frz _ _ _ g, fun m H g i => ⟨fun e0 => ⟨g, ?_⟩, fun x e0 => ⟨⟨g, ?_⟩, fun y H' hy => ?_⟩⟩⟩
  · have := List.getElem?_eq_none_iff.mp e0
    omega
  · have := (List.getElem?_eq_some_iff.mp e0).1
    omega
  · obtain ⟨rfl, k, v, q, e2, rfl, hq⟩ := hy
    obtain ⟨k', e3, e4⟩ := mapO_at e e0
    have := (List.getElem?_zip_eq_some.mp e2).1
    rw [e3] at this
    cases this
    exact ⟨.inl rfl, vr_keyT e4 hq⟩
theorem jv_vals {d : Addr} {o : Obj} {vs : List MV} {kk : List Key} {ws : List V} (q : H d = some (.frz o (.dK (kk.zip ws)))) (r : VRs K m H vs ws) (hl : kk.length = ws.length) : JV K m H vs (Itd d o (kk.zip ws)) := by
  have l1 := r.length
  have l2 := zip_len hl
  refine ⟨fun m H => H d = some (.frz o (.dK (kk.zip ws))) ∧ VRs K m H vs ws, ⟨q, r⟩, fun m H m' H' P g => ⟨P.frz _ _ _ g.1, g.2.mn P⟩, fun m H g i => ⟨fun e0 => ⟨g.1, ?_⟩, fun x e0 => ⟨⟨g.1, ?_⟩, fun y H' hy => ?_⟩⟩⟩
  · have := List.getElem?_eq_none_iff.mp e0
    omega
  · have := (List.getElem?_eq_some_iff.mp e0).1
    omega
  · obtain ⟨rfl, k, e2⟩ := hy
    obtain ⟨w, e3, e4⟩ := g.2.get e0
    have := (List.getElem?_zip_eq_some.mp e2).2
    rw [e3] at this
    cases this
    exact ⟨.inl rfl, e4⟩
def pairs (xs ys : List MV) : List MV := (xs.zip ys).map fun p => MV.tup [p.1, p.2]
theorem vr_pair {x y : MV} {a b : V} {T : Addr} (hT : H T = none) (r1 : VR K m H x a) (r2 : VR K m H y b) : VR K m (upd H T (.tup [a, b])) (.tup [x, y]) (.ref T) := by
  unfold VR
  refine ⟨T, _, rfl, upd_same, ?_⟩
  unfold VRs
  exact ⟨a, [b], rfl, r1.mn (Mon.fresh hT), VRs.one (r2.mn (Mon.fresh hT))⟩
theorem pairs_at' {xs ys : List MV} {i : Nat} {z : MV} (e : (pairs xs ys)[i]? = some z) : ∃ x y, xs[i]? = some x ∧ ys[i]? = some y ∧ z = .tup [x, y] := by
  unfold pairs at e
  rw [List.getElem?_map] at e
  cases h : (xs.zip ys)[i]? with
  | none => rw [h] at e; cases e
  | some p =>
    rw [h] at e
    cases e
    obtain ⟨h1, h2⟩ := List.getElem?_zip_eq_some.mp h
    exact ⟨p.1, p.2, h1, h2, rfl⟩
theorem pairs_len (xs ys : List MV) : (pairs xs ys).length = min xs.length ys.length := by
  unfold pairs
  rw [List.length_map, List.length_zip]
theorem jv_items {d : Addr} {o : Obj} {ks vs : List MV} {kk : List Key} {ws : List V} (q : H d = some (.frz o (.dK (kk.zip ws)))) (e : mapO keyM ks = some kk) (hl : kk.length = ws.length) (r : VRs K m H vs ws) : JV K m H (pairs ks vs) (Iti d o (kk.zip ws)) := by
  have l1 := (mapO_some e).1
  have l2 := zip_len hl
  have l3 := r.length
  refine ⟨fun m H => H d = some (.frz o (.dK (kk.zip ws))) ∧ VRs K m H vs ws, ⟨q, r⟩, fun m H m' H' P g => ⟨P.frz _ _ _ g.1, g.2.mn P⟩, fun m H g i => ⟨fun e0 => ⟨g.1, ?_⟩, fun x e0 => ⟨⟨g.1, ?_⟩, fun y H' hy => ?_⟩⟩⟩
  · have := List.getElem?_eq_none_iff.mp e0
    rw [pairs_len] at this
    omega
  · have := (List.getElem?_eq_some_iff.mp e0).1
    rw [pairs_len] at this
    omega
  · obtain ⟨T, k, v, e2, rfl, hT, rfl⟩ := hy
    obtain ⟨x, z, e3, e4, rfl⟩ := pairs_at' e0
    obtain ⟨h1, h2⟩ := List.getElem?_zip_eq_some.mp e2
    obtain ⟨k', e5, e6⟩ := mapO_at e e3
    rw [e5] at h1
    cases h1
    obtain ⟨w, e7, e8⟩ := g.2.get e4
    rw [e7] at h2
    cases h2
    exact ⟨.inr ⟨T, _, hT, rfl⟩, vr_pair hT (vr_key e6) e8⟩
theorem jv_pairs {RB : Hp → Prop} {xs ys : List MV} {as bs : List V} (hs : ∀ m H m' H', Mon K m H m' H' → RB H → RB H') (rb : RB H) (r1 : VRs K m H xs as) (r2 : VRs K m H ys bs) : JV K m H (pairs xs ys) (MPW.Itp RB (as.zip bs)) := by
  have l1 := r1.length
  have l2 := r2.length
  refine ⟨fun m H => RB H ∧ VRs K m H xs as ∧ VRs K m H ys bs, ⟨rb, r1, r2⟩, fun m H m' H' P g => ⟨hs _ _ _ _ P g.1, g.2.1.mn P, g.2.2.mn P⟩, fun m H g i => ⟨fun e0 => ⟨g.1, ?_⟩, fun x e0 => ⟨⟨g.1, ?_⟩, fun y H' hy => ?_⟩⟩⟩
  · have := List.getElem?_eq_none_iff.mp e0
    rw [pairs_len] at this
    rw [List.length_zip]
    omega
  · have := (List.getElem?_eq_some_iff.mp e0).1
    rw [pairs_len] at this
    rw [List.length_zip]
    omega
  · obtain ⟨T, a, b, rfl, hT, rfl, e2⟩ := hy
    obtain ⟨x, z, e3, e4, rfl⟩ := pairs_at' e0
    obtain ⟨h1, h2⟩ := List.getElem?_zip_eq_some.mp e2
    obtain ⟨a', e5, e6⟩ := g.2.1.get e3
    rw [e5] at h1
    cases h1
    obtain ⟨w, e7, e8⟩ := g.2.2.get e4
    rw [e7] at h2
    cases h2
    exact ⟨.inr ⟨T, _, hT, rfl⟩, vr_pair hT e6 e8⟩
/-- what zip and enumerate walk -/
theorem src_of {x : MV} {v : V} {xs : List MV} (r : VR K m H x v) (e : zipS x = some xs) : ∃ (c : Addr) (RB : Hp → Prop) (vs : List V), v = .ref c ∧ RB H ∧ (∀ m H m' H', Mon K m H m' H' → RB H → RB H') ∧ VRs K m H xs vs ∧
    ∀ (X : Cx) (pins : List (Addr × Obj)) (σ : L2.St) (s : Shared), X.K = K → Inv X pins σ H s → MPW.SrcV K RB c vs := by
  cases x with
  | tup ys =>
    cases e
    obtain ⟨a, vs, rfl, q, rr⟩ := vr_tupH r
    exact ⟨a, fun H => H a = some (.tup vs), vs, rfl, q, fun _ _ _ _ P g => P.tup _ _ g, rr, fun X pins σ s hK I => by
      obtain ⟨β, o, n, B, P, Own, S, k⟩ := MPW.srcV_tuple (K := K) (c := a) (vs := vs)
      exact ⟨β, o, n, B, P, Own, S, fun X pins σ H s hK I rb => k X pins σ H s hK I (.inl (.inl rb))⟩⟩
  | ro ys =>
    cases e
    obtain ⟨a, vs, rfl, q, rr⟩ := vr_ro' r
    exact ⟨a, fun H => RoL K H a vs, vs, rfl, q, fun _ _ _ _ P g => P.ro _ _ g, rr, fun X pins σ s hK I => by
      obtain ⟨β, o, n, B, P, Own, S, k⟩ := MPW.srcV_list (K := K) (c := a) (vs := vs)
      exact ⟨β, o, n, B, P, Own, S, fun X pins σ H s hK I rb => k X pins σ H s hK I rb.sq⟩⟩
  | rod t ks vs =>
    cases t with
    | true => cases e
    | false =>
      cases e
      obtain ⟨a, u, ws, rfl, ⟨o, q⟩, d, rr⟩ := vr_rod' r
      rcases d with ⟨_, kk, rfl, hk, hl⟩ | ⟨z, _⟩
      · refine ⟨a, fun H => H a = some (.frz o (.dK (kk.zip ws))), _, rfl, q, fun _ _ _ _ P g => P.frz _ _ _ g, vrs_keys hk, fun X pins σ s hK I => ?_⟩
        subst hK
        have z := MPW.srcV_keys I q
        have e2 : ((kk.zip ws).map fun kv => kV kv.1) = kk.map kV := by
          show List.map (kV ∘ Prod.fst) _ = _
          rw [← List.map_map, List.map_fst_zip (by omega)]
        rw [e2] at z
        exact z
      · cases z
  | _ => cases e
end
theorem wp_chkL {α β : Type} {R : List Addr → Hp → α → β → Prop} {l : Nat} {m : List Addr} {h : MH} {f : M α} {H : Hp} {Q : β → Hp → Prop} (S : Sim X.K m h H) (w : WP X.K R (((chkL l).bnd fun _ => f) h) m H Q) : (∃ xs, h[l]? = some (.lst xs)) ∧ WP X.K R (f h) m H Q := by
  cases e : h[l]? with
  | none =>
    have e4 : chkL l h = .stuck := by unfold chkL; rw [e]
    unfold M.bnd at w
    rw [e4] at w
    exact False.elim w
  | some o =>
    cases o with
    | lst xs =>
      have e4 : chkL l h = .ok () h := by unfold chkL; rw [e]
      unfold M.bnd at w
      rw [e4] at w
      exact ⟨⟨xs, rfl⟩, w⟩
    | dct _ _ =>
      have e4 : chkL l h = .stuck := by unfold chkL; rw [e]
      unfold M.bnd at w
      rw [e4] at w
      exact False.elim w
    | ins _ _ =>
      have e4 : chkL l h = .stuck := by unfold chkL; rw [e]
      unfold M.bnd at w
      rw [e4] at w
      exact False.elim w
    | gap =>
      have e4 : chkL l h = .stuck := by unfold chkL; rw [e]
      unfold M.bnd at w
      rw [e4] at w
      exact False.elim w
theorem li_vl (ha : PE X ea (tE X.K fa)) : PI X tg ea (tI X.K fun ρ => (fa ρ).bnd itV) :=
  pi_imp (pi_any ha) fun σ H Q ⟨m, h, ρ, S, en, w⟩ =>
    liftG (R := rV X.K) (g := fun x _ => itV x) S en w fun m1 h1 x v H1 P1 S1 en1 r1 w1 => by
      cases x with
      | ref l =>
        obtain ⟨⟨xs, e⟩, w2⟩ := wp_chkL (f := M.ret (Itv.il l)) S1 w1
        obtain ⟨a, ha, rfl⟩ := vr_ref' r1
        obtain ⟨vs, h1, _⟩ := S1.lst ha e
        exact .inl ⟨a, vs, rfl, SqL.of h1, w2.ret S1 ⟨a, ha, rfl⟩⟩
      | tup xs =>
        obtain ⟨a, vs, rfl, q, r⟩ := vr_tup' r1
        have hq := q
        obtain ⟨b, us, e, hb, rr⟩ := vr_tupH r1
        cases e
        exact .inr (.inl ⟨a, us, rfl, .inl (.inl hb), WP.ret (a := Itv.vs xs) w1 S1 (jv_tup hb rr)⟩)
      | ro xs =>
        obtain ⟨a, vs, rfl, q, r⟩ := vr_ro' r1
        exact .inl ⟨a, vs, rfl, q.sq, WP.ret (a := Itv.vs xs) w1 S1 (jv_ro q r)⟩
      | str z => exact .inr (.inr (.inl ⟨z, vr_str' r1, WP.ret (a := Itv.vs (z.cps.toList.map fun c => MV.str ⟨#[c]⟩)) w1 S1 (jv_str z)⟩))
      | rod t ks vs =>
        obtain ⟨a, u, ws, rfl, ⟨o, q⟩, d, rr⟩ := vr_rod' r1
        refine .inr (.inr (.inr ⟨a, o, rfl, ?_⟩))
        rcases d with ⟨_, kk, rfl, hk, hl⟩ | ⟨_, kk, rfl, hk, hl⟩
        · exact .inl ⟨_, q, WP.ret (a := Itv.vs ks) w1 S1 (jv_keys q hk hl)⟩
        · exact .inr ⟨_, q, WP.ret (a := Itv.vs ks) w1 S1 (jv_keysT q hk hl)⟩
      | _ => exact False.elim w1
def rangeN : Str := "range"
theorem li_rg1 (hs : noStar ea = true) (hg : Gl X rangeN) (hm : X.mg rangeN = none) (ha : PE X ea (tE X.K fa)) : PI X tg (.Call (.Name rangeN p) [ea] [] pos) (tI X.K fun ρ => (fa ρ).bnd rg1V) :=
  pi_imp (pi_range1 hg hm (pa_cons ha pa_nil (star_cons hs)) (star_cons hs)) fun σ H Q ⟨m, h, ρ, S, en, w⟩ =>
    liftG (R := rV X.K) (g := fun x _ => rg1V x) S en w fun m1 h1 x v H1 P1 S1 en1 r1 w1 => by
      cases x with
      | int n =>
        replace w1 : WP X.K (JR X.K) ((if smallR n then M.ret (Itv.vs (rangeItems 0 n)) else .stk) h1) m1 H1 Q := w1
        split at w1
        · rename_i hn
          have e := (smallR_of hn)
          refine ⟨n, by rw [vr_int' r1], e.1, e.2, WP.ret (a := Itv.vs (rangeItems 0 n)) w1 S1 (by have z := jv_range (K := X.K) (m := m1) (H := H1) 0 n; rw [Int.sub_zero] at z; exact z)⟩
        · exact False.elim w1
      | _ => exact False.elim w1
theorem li_rg2 (hs : noStar ea = true) (hs2 : noStar eb = true) (hg : Gl X rangeN) (hm : X.mg rangeN = none) (ha : PE X ea (tE X.K fa)) (hb : PE X eb (tE X.K fb)) : PI X tg (.Call (.Name rangeN p) [ea, eb] [] pos) (tI X.K fun ρ => (fa ρ).bnd fun x => (fb ρ).bnd fun y => rg2V x y) :=
  pi_imp (pi_range2 hg hm (pa_cons ha (pa_cons hb pa_nil (star_cons hs2)) (star_cons hs)) (by rw [star_cons hs, star_cons hs2]; rfl) (star_cons hs2)) fun σ H Q ⟨m, h, ρ, S, en, w⟩ =>
    liftG (R := rV X.K) (g := fun x ρ => (fb ρ).bnd fun y => rg2V x y) S en w fun m1 h1 x v H1 P1 S1 en1 r1 w1 =>
      liftG (R := rV X.K) (g := fun y _ => rg2V x y) S1 en1 w1 fun m2 h2 y u H2 P2 S2 en2 r2 w2 => by
        cases x with
        | int n =>
          cases y with
          | int k =>
            replace w2 : WP X.K (JR X.K) ((if smallR n && smallR k then M.ret (Itv.vs (rangeItems n k)) else .stk) h2) m2 H2 Q := w2
            split at w2
            · rename_i hn
              rw [Bool.and_eq_true_iff] at hn
              have e := (smallR_of hn.1)
              have e2 := (smallR_of hn.2)
              refine ⟨n, k, by rw [vr_int' r1, vr_int' r2], ⟨e.1, e.2, e2.1, e2.2⟩, WP.ret (a := Itv.vs (rangeItems n k)) w2 S2 (jv_range n k)⟩
            · exact False.elim w2
          | _ => exact False.elim w2
        | _ => exact False.elim w2
def enumN : Str := "enumerate"
def zipN : Str := "zip"
theorem enV_eq {x : MV} {h : MH} : enV x h = match x with
    | .tup xs => .ok (.vs (pairs ((List.range xs.length).map fun (i : Nat) => MV.int (i : Int)) xs)) h
    | .ro xs => .ok (.vs (pairs ((List.range xs.length).map fun (i : Nat) => MV.int (i : Int)) xs)) h
    | _ => .stuck := by
  have key : ∀ xs : List MV, (((List.range xs.length).zip xs).map fun p => MV.tup [.int (p.1 : Int), p.2]) = pairs ((List.range xs.length).map fun (i : Nat) => MV.int (i : Int)) xs := fun xs => by
    unfold pairs
    rw [List.zip_map_left, List.map_map]
    rfl
  cases x <;> first | rfl | (show Res.ok (Itv.vs _) h = _; rw [key])
theorem vrs_range {K : PySem.W.Frag} {m : List Addr} {H : Hp} (n : Nat) : VRs K m H ((List.range n).map fun (i : Nat) => MV.int (i : Int)) ((List.range n).map fun (i : Nat) => V.int (i : Int)) := by
  generalize List.range n = l
  induction l with
  | nil => show VRs K m H [] []; unfold VRs; rfl
  | cons i r ih =>
    show VRs K m H (.int i :: _) (.int i :: _)
    unfold VRs
    exact ⟨_, _, rfl, vr_int _, ih⟩
theorem numS_eq (xs : List V) : MPW.numS xs = ((List.range xs.length).map fun (i : Nat) => V.int (i : Int)).zip xs := by
  unfold MPW.numS
  rw [List.zip_map_left]
  rfl
theorem li_en {kk : Nat} {tpos : Pos} {elts : List Expr} (hs : noStar ea = true) (hg : Gl X enumN) (hm : X.mg enumN = none) (ha : PE X ea (tE X.K fa)) : PI X (.Tuple elts kk tpos) (.Call (.Name enumN p) [ea] [] pos) (tI X.K fun ρ => (fa ρ).bnd enV) :=
  pi_imp (MPW.pi_enumS hg hm (pa_cons ha pa_nil (star_cons hs)) (star_cons hs)) fun σ H Q ⟨m, h, ρ, S, en, w⟩ =>
    liftG (R := rV X.K) (g := fun x _ => enV x) S en w fun m1 h1 x v H1 P1 S1 en1 r1 w1 => by
      have key : ∀ xs, zipS x = some xs → enV x h1 = .ok (.vs (pairs ((List.range xs.length).map fun (i : Nat) => MV.int (i : Int)) xs)) h1 → ∃ (c : Addr) (RB : Hp → Prop) (ys : List V), [v] = [.ref c] ∧ RB H1 ∧
          (∀ (Y : Cx) (pins : List (Addr × Obj)) (σ : L2.St) (s : Shared), Y.K = X.K → Inv Y pins σ H1 s → MPW.SrcV X.K RB c ys) ∧ Q (MPW.Itp RB (MPW.numS ys)) H1 := fun xs e1 e2 => by
        obtain ⟨c, RB, vs, rfl, rb, st, rr, src⟩ := src_of r1 e1
        rw [e2] at w1
        refine ⟨c, RB, vs, rfl, rb, src, ?_⟩
        rw [numS_eq, ← rr.length]
        exact w1 m1 H1 _ Post.refl S1 (jv_pairs st rb (vrs_range _) rr)
      cases x with
      | tup xs => exact key xs rfl (enV_eq (x := .tup xs))
      | ro xs => exact key xs rfl (enV_eq (x := .ro xs))
      | _ => exact False.elim w1
theorem li_zp {kk : Nat} {tpos : Pos} {elts : List Expr} (hs : noStar ea = true) (hs2 : noStar eb = true) (hg : Gl X zipN) (hm : X.mg zipN = none) (ha : PE X ea (tE X.K fa)) (hb : PE X eb (tE X.K fb)) : PI X (.Tuple elts kk tpos) (.Call (.Name zipN p) [ea, eb] [] pos) (tI X.K fun ρ => (fa ρ).bnd fun x => (fb ρ).bnd fun y => zpV x y) :=
  pi_imp (MPW.pi_zipS hg hm (pa_cons ha (pa_cons hb pa_nil (star_cons hs2)) (star_cons hs)) (star_cons hs) (by rw [star_cons hs2]; rfl)) fun σ H Q ⟨m, h, ρ, S, en, w⟩ =>
    liftG (R := rV X.K) (g := fun x ρ => (fb ρ).bnd fun y => zpV x y) S en w fun m1 h1 x v H1 P1 S1 en1 r1 w1 =>
      liftG (R := rV X.K) (g := fun y ρ => zpV x y) S1 en1 w1 fun m2 h2 y u H2 P2 S2 en2 r2 w2 => by
        cases e1 : zipS x with
        | none =>
          have e : zpV x y h2 = .stuck := by unfold zpV; rw [e1]; rfl
          rw [e] at w2
          exact False.elim w2
        | some xs =>
          cases e2 : zipS y with
          | none =>
            have e : zpV x y h2 = .stuck := by unfold zpV; rw [e1, e2]; rfl
            rw [e] at w2
            exact False.elim w2
          | some ys =>
            have e : zpV x y h2 = .ok (.vs (pairs xs ys)) h2 := by unfold zpV; rw [e1, e2]; rfl
            rw [e] at w2
            obtain ⟨c, RB, vs, rfl, rb, st, rr, src⟩ := src_of (r1.mono P2) e1
            obtain ⟨c2, RB2, vs2, rfl, rb2, st2, rr2, src2⟩ := src_of r2 e2
            exact ⟨c, c2, RB, RB2, vs, vs2, rfl, rb, rb2, fun Y pins σ s hK I => ⟨src Y pins σ s hK I, src2 Y pins σ s hK I⟩, w2 m2 H2 _ Post.refl S2 (jv_pairs (fun m H m' H' P g => ⟨st _ _ _ _ P g.1, st2 _ _ _ _ P g.2⟩) ⟨rb, rb2⟩ rr rr2)⟩
theorem isPairs_vr {K : PySem.W.Frag} {m : List Addr} {H : Hp} {ks : List MV} {kk : List (List Key)} {ws : List V} {ps : List (V × V)} (hk : mapO keyT ks = some kk) (hl : kk.length = ws.length) (ip : MPW.IsPairs H (kk.zip ws) ps) : ∃ as, ps = as.zip ws ∧ VRs K m H ks as := by
  refine ⟨ps.map (·.1), ?_, ?_⟩
  · have e : ps.map (·.2) = ws := by
      apply List.ext_getElem?
      intro i
      rw [List.getElem?_map]
      by_cases hi : i < ws.length
      · have hz : (kk.zip ws)[i]? = some (kk[i]'(by omega), ws[i]) := List.getElem?_zip_eq_some.mpr ⟨List.getElem?_eq_getElem (by omega), List.getElem?_eq_getElem hi⟩
        obtain ⟨q, h1, _⟩ := ip.2 i _ _ hz
        rw [h1, List.getElem?_eq_getElem hi]
        rfl
      · rw [List.getElem?_eq_none (l := ws) (by omega), List.getElem?_eq_none (l := ps) (by rw [ip.1, zip_len hl]; omega)]
        rfl
    rw [← e, zip_back]
  · have l1 := (mapO_some hk).1
    have l2 : ps.length = ks.length := by rw [ip.1, zip_len hl, l1]
    have key : ∀ (i : Nat) (x : MV), ks[i]? = some x → ∃ v, (ps.map (·.1))[i]? = some v ∧ VR K m H x v := fun i x hx => by
      obtain ⟨k, e3, e4⟩ := mapO_at hk hx
      have hi : i < ws.length := by
        have := (List.getElem?_eq_some_iff.mp e3).1
        omega
      obtain ⟨q, h1, h2⟩ := ip.2 i k ws[i] (List.getElem?_zip_eq_some.mpr ⟨e3, List.getElem?_eq_getElem hi⟩)
      exact ⟨.ref q, by rw [List.getElem?_map, h1]; rfl, vr_keyT e4 h2⟩
    have build : ∀ (xs : List MV) (vs : List V), xs.length = vs.length → (∀ (i : Nat) (x : MV), xs[i]? = some x → ∃ v, vs[i]? = some v ∧ VR K m H x v) → VRs K m H xs vs := by
      intro xs
      induction xs with
      | nil =>
        intro vs h1 _
        unfold VRs
        exact List.length_eq_zero_iff.mp h1.symm
      | cons x r ih =>
        intro vs h1 h2
        cases vs with
        | nil => cases h1
        | cons v t =>
          unfold VRs
          obtain ⟨v', e1, e2⟩ := h2 0 x rfl
          cases e1
          exact ⟨_, _, rfl, e2, ih t (by simpa using h1) fun i y hy => by
            obtain ⟨z, h5, h6⟩ := h2 (i + 1) y (by simpa using hy)
            exact ⟨z, by simpa using h5, h6⟩⟩
    exact build _ _ (by rw [List.length_map, l2]) key
/-- items: by the dict's kind -/
theorem li_itsK {kk : Nat} {tpos apos : Pos} {elts : List Expr} (hb : noSuper ea = true) (hline : (apos.endLine == pos.line) = true) (ha : PE X ea (tE X.K fa)) : PI X (.Tuple elts kk tpos) (.Call (.Attribute ea "items" apos) [] [] pos) (tI X.K fun ρ => (fa ρ).bnd itsV) :=
  pi_imp (MPW.pi_itemsA ha (no_super hb) hline) fun σ H Q ⟨m, h, ρ, S, en, w⟩ =>
    liftG (R := rV X.K) (g := fun x _ => itsV x) S en w fun m1 h1 x v H1 P1 S1 en1 r1 w1 => by
      cases x with
      | rod t ks vs =>
        obtain ⟨a, u, ws, rfl, ⟨o, q⟩, d, rr⟩ := vr_rod' r1
        refine ⟨a, o, rfl, ?_⟩
        rcases d with ⟨_, kk, rfl, hk, hl⟩ | ⟨_, kk, rfl, hk, hl⟩
        · exact .inl ⟨_, q, w1 m1 H1 _ Post.refl S1 (jv_items q hk hl rr)⟩
        · refine .inr ⟨_, q, fun ps ip => ?_⟩
          obtain ⟨as, rfl, ra⟩ := isPairs_vr (K := X.K) (m := m1) hk hl ip
          exact w1 m1 H1 _ Post.refl S1 (jv_pairs (RB := fun H => H a = some (.frz o (.dT _))) (fun m H m' H' P g => P.frz _ _ _ g) q ra rr)
      | _ => exact False.elim w1
theorem li_vas {apos : Pos} (hb : noSuper ea = true) (hline : (apos.endLine == pos.line) = true) (ha : PE X ea (tE X.K fa)) : PI X tg (.Call (.Attribute ea "values" apos) [] [] pos) (tI X.K fun ρ => (fa ρ).bnd vasV) :=
  pi_imp (pi_values ha (no_super hb) hline) fun σ H Q ⟨m, h, ρ, S, en, w⟩ =>
    liftG (R := rV X.K) (g := fun x _ => vasV x) S en w fun m1 h1 x v H1 P1 S1 en1 r1 w1 => by
      cases x with
      | rod t ks vs =>
        cases t with
        | true => exact False.elim w1
        | false =>
          obtain ⟨a, u, ws, rfl, ⟨o, q⟩, d, rr⟩ := vr_rod' r1
          rcases d with ⟨_, kk, rfl, hk, hl⟩ | ⟨z, _⟩
          · exact ⟨a, o, _, rfl, q, w1 m1 H1 _ Post.refl S1 (jv_vals q rr hl)⟩
          · cases z
      | _ => exact False.elim w1
/-! ### targets -/
/-- a target by values; c: what it may store -/
def tGq (K : PySem.W.Frag) (c : L2.St → L2.St → Prop) (f : MV → Env → M Env) : TG := fun v σ H Q => ∃ m h ρ x, Sim K m h H ∧ EnvR K m H ρ σ ∧ VR K m H x v ∧ WP K (rE K) (f x ρ h) m H (fun σ' H' => c σ σ' → Q σ' H')
def tGqs (K : PySem.W.Frag) (c : L2.St → L2.St → Prop) (f : List MV → Env → M Env) : TGs := fun vs σ H Q => ∃ m h ρ xs, Sim K m h H ∧ EnvR K m H ρ σ ∧ VRs K m H xs vs ∧ WP K (rE K) (f xs ρ h) m H (fun σ' H' => c σ σ' → Q σ' H')
structure CRel (c : L2.St → L2.St → Prop) : Prop where
  refl : ∀ σ, c σ σ
  trans : ∀ a b d, c a b → c b d → c a d
theorem cr_all : CRel fun _ _ => True := ⟨fun _ => trivial, fun _ _ _ _ _ => trivial⟩
theorem cr_wipe (own : List Nat) : CRel fun σ σ' => L2.wipe σ' own = L2.wipe σ own := ⟨fun _ => rfl, fun _ _ _ h k => k.trans h⟩
theorem lg_nm {c : L2.St → L2.St → Prop} {i : Nat} {x : Str} (hN : X.N.Nodup) (hi : X.N[i]? = some x) (hx : Loc X.env.scope x) (hf : X.fn x = true ∨ X.env.scope.names.lookup x = some .local) (hc : ∀ σ v, c σ (σ.set i v)) : PG X (.Name x pos) (tGq X.K c fun v ρ => .ret (ρ.set i (some v))) :=
  pg_imp (pg_name hN hi hx hf) fun v σ H Q ⟨m, h, ρ, y, S, en, r, w⟩ => WP.ret (a := ρ.set i (some y)) w S (en.set r) (hc _ _)
theorem lgs_nil {c : L2.St → L2.St → Prop} (k : CRel c) {f : List MV → Env → M Env} (h0 : ∀ ρ, f [] ρ = .ret ρ) (h1 : ∀ x xs ρ h, f (x :: xs) ρ h = .stuck) : PGs X [] (tGqs X.K c f) :=
  pgs_imp pgs_nil fun vs σ H Q ⟨m, h, ρ, ys, S, en, r, w⟩ => by
    cases ys with
    | nil =>
      rw [h0] at w
      exact ⟨vrs_nil' r, w.ret S en (k.refl _)⟩
    | cons y ys =>
      rw [h1] at w
      exact False.elim w
theorem each_cons {e : Expr} {es : List Expr} {env : PySem.Env} (h : noStar e = true) : assignEach (e :: es) env = (false, assign e env) :: assignEach es env := by
  cases e <;> first | rfl | cases h
theorem each_len {env : PySem.Env} : ∀ {es : List Expr}, es.all noStar = true → (assignEach es env).length = es.length ∧ (assignEach es env).findIdx? (·.1) = none
  | [], _ => ⟨rfl, rfl⟩
  | e :: es, h => by
    rw [List.all_cons, Bool.and_eq_true_iff] at h
    have ih := each_len (env := env) h.2
    rw [each_cons h.1]
    refine ⟨by rw [List.length_cons, List.length_cons, ih.1], ?_⟩
    rw [List.findIdx?_cons, ih.2]
    rfl
theorem lgs_cons {c : L2.St → L2.St → Prop} (k : CRel c) {g : MV → Env → M Env} {f f' : List MV → Env → M Env} (hs : noStar ea = true) (h0 : ∀ ρ h, f' [] ρ h = .stuck) (h1 : ∀ x xs ρ, f' (x :: xs) ρ = (g x ρ).bnd fun ρ' => f xs ρ') (ha : PG X ea (tGq X.K c g)) (hr : PGs X es (tGqs X.K c f)) : PGs X (ea :: es) (tGqs X.K c f') :=
  pgs_imp (pgs_cons ha hr (by rw [each_cons hs]; rfl)) fun vs σ H Q ⟨m, h, ρ, ys, S, en, r, w⟩ => by
    cases ys with
    | nil =>
      rw [h0] at w
      exact False.elim w
    | cons y ys =>
      obtain ⟨v, vr, rfl, r1, r2⟩ := vrs_cons' r
      rw [h1] at w
      refine ⟨v, vr, rfl, m, h, ρ, y, S, en, r1, (WP.bind (Rx := rE X.K) w).mono fun σ1 H1 ⟨m1, h1, ρ1, P1, S1, en1, w1⟩ c1 => ?_⟩
      exact ⟨m1, h1, ρ1, ys, S1, en1, r2.mono P1, w1.mono fun σ2 H2 q c2 => q (k.trans _ _ _ c1 c2)⟩
theorem lg_tup {c : L2.St → L2.St → Prop} {j : Nat} {f : List MV → Env → M Env} (hc : X.calm = true) (hss : es.all noStar = true) (hlen : ∀ xs ρ h ρ' h', f xs ρ h = .ok ρ' h' → xs.length = es.length) (hl : PGs X es (tGqs X.K c f)) : PG X (.Tuple es j pos) (tGq X.K c fun v ρ => match v with
    | .tup xs => f xs ρ
    | _ => .stk) :=
  pg_imp (pg_tup (n := es.length) hc hl (each_len hss).1 (each_len hss).2) fun v σ H Q ⟨m, h, ρ, y, S, en, r, w⟩ => by
    cases y with
    | tup xs =>
      obtain ⟨a, vs, rfl, q, r2⟩ := vr_tup' r
      replace w : WP X.K (rE X.K) (f xs ρ h) m H (fun σ' H' => c σ σ' → Q σ' H') := w
      refine ⟨a, vs, rfl, q, ?_, m, h, ρ, xs, S, en, r2, w⟩
      cases e : f xs ρ h with
      | ok ρ' h' => rw [← r2.length]; exact hlen _ _ _ _ _ e
      | exc _ _ => rw [e] at w; exact False.elim w
      | stuck => rw [e] at w; exact False.elim w
    | _ => exact False.elim w
theorem lg_sub {c : L2.St → L2.St → Prop} (hu : X.A.units + 65 < cLine) (k : CRel c) (hn : noSlice eb = true) (ha : PE X ea (tE X.K fa)) (hb : PE X eb (tE X.K fb)) : PG X (.Subscript ea eb pos) (tGq X.K c fun v ρ => (fa ρ).bnd fun x => (fb ρ).bnd fun y => (setV x y v).bnd fun _ => .ret ρ) :=
  pg_imp (pg_sub ha hb (set_M (by omega)) (fun v => by cases eb <;> first | rfl | cases hn)) fun v σ H Q ⟨m, h, ρ, z, S, en, r, w⟩ =>
    liftG (R := rV X.K) (R' := rE X.K) (g := fun x ρ => (fb ρ).bnd fun y => (setV x y z).bnd fun _ => .ret ρ) S en w fun m1 h1 x u H1 P1 S1 en1 r1 w1 =>
      liftG (R := rV X.K) (R' := rE X.K) (g := fun y ρ => (setV x y z).bnd fun _ => .ret ρ) S1 en1 w1 fun m2 h2 y u2 H2 P2 S2 en2 r2 w2 =>
        ⟨m2, h2, x, y, z, S2, r1.mono P2, r2, (r.mono P1).mono P2, (WP.bind (Rx := rId) w2).mono fun b H3 ⟨m3, h3, b', P3, S3, e, w3⟩ => w3.ret S3 (en2.mono P3) (k.refl _)⟩
theorem lg_all {f : MV → Env → M Env} (h : PG X ea (tGq X.K (fun _ _ => True) f)) : PG X ea (tG X.K f) := pg_imp h fun v σ H Q ⟨m, h, ρ, y, S, en, r, w⟩ => ⟨m, h, ρ, y, S, en, r, w.mono fun _ _ q _ => q⟩
end
end MP
/-! MP: comprehensions, statements. -/
namespace MP
open PySem PySem.Spec PyProof.Rows L2
section
variable {X : Cx} {ea eb ec tg : Expr} {es : List Expr} {pos p : Pos} {fa fb fc : Env → M MV} {ta tb tc : Env → M Bool} {fl fk : Env → M (List MV)}
theorem lts_nil : PTs X [] (tT X.K fun _ => .ret true) := ⟨fun pins s σ H Q I ⟨m, h, ρ, S, en, w⟩ => pts_nil.run pins s σ H Q I (w.ret S rfl)⟩
theorem lts_one (h : PT X ea (tT X.K ta)) : PTs X [ea] (tT X.K ta) := pts_one h
/-- the blocks of a comprehension -/
def BX (X : Cx) (scope : Scope) (P : Cx → Prop) : Prop := ∀ (s : Shared) (H : Hp) (C : Addr) (cl : List (Str × Addr)) (fp : List Addr), P (X.blk s H scope (compEnvC scope cl C X.env) fp)
theorem l_lc {ifs : List Expr} {scope : Scope} {own : List (Str × Nat)} {W : Nat} {fi : Env → M Itv} {fg : MV → Env → M Env} {ft : Env → M Bool} (hc : X.calm = true) (hN : X.N.Nodup) (hset : noSet eb = true) (hi : PI X tg eb (tI X.K fi)) (ok : BlkOk X.N X.env.scope scope own)
    (hg : BX X scope fun Y => PG Y tg (tGq X.K (fun σ σ' => L2.wipe σ' (own.map (·.2)) = L2.wipe σ (own.map (·.2))) fg)) (ht : BX X scope fun Y => PTs Y ifs (tT X.K ft)) (he : BX X scope fun Y => PE Y ea (tE X.K fe)) :
    PE X (.ListComp ea [⟨tg, eb, ifs, 0⟩] scope pos) (tE X.K fun ρ => (fi ρ).bnd fun J => (lcLoop (lcStep fg ft fe (wipeE ρ (own.map (·.2)))) J W 0 []).bnd fun ys => M.alloc (.lst ys)) :=
  pe_imp (pe_lc hc hN hi ok hg ht he (no_folded hset)) fun σ H Q w => lc_lift w
theorem lift_asg {ft' : MV → Env → M Env} {te : TE} {σ : L2.St} {H : Hp} {D : Ends} (hte : ∀ σ H Q, tE X.K fa σ H Q → te σ H Q) (w : tSt X.K (fun ρ => (fa ρ).bnd fun x => (ft' x ρ).bnd fun ρ' => .ret (ρ', .nx)) D σ H) : tAsg te (tG X.K ft') D σ H := by
  obtain ⟨m, h, ρ, S, en, w⟩ := w
  refine hte _ _ _ (liftS (R := rV X.K) (g := fun x ρ => (ft' x ρ).bnd fun ρ' => .ret (ρ', .nx)) S en w fun m1 h1 x v H1 P1 S1 en1 r1 w1 => ?_)
  exact ⟨m1, h1, ρ, x, S1, en1, r1, (WS.bind (Rx := rE X.K) w1).mono fun σ2 H2 ⟨m2, h2, ρ2, P2, S2, en2, w2⟩ => WS.ret (p := (ρ2, Fl.nx)) w2 S2 en2⟩
theorem lift_set {i : Nat} {te : TE} {σ : L2.St} {H : Hp} {D : Ends} (hte : ∀ σ H Q, tE X.K fa σ H Q → te σ H Q) (w : tSt X.K (fun ρ => (fa ρ).bnd fun x => (M.ret (ρ.set i (some x))).bnd fun ρ' => .ret (ρ', .nx)) D σ H) : tAsg te (gName i) D σ H := by
  obtain ⟨m, h, ρ, S, en, w⟩ := w
  refine hte _ _ _ (liftS (R := rV X.K) (g := fun x ρ => (M.ret (ρ.set i (some x))).bnd fun ρ' => .ret (ρ', .nx)) S en w fun m1 h1 x v H1 P1 S1 en1 r1 w1 => ?_)
  exact WS.ret (p := (ρ.set i (some x), Fl.nx)) w1 S1 (en1.set r1)
theorem s_set {i : Nat} {x : Str} {q : Pos} (hN : X.N.Nodup) (hi : X.N[i]? = some x) (hx : Loc X.env.scope x) (hf : X.fn x = true ∨ X.env.scope.names.lookup x = some .local) (hs : swapsWith ea (some (.Name x q)) pos.line X.env = pure false) (ha : PE X ea (tE X.K fa)) :
    PS X (.Assign [.Name x q] ea pos) (tSt X.K fun ρ => (fa ρ).bnd fun x => (M.ret (ρ.set i (some x))).bnd fun ρ' => .ret (ρ', .nx)) :=
  ps_imp (ps_set hN hi hx ha hs hf) fun D σ H w => lift_set (X := X) (fun _ _ _ z => z) w
theorem s_setLc {i : Nat} {y : Str} {py : Pos} {spos : Pos} {ifs : List Expr} {scope : Scope} {own : List (Str × Nat)} {W : Nat} {fi : Env → M Itv} {fg : MV → Env → M Env} {ft : Env → M Bool} {fe : Env → M MV} (hc : X.calm = true) (hN : X.N.Nodup) (hy : X.N[i]? = some y) (hyl : X.env.scope.names.lookup y = some .local)
    (hsw : swapsWith (.ListComp ea [⟨tg, eb, ifs, 0⟩] scope pos) (some (.Name y py)) spos.line X.env = pure true) (hset : noSet eb = true) (hi : PI X tg eb (tI X.K fi)) (ok : BlkOk X.N X.env.scope scope own)
    (hg : BX X scope fun Y => PG Y tg (tGq X.K (fun σ σ' => L2.wipe σ' (own.map (·.2)) = L2.wipe σ (own.map (·.2))) fg)) (ht : BX X scope fun Y => PTs Y ifs (tT X.K ft)) (he : BX X scope fun Y => PE Y ea (tE X.K fe)) :
    PS X (.Assign [.Name y py] (.ListComp ea [⟨tg, eb, ifs, 0⟩] scope pos) spos) (tSt X.K fun ρ => ((fi ρ).bnd fun J => (lcLoop (lcStep fg ft fe (wipeE ρ (own.map (·.2)))) J W 0 []).bnd fun ys => M.alloc (.lst ys)).bnd fun x => (M.ret (ρ.set i (some x))).bnd fun ρ' => .ret (ρ', .nx)) :=
  ps_imp (ps_setLc hc hN hy hyl hsw hi ok hg ht he (no_folded hset)) fun D σ H w => lift_set (X := X) (fun _ _ _ z => lc_lift z) w
def notTup : Expr → Bool
  | .Tuple _ _ _ | .List _ _ => false
  | _ => true
/-- no two of its stores change places -/
theorem no_stores {t e : Expr} {env : PySem.Env} (h : notTup t = true ∨ notTup e = true) : swappedStores [t] e env = pure none := by
  rcases h with h | h
  · cases t <;> first | rfl | cases h
  · cases e <;> first | (cases t <;> rfl) | cases h
theorem s_asg {ft' : MV → Env → M Env} (hn : noComp ea = true) (hs : noStar tg = true) (hw : notTup tg = true ∨ notTup ea = true) (ha : PE X ea (tE X.K fa)) (hg : PG X tg (tG X.K ft')) :
    PS X (.Assign [tg] ea pos) (tSt X.K fun ρ => (fa ρ).bnd fun x => (ft' x ρ).bnd fun ρ' => .ret (ρ', .nx)) :=
  ps_imp (ps_asg ha hg (no_swaps hn) (no_stores hw) (by rw [each_cons hs]; rfl)) fun D σ H w => lift_asg (X := X) (fun _ _ _ z => z) w
theorem s_par {i j : Nat} {x y : Str} {px py pt : Pos} {kt k2 : Nat} {pt2 : Pos} (hc : X.calm = true) (hN : X.N.Nodup) (hi : X.N[i]? = some x) (hj : X.N[j]? = some y) (hij : i ≠ j) (hx : X.env.scope.names.lookup x = some .local) (hy : X.env.scope.names.lookup y = some .local)
    (hs : noStar ea = true) (hs2 : noStar eb = true) (ha : PE X ea (tE X.K fa)) (hb : PE X eb (tE X.K fb))
    (hw : swappedStores [.Tuple [.Name x px, .Name y py] kt pt] (.Tuple [ea, eb] k2 pt2) X.env = pure (some [x, y])) :
    PS X (.Assign [.Tuple [.Name x px, .Name y py] kt pt] (.Tuple [ea, eb] k2 pt2) pos) (tSt X.K fun ρ => (fa ρ).bnd fun x => (fb ρ).bnd fun y => .ret ((ρ.set i (some x)).set j (some y), .nx)) :=
  ps_imp (ps_par hc hN hi hj hij hx hy (pa_cons ha (pa_cons hb pa_nil (star_cons hs2)) (star_cons hs)) hw) fun D σ H ⟨m, h, ρ, S, en, w⟩ =>
    liftS (R := rV X.K) (g := fun x ρ => (fb ρ).bnd fun y => .ret ((ρ.set i (some x)).set j (some y), .nx)) S en w fun m1 h1 x v H1 P1 S1 en1 r1 w1 =>
      liftS (R := rV X.K) (g := fun y ρ => .ret ((ρ.set i (some x)).set j (some y), .nx)) S1 en1 w1 fun m2 h2 y u H2 P2 S2 en2 r2 w2 =>
        ⟨v, u, rfl, WS.ret (p := ((ρ.set i (some x)).set j (some y), Fl.nx)) w2 S2 ((en2.set (r1.mono P2)).set r2)⟩
theorem s_ex (hn : noComp ea = true) (ha : PE X ea (tE X.K fa)) : PS X (.Expr ea pos) (tSt X.K fun ρ => (fa ρ).bnd fun _ => .ret (ρ, .nx)) :=
  ps_imp (ps_expr ha (no_swaps hn)) fun D σ H ⟨m, h, ρ, S, en, w⟩ =>
    liftS (R := rV X.K) (g := fun _ ρ => .ret (ρ, .nx)) S en w fun m1 h1 x v H1 P1 S1 en1 r1 w1 => WS.ret (p := (ρ, Fl.nx)) w1 S1 en1
theorem s_ret (ha : PE X ea (tE X.K fa)) : PS X (.Return (some ea) pos) (tSt X.K fun ρ => (fa ρ).bnd fun x => .ret (ρ, .rt x)) :=
  ps_imp (ps_ret ha) fun D σ H ⟨m, h, ρ, S, en, w⟩ =>
    liftS (R := rV X.K) (g := fun x ρ => .ret (ρ, .rt x)) S en w fun m1 h1 x v H1 P1 S1 en1 r1 w1 => WS.ret (p := (ρ, Fl.rt x)) w1 S1 en1 v r1
theorem s_retN : PS X (.Return none pos) (tSt X.K fun ρ => .ret (ρ, .rt .non)) :=
  ps_imp ps_retN fun D σ H ⟨m, h, ρ, S, en, w⟩ => WS.ret (p := (ρ, Fl.rt .non)) w S en _ vr_non
theorem s_pas : PS X (.Pass pos) (tSt X.K fun ρ => .ret (ρ, .nx)) := ps_imp ps_pass fun D σ H ⟨m, h, ρ, S, en, w⟩ => WS.ret (p := (ρ, Fl.nx)) w S en
theorem s_doc {x : Str} {j : Nat} : PS X (.Expr (.Constant (.str x) j p) pos) (tSt X.K fun ρ => .ret (ρ, .nx)) := ps_imp ps_doc fun D σ H ⟨m, h, ρ, S, en, w⟩ => WS.ret (p := (ρ, Fl.nx)) w S en
theorem s_brk : PS X (.Break pos) (tSt X.K fun ρ => .ret (ρ, .bk)) := ps_imp ps_break fun D σ H ⟨m, h, ρ, S, en, w⟩ => WS.ret (p := (ρ, Fl.bk)) w S en
theorem s_cnt : PS X (.Continue pos) (tSt X.K fun ρ => .ret (ρ, .ct)) := ps_imp ps_continue fun D σ H ⟨m, h, ρ, S, en, w⟩ => WS.ret (p := (ρ, Fl.ct)) w S en
theorem s_if {A B : List Stmt} {ga gb : Env → M (Env × Fl)} (hc : PT X ec (tT X.K tc)) (ha : PSs X A (tSt X.K ga)) (hb : PSs X B (tSt X.K gb)) : PS X (.If ec A B pos) (tSt X.K fun ρ => (tc ρ).bnd fun k => if k then ga ρ else gb ρ) :=
  ps_imp (ps_if hc ha hb) fun D σ H ⟨m, h, ρ, S, en, w⟩ =>
    liftS (R := rId) (g := fun k ρ => if k then ga ρ else gb ρ) S en w fun m1 h1 k v H1 P1 S1 en1 r1 w1 => by
      cases r1
      cases k with
      | true => rw [if_pos rfl]; exact ⟨m1, h1, ρ, S1, en1, w1⟩
      | false => rw [if_neg Bool.false_ne_true]; exact ⟨m1, h1, ρ, S1, en1, w1⟩
theorem s_for {A : List Stmt} {W : Nat} {fi : Env → M Itv} {fg : MV → Env → M Env} {ga : Env → M (Env × Fl)} (hp : PassesOwn (model X.prog X.w) X.A X.env X.xe) (hc : X.calm = true) (hset : noSet ea = true) (hi : PI X tg ea (tI X.K fi)) (hg : PG X tg (tG X.K fg)) (hb : PSs X A (tSt X.K ga)) :
    PS X (.For tg ea A [] pos) (tSt X.K fun ρ => (fi ρ).bnd fun J => forLoop fg ga J W 0 ρ) :=
  ps_imp (ps_for hp hc hi hg hb (no_folded hset)) fun D σ H w => for_lift w
theorem s_whl {A : List Stmt} {W : Nat} {ga : Env → M (Env × Fl)} (hp : PassesOwn (model X.prog X.w) X.A X.env X.xe) (hc : PT X ec (tT X.K tc)) (hb : PSs X A (tSt X.K ga)) : PS X (.While ec A [] pos) (tSt X.K fun ρ => whlLoop tc ga W ρ) :=
  ps_imp (ps_while hp hc hb) fun D σ H w => whl_lift w
theorem ss_nil : PSs X [] (tSt X.K fun ρ => .ret (ρ, .nx)) := pss_imp pss_nil fun D σ H ⟨m, h, ρ, S, en, w⟩ => WS.ret (p := (ρ, Fl.nx)) w S en
theorem ss_cons {st : Stmt} {A : List Stmt} {ga gb : Env → M (Env × Fl)} (h1 : PS X st (tSt X.K ga)) (h2 : PSs X A (tSt X.K gb)) : PSs X (st :: A) (tSt X.K fun ρ => (ga ρ).bnd fun p => match p.2 with
    | .nx => gb p.1
    | f => .ret (p.1, f)) :=
  pss_imp (pss_cons h1 h2) fun D σ H ⟨m, h, ρ, S, en, w⟩ => ⟨m, h, ρ, S, en, WS.seq w fun q m1 h1 H1 σ1 P1 S1 en1 w1 => by
    obtain ⟨ρ1, f⟩ := q
    cases f with
    | nx => exact ⟨m1, h1, ρ1, S1, en1, w1⟩
    | rt v => exact WS.ret (p := (ρ1, Fl.rt v)) w1 S1 en1
    | bk => exact WS.ret (p := (ρ1, Fl.bk)) w1 S1 en1
    | ct => exact WS.ret (p := (ρ1, Fl.ct)) w1 S1 en1⟩
end
end MP
/-! x != y by an own __eq__ over the hand layer. -/
namespace PySem.W
open PySem PySem.Spec PySem.Calls PyProof.Rows
theorem slot_obj_ne : Slot "object" "__ne__" "object.__ne__" :=
  .of (owner := "object") (n := "__ne__") (by rw [typeLookup_type, builtinLookup_eq_fast]; kernel_rfl) (by decide +kernel) (by decide +kernel) (by decide +kernel) (.inl (by decide +kernel)) (by rw [isSubtype_type]; kernel_rfl)
section
variable {prog : Program} {w : World} {A : Around} {E : Value → Shared → Prop} {s : Shared} {K : Frag} {x C f : Addr} {ox : Obj} {od : Option Obj} {name : Str} {b tb : Value}
theorem ifBound_slot {M : Model} {i : String} {args : List Value} {Q : Option Value → Shared → Prop} (X : K.In s.heap) (I : InstAt s.heap x ox C od) (hs : findIn K (.ref C) name = some (some (.builtin i))) (hb : ∀ self : Value, bindSpecial (.builtin i) self = pure (.builtin i, [self]))
    (h : wpAny M A (call (.builtin i) (.ref x :: args)) (fun v => Q (some v)) E s) : wpAny M A (callSpecialIfBound? (.ref x) name args) Q E s := by
  simp only [callSpecialIfBound?, bindSpecialIfBound?]
  refine wpAny_holding (wpAny_bind (wpAny_bind (wpAny_bind (I.type.here ((looks_findIn X hs).here ?_)))))
  refine wpAny_bind (wpAny_askSetting (wpAny_ite ?_))
  have fin : wpAny M A (call (.builtin i) ([.ref x] ++ args) >>= fun v => pure (some v)) Q E s := wpAny_bind (wpAny_mono h (fun v s' h' => wpAny_pure h') fun _ _ h' => h')
  split
  · exact wpAny_bind ((Looks.of_pure (hb _)).here (wpAny_pure (by exact fin)))
  · exact wpAny_tryCatch (wpAny_bind ((Looks.of_pure (hb _)).here (wpAny_pure (by exact fin))))
/-- object.__ne__ asks the own __eq__ -/
theorem objNe_own {Q : Value → Shared → Prop} (hu : A.units < cLine) (X : K.In s.heap) (I : InstAt s.heap x ox C od) (hs : findIn K (.ref C) "__eq__" = some (some (.ref f))) (hf : isFn K (.ref f) = true)
    (h : wpAny (model prog w) A (call (.ref f) [.ref x, b]) (fun v s' => ∃ k, v = .bool k ∧ Q (.bool (!k)) s') E s) :
    wpAny (model prog w) A (Builtin.«object.__ne__» ⟨[.ref x, b], []⟩) (fun fin s' => ∃ v, fin = .done (.ret v) ∧ Q v s') E s := by
  unfold Builtin.«object.__ne__»
  refine wpAny_bind (wpAny_of_eq (a := ((Value.ref x : Value), [b])) (by first | rfl | (simp only [slotArgs]; rfl)) ?_)
  refine wpAny_bind (wpAny_cRoomFor hu ?_)
  refine wpAny_bind (ifBound_K X I hs hf (wpAny_mono h (fun v s' hv => ?_) fun _ _ e => e))
  obtain ⟨k, rfl, q⟩ := hv
  show wpAny _ _ (truthy (.bool k) >>= _) _ _ s'
  refine wpAny_bind (wpAny_of_eq (a := k) (by first | rfl | (unfold truthy; rfl)) ?_)
  exact wpAny_pure ⟨_, rfl, q⟩
theorem ne_own {Q : Value → Shared → Prop} (hu : A.units + 1 < cLine) (X : K.In s.heap) (I : InstAt s.heap x ox C od) (hb : Looks (model prog w) s.heap (typeOf b) (.ref C))
    (hn : findIn K (.ref C) "__ne__" = some (some (.builtin "object.__ne__"))) (hm : mroIn K C (.type "object") = some true) (hs : findIn K (.ref C) "__eq__" = some (some (.ref f))) (hf : isFn K (.ref f) = true)
    (h : wpAny (model prog w) A.in1 (call (.ref f) [.ref x, b]) (fun v s' => ∃ k, v = .bool k ∧ Q (.bool (!k)) s') E s) : wpAny (model prog w) A (richCompare .NotEq (.ref x) b) Q E s := by
  have sub : Looks (model prog w) s.heap (isInstance (.ref x) (.type "object")) true := I.type.andThen (looks_mroIn X hm)
  have one : wpAny (model prog w) A (tryCompare (.ref x) "__ne__" b) (fun r s' => ∃ k, r = some (.bool k) ∧ Q (.bool k) s') E s := by
    unfold tryCompare
    refine wpAny_bind (ifBound_slot X I hn (fun self => slot_obj_ne.bind self) ?_)
    refine wpAny_call (codeAny_call_builtin slot_obj_ne.plain F.cmpEntry_ne (@check_slot (model prog w) _ _ s "object.__ne__" "object" "__ne__" (.ref x) [b] [] _ F.cmpKind_ne F.cmpSplit_ne sub (F.cmpArgs_ne _ _) ?_))
    refine wpAny_mono (objNe_own (A := A.in1) (Q := fun v s' => ∃ k, v = .bool k ∧ Q (.bool k) s') (Nat.lt_of_le_of_lt (by show A.units + 1 ≤ A.units + 1; exact Nat.le_refl _) hu) X I hs hf (wpAny_mono h (fun v s' ⟨k, e, q⟩ => ⟨k, e, _, rfl, q⟩) fun _ _ e => e)) (fun fin s' ⟨v, e, k, e2, q⟩ => ?_) fun _ _ e => e
    subst e
    subst e2
    exact wpAny_pure ⟨_, rfl, q⟩
  unfold richCompare
  simp only [oneThing_ref]
  refine wpAny_holding (wpAny_bind (wpAny_cRoomFor (Nat.lt_of_succ_lt hu) ?_))
  refine wpAny_bind (I.type.here (wpAny_bind (hb.here ?_)))
  have e0 : ((Value.ref C : Value) != .ref C) = false := by simp
  split
  · rename_i q
    simp at q
  · refine wpAny_bind (wpAny_pure ?_)
    simp only [Bool.false_eq_true, if_false]
    refine wpAny_bind (wpAny_mono one (fun r s' z => ?_) fun _ _ e => e)
    obtain ⟨v, rfl, hq⟩ := z
    exact wpAny_pure hq
end
end PySem.W
/-! MP: values by value, own classes, further statements. -/
namespace MP
open PySem PySem.Spec PyProof.Rows L2 ClX
section
variable {X : Cx} {ea eb ec tg : Expr} {es : List Expr} {pos p q : Pos} {fa fb fc : Env → M MV} {ta tb tc : Env → M Bool} {fl fk : Env → M (List MV)}
theorem l_dctT : PE X (.Dict [] [] pos) (tE X.K fun _ => M.alloc (.dct true [])) := pe_imp pe_dnewT fun σ H Q ⟨m, h, ρ, S, en, w⟩ => wp_dctT w S
theorem l_val (ha : PE X ea (tE X.K fa)) : PE X ea (tE X.K fun ρ => bvV (fa ρ)) := by
  refine ⟨fun pins s σ H Q I ⟨m, h, ρ, S, en, w⟩ => ?_⟩
  obtain ⟨v, h2, e⟩ := val_ok w
  refine thn (ha.run pins s σ H (fun x H1 => ∃ m1, Post X.K m H m1 H1 ∧ Sim X.K m1 h2 H1 ∧ VR X.K m1 H1 v x) I ⟨m, h, ρ, S, en, ?_⟩) fun u s1 ⟨x, H1, I1, rx, m1, P, S1, r⟩ => ?_
  · rw [e]
    exact fun m1 H1 x P S1 r => ⟨m1, P, S1, r⟩
  · obtain ⟨ps, nd, lk, fin⟩ := wp_val S w e P S1 r
    obtain ⟨H2, I2, L⟩ := lock_all ps nd I1 lk
    exact ⟨x, H2, I2, rx, fin H2 L⟩
theorem lookup_vr {K : PySem.W.Frag} {m : List Addr} {H : Hp} {f : Str} : ∀ {ns : List Str} {vs : List MV} {ws : List V}, ns.length = ws.length → VRs K m H vs ws → (∀ y, (ns.zip vs).lookup f = some y → ∃ w, (ns.zip ws).lookup f = some w ∧ VR K m H y w) ∧ ((ns.zip vs).lookup f = none → (ns.zip ws).lookup f = none)
  | [], vs, ws, _, _ => ⟨(fun y e => by cases e), fun _ => rfl⟩
  | n :: ns, vs, ws, hl, r => by
    cases ws with
    | nil => cases hl
    | cons w ws =>
      cases vs with
      | nil => cases vrs_nil' r
      | cons v vs =>
        obtain ⟨w', t, e, r1, r2⟩ := vrs_cons' r
        cases e
        have ih := lookup_vr (f := f) (by simpa using hl) r2
        show (∀ y, (match f == n with | true => some v | false => (ns.zip vs).lookup f) = some y → ∃ u, (match f == n with | true => some w | false => (ns.zip ws).lookup f) = some u ∧ VR K m H y u) ∧ ((match f == n with | true => some v | false => (ns.zip vs).lookup f) = none → (match f == n with | true => some w | false => (ns.zip ws).lookup f) = none)
        cases f == n with
        | true => exact ⟨fun y e => ⟨w, rfl, by cases e; exact r1⟩, fun e => by cases e⟩
        | false => exact ih
theorem l_fld {c f : Str} (hb : noSuper ea = true) (ci : Cls X.K (He.ga X.K c)) (hn : NoAttr X.K (He.ga X.K c) f) (ha : PE X ea (tE X.K fa)) : PE X (.Attribute ea f pos) (tE X.K fun ρ => (fa ρ).bnd (fldV c f)) :=
  pe_imp (pe_fld ha (no_super hb)) fun σ H Q ⟨m, h, ρ, S, en, w⟩ =>
    liftG (R := rV X.K) (g := fun x _ => fldV c f x) S en w fun m1 h1 x v H1 P1 S1 en1 r1 w1 => by
      cases x with
      | obj d ns vs =>
        obtain ⟨a, dx, ws, rfl, q, hl, nm, rr⟩ := vr_obj' r1
        replace w1 : WP X.K (rV X.K) ((if d = c then M.opt ((ns.zip vs).lookup f) else .stk) h1) m1 H1 Q := w1
        split at w1
        · rename_i e
          subst e
          cases e2 : (ns.zip vs).lookup f with
          | none => rw [e2] at w1; exact False.elim w1
          | some y =>
            rw [e2] at w1
            obtain ⟨u, e3, r3⟩ := (lookup_vr (f := f) hl rr).1 y e2
            exact ⟨a, _, dx, _, u, rfl, q, ci, hn, e3, WP.ret (a := y) w1 S1 r3⟩
        · exact False.elim w1
      | _ => exact False.elim w1
/-- a class' constant -/
structure CcOk (K : PySem.W.Frag) (c f : Str) (v : MV) : Prop where
  ex : ∃ (mc u : Value) (y : V), CRead K (He.ga K c) mc ∧ CVal K (He.ga K c) mc f y u ∧ ∀ m H, VR K m H v y
theorem l_con {c f : Str} {v : MV} (hg : Gl X c) (hd : (c == ("__debug__" : Str)) = false) (hm : X.mg c = some (.ref (He.ga X.K c))) (k : CcOk X.K c f v) : PE X (.Attribute (.Name c q) f pos) (tE X.K fun _ => .ret v) := by
  obtain ⟨mc, u, y, h1, h2, h3⟩ := k.ex
  exact pe_imp (pe_cval (pe_glob (v := V.ref (He.ga X.K c)) hg hm rfl hd) (no_super rfl)) fun σ H Q ⟨m, h, ρ, S, en, w⟩ => ⟨_, mc, y, u, rfl, h1, h2, w.ret S (h3 m H)⟩
/-! ### instances made -/
theorem Post.fresh (S : Sim X.K m h H) {p : Addr} {o : HO} (hp : H p = none) : Post X.K m H m (upd H p o) :=
  ⟨List.prefix_refl _, fun _ _ q => tup_upd q (wr_none hp), fun _ _ q => roL_upd q (wr_none hp), frz_upd (wr_none hp), fun a o _ e => by rw [upd_ne (ne_of_none e hp)]; exact e, fun _ z n => absurd z n⟩
theorem Sim.fresh (S : Sim X.K m h H) {p : Addr} {o : HO} (hp : H p = none) : Sim X.K m h (upd H p o) :=
  ⟨S.len, S.nd, fun l a o e1 e2 => (S.ob l a o e1 e2).mono (Post.fresh S hp) fun u e => by rw [upd_ne (ne_of_none e hp)]; exact e⟩
/-- a class as it is called: g is its __init__ -/
def rMk (K : PySem.W.Frag) (C : Addr) (g : List MV → M MV) : List V → Hp → VK → Prop := fun vs H Q => ∀ x dx, H x = none → H dx = none → dx ≠ x → rF K g (.ref x :: vs) (upd (upd H dx (.own x)) x (.ins C dx [])) (fun v H2 => v = .non ∧ Q (.ref x) H2)
def MkM (X : Cx) (c : Str) (g : List MV → M MV) : Prop := CallR X (.ref (He.ga X.K c)) (rMk X.K (He.ga X.K c) g)
theorem fr_zip {K : PySem.W.Frag} {m : List Addr} {H : Hp} : ∀ {fs : List (Str × MV)} {ks : List (Str × V)}, FR K m H fs ks → ks = (fs.map (·.1)).zip (ks.map (·.2)) ∧ VRs K m H (fs.map (·.2)) (ks.map (·.2)) ∧ (fs.map (·.1)).length = (ks.map (·.2)).length
  | [], ks, r => by
    have r : ks = [] := r
    subst r
    exact ⟨rfl, by show VRs K m H [] []; unfold VRs; rfl, rfl⟩
  | p :: t, ks, r => by
    obtain ⟨v, u, rfl, r1, r2⟩ := r
    obtain ⟨h1, h2, h3⟩ := fr_zip r2
    refine ⟨?_, ?_, ?_⟩
    · show (p.1, v) :: u = (p.1, v) :: (t.map (·.1)).zip (u.map (·.2))
      rw [← h1]
    · show VRs K m H (p.2 :: t.map (·.2)) (v :: u.map (·.2))
      unfold VRs
      exact ⟨_, _, rfl, r1, h2⟩
    · show (t.map (·.1)).length + 1 = (u.map (·.2)).length + 1
      rw [h3]
theorem mk_of {c : Str} {g : List MV → M MV} {m : List Addr} {h : MH} {H : Hp} {xs : List MV} {vs : List V} {Q : VK} (S : Sim X.K m h H) (r : VRs X.K m H xs vs) (w : WP X.K (rV X.K) (mkV c g xs h) m H Q) : rMk X.K (He.ga X.K c) g vs H Q := by
  intro x dx hx hdx hne
  have hx1 : (upd H dx (.own x)) x = none := by rw [upd_ne (Ne.symm hne)]; exact hx
  have S1 : Sim X.K m h (upd H dx (.own x)) := S.fresh hdx
  have P1 : Post X.K m H m (upd H dx (.own x)) := Post.fresh S hdx
  have P2 : Post X.K m (upd H dx (.own x)) (m ++ [x]) (upd (upd H dx (.own x)) x (.ins (He.ga X.K c) dx [])) := Post.alloc hx1
  have S2 : Sim X.K (m ++ [x]) (h ++ [.ins c []]) (upd (upd H dx (.own x)) x (.ins (He.ga X.K c) dx [])) := S1.alloc hx1 ⟨dx, [], upd_same, rfl⟩
  have PP := P1.trans P2
  have hlen : (m ++ [x])[h.length]? = some x := by rw [← S.len]; simp
  refine ⟨m ++ [x], h ++ [.ins c []], .ref h.length :: xs, S2, ?_, ?_⟩
  · unfold VRs
    exact ⟨.ref x, vs, rfl, by unfold VR; exact ⟨x, hlen, rfl⟩, r.mono PP⟩
  unfold mkV at w
  split at w
  · rename_i h2 e
    rw [e]
    intro m3 H3 b P3 S3 rb
    refine ⟨vr_non' rb, ?_⟩
    split at w
    · rename_i hc
      split at w
      · rename_i d fs e2
        split at w
        · rename_i hd
          obtain ⟨h4, h5⟩ := Bool.and_eq_true_iff.mp hd
          have h4 := eq_of_beq h4
          subst h4
          have PQ := PP.trans P3
          have e3 : m3[h.length]? = some x := P3.get hlen
          obtain ⟨dx', ks, e4, fr⟩ := S3.ob _ _ _ e3 e2
          have fr : FR X.K m H3 fs ks := FR.nor PQ.pre h5 fr
          obtain ⟨z1, z2, z3⟩ := fr_zip fr
          refine w m H3 (.ref x) PQ.cut (S.cut PQ S3 hc) ?_
          show VR _ _ _ _ _
          unfold VR
          exact ⟨x, dx', ks.map (·.2), rfl, by rw [← z1]; exact e4, z3, S.notIn hx, z2⟩
        · exact w.elim
      · exact w.elim
    · exact w.elim
  · exact w.elim
theorem l_mk {c : Str} {g : List MV → M MV} (hs : noStar ea = true) (hss : es.all noStar = true) (hg : Gl X c) (hd : (c == ("__debug__" : Str)) = false) (hm : X.mg c = some (.ref (He.ga X.K c))) (hk : PySem.W.keepIn X.K (.ref (He.ga X.K c)) = true) (hc : MkM X c g) (hl : PA X (ea :: es) (tA X.K fl)) :
    PE X (.Call (.Name c p) (ea :: es) [] pos) (tE X.K fun ρ => (fl ρ).bnd (mkV c g)) := by
  refine ⟨fun pins s σ H Q I ⟨m, h, ρ, S, en, w⟩ => ?_⟩
  refine wpAny_Call_Name_kw (ld_glob I hg hm ?_ hd)
  have hl' := hl.run pos pins s σ H _ I (liftG (R := rL X.K) (g := fun xs _ => mkV c g xs) (r := fun vs H1 => rMk X.K (He.ga X.K c) g vs H1 Q) S en w fun m1 h1 xs vs H1 P1 S1 en1 r1 w1 => mk_of S1 r1 w1)
  exact PySem.W.callWith_K (h₀ := X.base) I.ok.mod.kin hk (thn hl' fun us s1 ⟨vs, H1, I1, r1, q1⟩ => ⟨I1.kIn, hc pins s1 σ H1 vs us Q I1 r1 q1⟩) (star_cons hs) (star_any hss)
/-! ### own classes -/
def tyL : List String := ["NoneType", "bool", "int", "str", "list", "tuple", "dict"]
/-- what is known of an own class -/
structure ClI (K : PySem.W.Frag) (c : Str) : Prop where
  cls : Cls K (He.ga K c)
  ak : PySem.W.findIn K (.ref (He.ga K c)) "__class__" = some (some (.builtin "object.__class__"))
  hn : PySem.W.specialIn K (.builtin "object.__class__") "__get__" = some (some (.builtin "getset_descriptor.__get__"))
  tk : PySem.W.takesIn K (.builtin "object.__class__") = some true
  mo : PySem.W.mroIn K (He.ga K c) (.type "object") = some true
  kit : ∀ n ∈ tyL, PySem.W.kitOne K (.type n) (.ref (He.ga K c)) = some false
theorem iso_of {c : Str} {m : List Addr} {h : MH} {H : Hp} {x : MV} {v : V} {b : Bool} {h' : MH} (ci : ClI X.K c) (S : Sim X.K m h H) (r : VR X.K m H x v) (e : isoV c x h = .ok b h') : h' = h ∧ ∃ t, TyX X.K H v t ∧ PySem.W.kitOne X.K t (.ref (He.ga X.K c)) = some b := by
  have ty : ∀ n, n ∈ tyL → TyX X.K H v (.type n) → b = false → ∃ t, TyX X.K H v t ∧ PySem.W.kitOne X.K t (.ref (He.ga X.K c)) = some b := fun n hn t e => ⟨_, t, by rw [e]; exact ci.kit n hn⟩
  cases x with
  | non => rw [vr_non' r] at ty ⊢; cases e; exact ⟨rfl, ty _ (by decide) (.base .non) rfl⟩
  | bl k => rw [vr_bl' r] at ty ⊢; cases e; exact ⟨rfl, ty _ (by decide) (.base (.bl k)) rfl⟩
  | int k => rw [vr_int' r] at ty ⊢; cases e; exact ⟨rfl, ty _ (by decide) (.base (.int k)) rfl⟩
  | str k => rw [vr_str' r] at ty ⊢; cases e; exact ⟨rfl, ty _ (by decide) (.base (.str k)) rfl⟩
  | tup k =>
    obtain ⟨a, vs, rfl, q, _⟩ := vr_tupH r
    cases e
    exact ⟨rfl, ty _ (by decide) (.base (.tup q)) rfl⟩
  | ro k =>
    obtain ⟨a, vs, rfl, q, _⟩ := vr_ro' r
    cases e
    have t : TyX X.K H (.ref a) (.type "list") := by
      rcases q with ⟨o, q⟩ | ⟨its, n, q, _⟩
      · exact .base (.frz q)
      · exact .kList q rfl
    exact ⟨rfl, ty _ (by decide) t rfl⟩
  | rod w ks ws =>
    cases w with
    | true => cases e
    | false =>
      obtain ⟨a, u, ps, rfl, ⟨o, q⟩, d, _⟩ := vr_rod' r
      rcases d with ⟨_, kk, rfl, _, _⟩ | ⟨z, _⟩
      · cases e
        exact ⟨rfl, ty _ (by decide) (.fDict q) rfl⟩
      · cases z
  | obj d ns vs =>
    obtain ⟨a, dx, ws, rfl, q, hl, nm, rr⟩ := vr_obj' r
    replace e : (if d = c then Res.ok true h else .stuck) = .ok b h' := e
    split at e
    · rename_i e0
      subst e0
      cases e
      refine ⟨rfl, _, .base (.ins q ci.cls ci.ak ci.hn ci.tk ci.mo), ?_⟩
      unfold PySem.W.kitOne
      rw [if_pos (by simp)]
    · cases e
  | ref l =>
    obtain ⟨a, ha, rfl⟩ := vr_ref' r
    unfold isoV at e
    dsimp only at e
    split at e
    · rename_i xs e1
      obtain ⟨vs, q, _⟩ := S.lst ha e1
      cases e
      exact ⟨rfl, ty _ (by decide) (.base (.lst q)) rfl⟩
    · rename_i xs e1
      obtain ⟨vs, q, _⟩ := S.dctK ha e1
      cases e
      exact ⟨rfl, ty _ (by decide) (.base (.dK q)) rfl⟩
    · cases e
def rIo (K : PySem.W.Frag) (c : Str) : List V → Hp → VK → Prop := fun vs H Q => ∃ m h x v, vs = [v, .ref (He.ga K c)] ∧ Sim K m h H ∧ VR K m H x v ∧ WP K rId (isoV c x h) m H (fun b H' => Q (.bl b) H')
theorem call_io {c : Str} (ci : ClI X.K c) : CallR X (.builtin "isinstance") (rIo X.K c) := by
  intro pins s σ H xs us Q I r ⟨m, h, x, v, e, S, rx, w⟩
  cases ee : isoV c x h with
  | ok b h' =>
    rw [ee] at w
    obtain ⟨e2, t, ty, k⟩ := iso_of ci S rx ee
    subst e2
    exact call_isi pins s σ H xs us Q I r ⟨v, _, _, _, b, e, .own _, ty, k, w m H b Post.refl S rfl⟩
  | exc _ _ => rw [ee] at w; exact False.elim w
  | stuck => rw [ee] at w; exact False.elim w
theorem l_iso {c : Str} (ci : ClI X.K c) (hs : noStar ea = true) (hi : Gl X isiN) (hj : X.mg isiN = none) (hg : Gl X c) (hd : (c == ("__debug__" : Str)) = false) (hm : X.mg c = some (.ref (He.ga X.K c))) (ha : PE X ea (tE X.K fa)) :
    PE X (.Call (.Name isiN p) [ea, .Name c q] [] pos) (tE X.K fun ρ => (fa ρ).bnd fun x => (isoV c x).bnd fun k => .ret (MV.bl k)) :=
  pe_imp (pe_callB (call_io ci) hi hj boot_isinstance (pa_cons ha (pa_cons (pe_glob (v := V.ref (He.ga X.K c)) hg hm rfl hd) pa_nil (by rfl)) (star_cons hs)) (by decide +kernel) (by decide +kernel) (star_cons hs) (by rfl)) fun σ H Q ⟨m, h, ρ, S, en, w⟩ =>
    liftG (R := rV X.K) (g := fun x _ => (isoV c x).bnd fun k => .ret (MV.bl k)) S en w fun m1 h1 x v H1 P1 S1 en1 r1 w1 =>
      ⟨m1, h1, x, v, rfl, S1, r1, (WP.bind (Rx := rId) w1).mono fun b H2 ⟨m2, h2, b', P2, S2, e, w2⟩ => by
        cases e
        exact w2.ret S2 (vr_bl _)⟩
end
end MP
/-! MP: == by an own __eq__, further statements. -/
namespace MP
open PySem PySem.Spec PyProof.Rows L2
section
variable {X : Cx} {ea eb ec tg : Expr} {es : List Expr} {pos p q : Pos} {fa fb fc : Env → M MV} {ta tb tc : Env → M Bool} {fl fk : Env → M (List MV)}
theorem wp_eqo {K : PySem.W.Frag} {c : Str} {g : List MV → M MV} {m : List Addr} {h : MH} {H : Hp} {a b : MV} {Q : VK} (w : WP K rId (eqoV c g a b h) m H (fun k H' => Q (.bl k) H')) :
    (∃ ns vs ms ws, a = .obj c ns vs ∧ b = .obj c ms ws) ∧ WP K (rV K) (g [a, b] h) m H (fun v H' => ∃ k, v = .bl k ∧ Q (.bl k) H') := by
  unfold eqoV at w
  split at w
  · rename_i d ns vs e ms ws
    split at w
    · rename_i hd
      obtain ⟨h1, h2⟩ := hd
      subst h1
      subst h2
      refine ⟨⟨_, _, _, _, rfl, rfl⟩, (WP.bind (Rx := rV K) w).mono fun v H1 ⟨m1, h1, z, P1, S1, r1, w1⟩ => ?_⟩
      cases z with
      | bl k => exact ⟨k, vr_bl' r1, WP.ret (R := rId) (a := k) w1 S1 rfl⟩
      | _ => exact w1.elim
    · exact w.elim
  · exact w.elim
theorem op_eo {c : Str} {f : Addr} {g : List MV → M MV} (hu : X.A.units < cLine) (he : PySem.W.findIn X.K (.ref (He.ga X.K c)) "__eq__" = some (some (.ref f))) (hf : PySem.W.isFn X.K (.ref f) = true) (hc : CallM X f g) : OpR X (compareOp .Eq) (rC X.K (eqoV c g)) := by
  intro pins s σ H x y v u Q I rx ry ⟨m, h, a, b, S, ra, rb, w⟩
  obtain ⟨⟨ns, vs, ms, ws, rfl, rfl⟩, w⟩ := wp_eqo w
  obtain ⟨A1, dx, xs, rfl, q, hl, nm, rr⟩ := vr_obj' ra
  obtain ⟨B1, dy, ys, rfl, q', hl', nm', rr'⟩ := vr_obj' rb
  obtain rfl : v = Value.ref A1 := rx
  obtain rfl : u = Value.ref B1 := ry
  obtain ⟨mA, J, _⟩ := ins_get I.hok q
  obtain ⟨mB, J', _⟩ := ins_get I.hok q'
  obtain ⟨od, J, _⟩ := J.look
  obtain ⟨od', J', _⟩ := J'.look
  obtain ⟨mm, hF⟩ := I.fr
  refine PySem.W.cmp_K (op := .Eq) (tb := .ref (He.ga X.K c)) hu hF I.ok.mod.kin J J'.type (by simp [PySem.W.notFirst]) he hf ?_
  refine thn (hc pins s σ H [.ref A1, .ref B1] [.ref A1, .ref B1] _ I (.cons rfl (.cons rfl .nil)) ⟨m, h, [.obj c ns vs, .obj c ms ws], S, ?_, w⟩) fun z s1 ⟨v, H1, I1, rz, k, ev, q⟩ => ?_
  · unfold VRs
    exact ⟨_, _, rfl, ra, VRs.one rb⟩
  · subst ev
    obtain rfl : z = Value.bool k := rz
    exact ⟨.bl k, H1, I1, rfl, q⟩
theorem l_eqo {c : Str} {f : Addr} {g : List MV → M MV} (hu : X.A.units < cLine) (he : PySem.W.findIn X.K (.ref (He.ga X.K c)) "__eq__" = some (some (.ref f))) (hf : PySem.W.isFn X.K (.ref f) = true) (hc : CallM X f g) (hn : noSet eb = true) (ha : PE X ea (tE X.K fa)) (hb : PE X eb (tE X.K fb)) :
    PE X (.Compare ea [.Eq] [eb] pos) (tE X.K fun ρ => (fa ρ).bnd fun x => (fb ρ).bnd fun y => (eqoV c g x y).bnd fun k => .ret (MV.bl k)) :=
  pe_imp (pe_cmpR (op_eo hu he hf hc) ha hb (no_behind hn)) fun σ H Q ⟨m, h, ρ, S, en, w⟩ =>
    liftG (R := rV X.K) (g := fun x ρ => (fb ρ).bnd fun y => (eqoV c g x y).bnd fun k => .ret (MV.bl k)) S en w fun m1 h1 x v H1 P1 S1 en1 r1 w1 =>
      liftG (R := rV X.K) (g := fun y _ => (eqoV c g x y).bnd fun k => .ret (MV.bl k)) S1 en1 w1 fun m2 h2 y u H2 P2 S2 en2 r2 w2 =>
        ⟨m2, h2, x, y, S2, r1.mono P2, r2, (WP.bind (Rx := rId) w2).mono fun k H3 ⟨m3, h3, k', P3, S3, e, w3⟩ => by
          cases e
          exact w3.ret S3 (vr_bl _)⟩
theorem lt_eqo {c : Str} {f : Addr} {g : List MV → M MV} (hu : X.A.units < cLine) (he : PySem.W.findIn X.K (.ref (He.ga X.K c)) "__eq__" = some (some (.ref f))) (hf : PySem.W.isFn X.K (.ref f) = true) (hc : CallM X f g) (hn : noSet eb = true) (ha : PE X ea (tE X.K fa)) (hb : PE X eb (tE X.K fb)) :
    PT X (.Compare ea [.Eq] [eb] pos) (tT X.K fun ρ => (fa ρ).bnd fun x => (fb ρ).bnd fun y => eqoV c g x y) :=
  pt_imp (pt_cmpR (op_eo hu he hf hc) ha hb (no_behind hn)) fun σ H Q ⟨m, h, ρ, S, en, w⟩ =>
    liftG (R := rV X.K) (g := fun x ρ => (fb ρ).bnd fun y => eqoV c g x y) S en w fun m1 h1 x v H1 P1 S1 en1 r1 w1 =>
      liftG (R := rV X.K) (g := fun y _ => eqoV c g x y) S1 en1 w1 fun m2 h2 y u H2 P2 S2 en2 r2 w2 =>
        ⟨m2, h2, x, y, S2, r1.mono P2, r2, w2.mono fun k H3 q => ⟨k, rfl, q⟩⟩
theorem vrs_rev {K : PySem.W.Frag} {m : List Addr} {H : Hp} : ∀ {xs : List MV} {vs : List V}, VRs K m H xs vs → VRs K m H xs.reverse vs.reverse
  | [], vs, r => by rw [vrs_nil' r]; show VRs K m H [] []; unfold VRs; rfl
  | x :: xs, vs, r => by
    obtain ⟨v, t, rfl, r1, r2⟩ := vrs_cons' r
    rw [List.reverse_cons, List.reverse_cons]
    exact (vrs_rev r2).append (VRs.one r1)
theorem l_rev {k : Nat} {p1 p2 p3 : Pos} (ha : PE X ea (tE X.K fa)) : PE X (.Subscript ea (.Slice none none (some (.UnaryOp .USub (.Constant (.int 1) k p1) p2)) p3) pos) (tE X.K fun ρ => (fa ρ).bnd revV) :=
  pe_imp (pe_revL ha) fun σ H Q ⟨m, h, ρ, S, en, w⟩ =>
    liftG (R := rV X.K) (g := fun x _ => revV x) S en w fun m1 h1 x v H1 P1 S1 en1 r1 w1 => by
      cases x with
      | ro xs =>
        obtain ⟨a, vs, rfl, q, rr⟩ := vr_ro' r1
        exact ⟨a, vs, rfl, q.sq, wp_lst w1 S1 (vrs_rev rr)⟩
      | _ => exact False.elim w1
/-! ### statements -/
theorem s_aug {i : Nat} {x : Str} {sb : Bool} (hN : X.N.Nodup) (hi : X.N[i]? = some x) (hx : Loc X.env.scope x) (hf : X.fn x = true ∨ X.env.scope.names.lookup x = some .local) (ha : PE X ea (tE X.K fa)) :
    PS X (.AugAssign (.Name x p) (if sb then .Sub else .Add) ea pos) (tSt X.K fun ρ => ((match ρ[i]? with
      | some (some v) => M.ret v
      | _ => M.stk).bnd fun x => (fa ρ).bnd fun y => (augV sb x y).bnd fun z => .ret (ρ.set i (some z), .nx))) := by
  have ip : PIp X (if sb then .Sub else .Add) (ipI fun i j => if sb then i - j else i + j) := by
    cases sb with
    | true => exact ip_sub
    | false => exact ip_add
  refine ps_imp (ps_aug hN hi hx ha ip hf) fun D σ H ⟨m, h, ρ, S, en, w⟩ => ?_
  replace w : WS X.K (((match ρ[i]? with
      | some (some v) => M.ret v
      | _ => M.stk).bnd fun x => (fa ρ).bnd fun y => (augV sb x y).bnd fun z => M.ret (ρ.set i (some z), Fl.nx)) h) m H D := w
  cases e : ρ[i]? with
  | none => rw [e] at w; exact False.elim w
  | some o =>
    cases o with
    | none => rw [e] at w; exact False.elim w
    | some v =>
      rw [e] at w
      obtain ⟨x, e1, r⟩ := en.2 i v e
      refine ⟨x, e1, ?_⟩
      have w : WS X.K (((fa ρ).bnd fun y => (augV sb v y).bnd fun z => M.ret (ρ.set i (some z), Fl.nx)) h) m H D := w
      exact liftS (R := rV X.K) (g := fun y ρ => (augV sb v y).bnd fun z => .ret (ρ.set i (some z), .nx)) S en w fun m1 h1 y u H1 P1 S1 en1 r1 w1 => by
        cases v with
        | int n =>
          cases y with
          | int k => exact ⟨n, k, vr_int' r, vr_int' r1, WS.ret (p := (ρ.set i (some (.int (if sb then n - k else n + k))), Fl.nx)) w1 S1 (en1.set (vr_int _))⟩
          | _ => exact False.elim w1
        | _ => exact False.elim w1
theorem s_par3 {i j l : Nat} {x y z : Str} {px py pz pt : Pos} {kt k2 : Nat} {pt2 : Pos} (hc : X.calm = true) (hN : X.N.Nodup) (hi : X.N[i]? = some x) (hj : X.N[j]? = some y) (hl : X.N[l]? = some z) (hij : i ≠ j) (hil : i ≠ l) (hjl : j ≠ l)
    (hx : X.env.scope.names.lookup x = some .local) (hy : X.env.scope.names.lookup y = some .local) (hz : X.env.scope.names.lookup z = some .local) (hs : noStar ea = true) (hs2 : noStar eb = true) (hs3 : noStar ec = true) (ha : PE X ea (tE X.K fa)) (hb : PE X eb (tE X.K fb)) (hcc : PE X ec (tE X.K fc))
    (hw : swappedStores [.Tuple [.Name x px, .Name y py, .Name z pz] kt pt] (.Tuple [ea, eb, ec] k2 pt2) X.env = pure (some [x, y, z])) :
    PS X (.Assign [.Tuple [.Name x px, .Name y py, .Name z pz] kt pt] (.Tuple [ea, eb, ec] k2 pt2) pos) (tSt X.K fun ρ => (fa ρ).bnd fun x => (fb ρ).bnd fun y => (fc ρ).bnd fun z => .ret (((ρ.set i (some x)).set j (some y)).set l (some z), .nx)) :=
  ps_imp (ps_par3 hc hN hi hj hl hij hil hjl hx hy hz (pa_cons ha (pa_cons hb (pa_cons hcc pa_nil (star_cons hs3)) (star_cons hs2)) (star_cons hs)) hw) fun D σ H ⟨m, h, ρ, S, en, w⟩ =>
    liftS (R := rV X.K) (g := fun x ρ => (fb ρ).bnd fun y => (fc ρ).bnd fun z => .ret (((ρ.set i (some x)).set j (some y)).set l (some z), .nx)) S en w fun m1 h1 x v H1 P1 S1 en1 r1 w1 =>
      liftS (R := rV X.K) (g := fun y ρ => (fc ρ).bnd fun z => .ret (((ρ.set i (some x)).set j (some y)).set l (some z), .nx)) S1 en1 w1 fun m2 h2 y u H2 P2 S2 en2 r2 w2 =>
        liftS (R := rV X.K) (g := fun z ρ => .ret (((ρ.set i (some x)).set j (some y)).set l (some z), .nx)) S2 en2 w2 fun m3 h3 z t H3 P3 S3 en3 r3 w3 =>
          ⟨v, u, t, rfl, WS.ret (p := (((ρ.set i (some x)).set j (some y)).set l (some z), Fl.nx)) w3 S3 (((en3.set ((r1.mono P2).mono P3)).set (r2.mono P3)).set r3)⟩
theorem s_setf {c f : Str} {q : Pos} (hn : noComp eb = true) (ci : Cls X.K (He.ga X.K c)) (na : NoAttr X.K (He.ga X.K c) f) (ha : PE X ea (tE X.K fa)) (hb : PE X eb (tE X.K fb)) :
    PS X (.Assign [.Attribute ea f q] eb pos) (tSt X.K fun ρ => (fb ρ).bnd fun x => (fa ρ).bnd fun y => (setfV c f y x).bnd fun _ => .ret (ρ, .nx)) :=
  ps_imp (ps_fld ha hb (no_swaps hn)) fun D σ H ⟨m, h, ρ, S, en, w⟩ =>
    liftS (R := rV X.K) (g := fun x ρ => (fa ρ).bnd fun y => (setfV c f y x).bnd fun _ => .ret (ρ, .nx)) S en w fun m1 h1 x v H1 P1 S1 en1 r1 w1 =>
      liftS (R := rV X.K) (g := fun y ρ => (setfV c f y x).bnd fun _ => .ret (ρ, .nx)) S1 en1 w1 fun m2 h2 y u H2 P2 S2 en2 r2 w2 => by
        cases y with
        | ref l =>
          obtain ⟨a, ha, rfl⟩ := vr_ref' r2
          have e0 : setfV c f (.ref l) x h2 = (match h2[l]? with
            | some (.ins d []) => if d = c then .ok () (h2.set l (.ins d [(f, x)])) else .stuck
            | _ => .stuck) := rfl
          unfold M.bnd at w2
          split at e0
          · rename_i d e
            split at e0
            · rename_i hd
              subst hd
              rw [e0] at w2
              obtain ⟨dx, ks, h1, h2'⟩ := S2.ob _ _ _ ha e
              have h2' : ks = [] := h2'
              subst h2'
              have wr : Wr (H2 a) := by rw [h1]; trivial
              have PW := Post.write (K := X.K) (H := H2) (o := .ins (He.ga X.K d) dx [(f, v)]) ha wr
              refine ⟨a, _, dx, [], rfl, h1, ci, na, by decide, ?_⟩
              refine WS.ret (p := (ρ, Fl.nx)) (h0 := h2.set l (.ins d [(f, x)])) (w2.at PW) (S2.write ha wr ⟨dx, [(f, v)], upd_same, ⟨v, [], rfl, (r1.mono P2).mono PW, rfl⟩⟩) (en2.mono PW)
            · rw [e0] at w2; exact False.elim w2
          · rw [e0] at w2; exact False.elim w2
        | _ => exact False.elim w2
end
end MP
/-! dict comprehensions, keys texts, ints or tuples of them: dc_core of HandS.DictComp for both kinds of dicts. -/
namespace L2
open PySem PySem.Spec PyProof.Rows
def nilD (t : Bool) : HO := if t then .dT [] else .dK []
theorem nilD_ok {P : Program} {w : World} {H : Hp} {t : Bool} (h : Heap) (hb : sysModules < h.objs.size) : ObjOk P w H (h.push { cls := .type "dict", data := .dict #[] }) h.objs.size (nilD t) := by
  cases t with
  | true => exact dt_empty h hb
  | false => exact dk_empty h hb
theorem d_dictSetU {X : Cx} {pins : List (Addr × Obj)} {σ : St} {H H' : Hp} {s : Shared} {E : Value → Shared → Prop} {a : Addr} {y v : V} {u r : Value} {Q : Unit → Shared → Prop} (hu : X.A.units + 1 < cLine) (I : Inv X pins σ H s) (g : DPut H a y v H') (ry : RelV y u) (rv : RelV v r) (h : ∀ s', Inv X pins σ H' s' → Q () s') :
    wpAny (model X.prog X.w) X.A (dictSet a u r) Q E s := by
  rcases g with ⟨kvs, k, e, ey, l, eH⟩ | ⟨kvs, k, b, e, ey, eb, l, eH⟩
  · subst ey eH
    obtain ⟨z, hd, vs, rel, dd⟩ := dk_of I.hok e
    have hz : vs.length ≤ sizeLine := by rw [← rel.length]; exact z
    have hl : (putK kvs k v).length ≤ sizeLine := by have := length_putK kvs k v; omega
    refine wpAny_dictSet_pairs (hsz := hz) (kV_is ry) dd fun h' dd' hs => h _ ?_
    have he : ∃ q, h'.get? a = some q := let ⟨q, _, _, hq, _⟩ := dd'; ⟨q, hq⟩
    exact d_write I (by rw [e]; exact True.intro) hs he (dk_new hl hd (rel.put k rv) dd')
  · subst ey eH
    cases (show u = Value.ref b from ry)
    obtain ⟨z, hd, xs, rel, dd⟩ := dt_of I.hok e
    have hz : xs.length ≤ sizeLine := by rw [← Paired.length rel]; exact z
    have hl : (putK kvs k v).length ≤ sizeLine := by have := length_putK kvs k v; omega
    refine wpAny_dictSet_heap (hsz := hz) (Nat.lt_of_succ_lt hu) (key_of I.hok eb) dd fun h' dd' hs => h _ ?_
    obtain ⟨q, es, ep, hq, h2, h3, h4, _, h5⟩ := dd'
    refine d_write I (by rw [e]; exact True.intro) hs ⟨q, hq⟩ ⟨hl, hd, _, (rel.put k eb rv).keeps fun c ys ec => ?_, q, es, ep, hq, h2, h3, h4, h5⟩
    rw [upd_ne (ne_of ec e (fun z => nomatch z))]
    exact ec
section
variable {X : Cx}
/-- {k: v for target in iter if ..}: D the new dict, t its kind -/
def tDcU (t : Bool) (wi : TI) (g : TG) (tt : TT) (tk tv : TE) (vs : List Nat) : TE := fun σ H Q => wi σ H fun J H1 => ∀ D, H1 D = none → ∃ W : Nat → Nat → Hp → Prop, (∃ m, W 0 m (upd H1 D (nilD t))) ∧ ∀ i m H, W i m H →
  (J.stop i H ∧ Q (.ref D) H) ∨ (J.go i H ∧ ∃ Nx : Hp → Prop, (∀ H', Nx H' → ∃ m', m' < m ∧ W (i + 1) m' H') ∧ ∀ x H', J.yld i H x H' → g x (wipe σ vs) H' fun σ2 H2 => wipe σ2 vs = wipe σ vs ∧ tt σ2 H2 fun b H3 =>
    if b = true then tk σ2 H3 fun y H4 => tv σ2 H4 fun z H5 => ∃ H6, DPut H5 D y z H6 ∧ Nx H6 else Nx H3)
theorem dcU_core {pins : List (Addr × Obj)} {s : Shared} {σ : St} {H : Hp} {Q : VK} {kx vx tg iter : Expr} {ifs : List Expr} {scope : Scope} {own : List (Str × Nat)} {pos pos' : Pos} {wi : TI} {g : TG} {tt : TT} {tk tv : TE} {use : Option (Value → Sem Unit)} {Qf : Value → Shared → Prop}
    {t : Bool} (hu : X.A.units + 1 < cLine) (hc : X.calm = true) (hN : X.N.Nodup) (I : Inv X pins σ H s) (hi : PI X tg iter wi) (ok : BlkOk X.N X.env.scope scope own)
    (hg : ∀ (s : Shared) (H : Hp) (C : Addr) (cl : List (Str × Addr)) (fp : List Addr), PG (X.blk s H scope (compEnvC scope cl C X.env) fp) tg g) (ht : ∀ (s : Shared) (H : Hp) (C : Addr) (cl : List (Str × Addr)) (fp : List Addr), PTs (X.blk s H scope (compEnvC scope cl C X.env) fp) ifs tt)
    (hk : ∀ (s : Shared) (H : Hp) (C : Addr) (cl : List (Str × Addr)) (fp : List Addr), PE (X.blk s H scope (compEnvC scope cl C X.env) fp) kx tk)
    (he : ∀ (s : Shared) (H : Hp) (C : Addr) (cl : List (Str × Addr)) (fp : List Addr), PE (X.blk s H scope (compEnvC scope cl C X.env) fp) vx tv) (hs : ∀ x, foldedSetIterable iter X.env x = pure x)
    (h : tDcU t wi g tt tk tv (own.map (·.2)) σ H Q)
    (hRR : ∀ D C s' m H', Inv X pins σ H' s' → Q (.ref D) H' → s'.heap.Ns C m → FpOk X pins H' C → compPost (model X.prog X.w) X.A X.xe use Qf (.ref D) C (.ok .next) s') :
    wpAny (model X.prog X.w) X.A (comprehension (.DictComp kx vx [⟨tg, iter, ifs, 0⟩] scope pos) scope X.env pos' newDict false (eval iter X.env) use) Qf X.xe s := by
  have hfree : ∀ y ∈ scope.names, y.2 = .free → ∃ c, X.env.cells.lookup y.1 = some c := fun y hy e => by
    rcases ok.free y hy e with k | k
    · exact I.ok.has _ (.inl k)
    · exact I.ok.has _ (.inr k)
  refine wpAny_comprehension_free (use := use) rfl hs (closure_ok hfree) ok.kind (fun y hy e => by rw [ok.uniq y hy, e])
    (thn (hi.run pins s σ H _ I h) fun xv s1 hx => thn hx fun itv s2 h2 => ?_)
  obtain ⟨it, fp, tn, J, H2, e, I2, T, st2, f2, q⟩ := h2
  subst e
  refine wpAny_newObj_type (newEnv_comp ?_)
  generalize hD : s2.heap.objs.size = D
  have hDn : H2 D = none := I2.hok.fresh (Nat.le_of_eq hD)
  obtain ⟨W, ⟨m0, w0⟩, turn⟩ := q D hDn
  -- the new list
  generalize hs3 : ({ s2 with heap := s2.heap.push { cls := .type "dict", data := .dict #[] } } : Shared) = s3
  have I3 : Inv X pins σ (upd H2 D (nilD t)) s3 := by
    rw [← hs3]
    refine I2.laid (t' := s2.toks) (fun b o e => Heap.get?_push_of_some _ e) (Nat.le_of_eq hD) ?_
    rw [← hD]
    exact nilD_ok s2.heap I2.big
  have h3 : s3.heap = s2.heap.push { cls := .type "dict", data := .dict #[] } := by rw [← hs3]
  have sz : ∀ b ∈ fp, b < s2.heap.objs.size := fun b hb => by
    obtain ⟨o, e, _⟩ := T.obj _ _ st2 b hb
    exact Heap.lt_size e
  have f3 : ∀ b ∈ fp, FpOk X pins (upd H2 D (nilD t)) b ∧ b < s3.heap.objs.size := fun b hb => by
    have hlt := sz b hb
    refine ⟨⟨?_, (f2 b hb).2⟩, by rw [h3, Heap.size_push]; exact Nat.lt_succ_of_lt hlt⟩
    rw [upd_ne (by rw [← hD]; exact Nat.ne_of_lt hlt)]
    exact (f2 b hb).1
  have st3 : tn 0 s3.heap := T.keep _ _ _ st2 fun b _ o e => by rw [h3]; exact Heap.get?_push_of_some _ e
  have I4 := block_start I3 ok hN f3
  have pg := hg s3 (upd H2 D (nilD t)) s3.heap.objs.size (cellsFrom (s3.heap.objs.size + 1) scope.names (cloFrom X.env.cells scope.names [])) fp
  have pt := ht s3 (upd H2 D (nilD t)) s3.heap.objs.size (cellsFrom (s3.heap.objs.size + 1) scope.names (cloFrom X.env.cells scope.names [])) fp
  have pk := hk s3 (upd H2 D (nilD t)) s3.heap.objs.size (cellsFrom (s3.heap.objs.size + 1) scope.names (cloFrom X.env.cells scope.names [])) fp
  have pe := he s3 (upd H2 D (nilD t)) s3.heap.objs.size (cellsFrom (s3.heap.objs.size + 1) scope.names (cloFrom X.env.cells scope.names [])) fp
  show codeAny _ _ (.compStart (.DictComp kx vx [⟨tg, iter, ifs, 0⟩] scope pos) 0 (.ref it) (.ref D) (compEnvC scope (cellsFrom (s3.heap.objs.size + 1) scope.names (cloFrom X.env.cells scope.names [])) s3.heap.objs.size X.env)) (compPost (model X.prog X.w) X.A X.xe use Qf (.ref D) s3.heap.objs.size) { s3 with heap := pushCells (s3.heap.push { cls := .type "dict", data := .dict #[] }) scope.names }
  have nfp : ∀ b ∈ fp, (upd H2 D (nilD t)) b = none := fun b hb => (f3 b hb).1.1
  generalize hce : compEnvC scope (cellsFrom (s3.heap.objs.size + 1) scope.names (cloFrom X.env.cells scope.names [])) s3.heap.objs.size X.env = ce at I4 pg pt pk pe ⊢
  have cL : ce.locals = s3.heap.objs.size := by subst hce; rfl
  generalize hH3 : upd H2 D (nilD t) = H3 at I3 I4 pg pt pk pe w0 nfp f3
  generalize hs4 : ({ s3 with heap := pushCells (s3.heap.push { cls := .type "dict", data := .dict #[] }) scope.names } : Shared) = s4 at I4 ⊢
  have st4 : tn 0 s4.heap := T.keep _ _ _ st3 fun b _ o e => by rw [← hs4]; exact pushCells_keeps _ _ _ _ (Heap.get?_push_of_some _ e)
  have stat : ∀ {σ' : St} {H' : Hp} {s' : Shared}, Inv (X.blk s3 H3 scope ce fp) [] σ' H' s' → (∀ b ∈ fp, H' b = none) → ∀ b ∈ fp, FpOk (X.blk s3 H3 scope ce fp) [] H' b := fun {σ' H' s'} I' hn b hb =>
    ⟨hn b hb, (I'.ok.exf b hb).1, I'.ok.exfs b hb, .inl hb, fun x c e => (I'.ok.exf b hb).2 x c e, fun p hp => absurd (show p ∈ ([] : List (Addr × Obj)) ++ [] from hp) (by simp)⟩
  have loop : codeAny (model X.prog X.w) X.A (.compLoop (.DictComp kx vx [⟨tg, iter, ifs, 0⟩] scope pos) 0 (.ref it) (.ref D) ce) (compPost (model X.prog X.w) X.A X.xe use Qf (.ref D) s3.heap.objs.size) s4 := by
    refine compLoop_anyD (fun n s' => ∃ i H', Inv (X.blk s3 H3 scope ce fp) [] (wipe σ (own.map (·.2))) H' s' ∧ tn i s'.heap ∧ (∀ b ∈ fp, H' b = none) ∧ W i n H') ?_ m0 ⟨0, H3, I4, st4, nfp, w0⟩
    rintro n s5 ⟨i, H5, I5, st5, n5, w5⟩
    rcases turn i n H5 w5 with ⟨stop, qq⟩ | ⟨go, Nx, hNx, step⟩
    · have td := T.done (X.blk s3 H3 scope ce fp) rfl rfl rfl hc i [] s5 _ H5 (fun _ _ => False) I5 (stat I5 n5) st5 stop
      refine thnF td fun r s6 ⟨hr, I6⟩ => ?_
      subst hr
      -- back in the def's context
      have I7 : Inv X pins σ H5 s6 := I3.call' (ch := fp) I6.os I6.base I6.hok I6.bare fun b hb => ⟨(f3 b hb).1.2.2.2.1, (f3 b hb).1.2.1, (f3 b hb).1.2.2.2.2.1, (f3 b hb).1.2.2.2.2.2⟩
      have nC : H5 s3.heap.objs.size = none := by
        have z : H5 ce.locals = none := I6.free
        rw [cL] at z
        exact z
      obtain ⟨m, hn, _⟩ := I6.loc
      have hn : s6.heap.Ns ce.locals m := hn
      rw [cL] at hn
      exact hRR D s3.heap.objs.size s6 m H5 I7 qq hn (I3.fpOk (Nat.le_refl _) nC)
    · have ti := T.item (X.blk s3 H3 scope ce fp) rfl rfl rfl hc i [] s5 _ H5 (fun _ _ => False) I5 (stat I5 n5) st5 go
      refine thnF ti fun r s6 ⟨u, hr, h6⟩ => ?_
      subst hr
      refine thnF h6 fun _ s7 ⟨x, H7, I7, r7, y7, st7, n7⟩ => ?_
      have I7' := I7.pinned (stat I7 n7) (T.obj _ _ st7)
      refine thnF (pg.run _ s7 _ H7 x u _ I7' r7 (step x H7 y7)) fun _ s8 ⟨σ8, H8, I8, hw8, q8⟩ => ?_
      refine thnF (pt.run _ s8 σ8 H8 _ I8 q8) fun b s9 ⟨H9, I9, q9⟩ => ?_
      -- the turn's end
      have fin : ∀ {s' : Shared} {H' : Hp}, Inv (X.blk s3 H3 scope ce fp) ([] ++ pinsAt fp s7.heap) σ8 H' s' → Nx H' → ∃ m, m < n ∧ ∃ i H', Inv (X.blk s3 H3 scope ce fp) [] (wipe σ (own.map (·.2))) H' s' ∧ tn i s'.heap ∧ (∀ b ∈ fp, H' b = none) ∧ W i m H' := fun {s' H'} I' nx => by
        obtain ⟨m', hm, w'⟩ := hNx H' nx
        have pin' : ∀ b ∈ fp, ∀ o, s7.heap.get? b = some o → s'.heap.get? b = some o ∧ H' b = none := fun b hb o e =>
          let z := I'.pin (b, o) (List.mem_append_right _ (List.mem_append_right _ (mem_pinsAt hb e)))
          ⟨z.1, z.2.1⟩
        have hl : (wipe σ (own.map (·.2))).length = σ8.length := by rw [← hw8, wipe_length]
        refine ⟨m', hm, i + 1, H', (I'.unpinned (pins := [])).weak hl (fun j v e => ?_), T.keep _ _ _ st7 fun b hb o e => (pin' b hb o e).1, fun b hb => ?_, w'⟩
        · rw [← hw8] at e
          exact (wipe_some e).1
        · obtain ⟨o, e, _⟩ := T.obj _ _ st7 b hb
          exact (pin' b hb o e).2
      cases b with
      | false =>
        simp only [Bool.false_eq_true, if_false] at q9 ⊢
        exact fin I9 q9
      | true =>
        simp only [if_true] at q9 ⊢
        refine thnF (pk.run _ s9 σ8 H9 _ I9 q9) fun z s10 ⟨yk, H10, I10, r10, q10⟩ => ?_
        refine thnF (pe.run _ s10 σ8 H10 _ I10 q10) fun z2 s11 ⟨yv, H11, I11, r11, H12, put, nx⟩ => ?_
        exact d_dictSetU (X := X.blk s3 H3 scope ce fp) hu I11 put r10 r11 fun s12 I12 => fin I12 nx
  exact codeAny_compStart_dict loop (T.self X.A 0 _ _ _ st4 loop)
/-- as a value -/
theorem pe_dcU {kx vx tg iter : Expr} {ifs : List Expr} {scope : Scope} {own : List (Str × Nat)} {pos : Pos} {wi : TI} {g : TG} {tt : TT} {tk tv : TE} {t : Bool} (hu : X.A.units + 1 < cLine) (hc : X.calm = true) (hN : X.N.Nodup) (hi : PI X tg iter wi) (ok : BlkOk X.N X.env.scope scope own)
    (hg : ∀ (s : Shared) (H : Hp) (C : Addr) (cl : List (Str × Addr)) (fp : List Addr), PG (X.blk s H scope (compEnvC scope cl C X.env) fp) tg g) (ht : ∀ (s : Shared) (H : Hp) (C : Addr) (cl : List (Str × Addr)) (fp : List Addr), PTs (X.blk s H scope (compEnvC scope cl C X.env) fp) ifs tt)
    (hk : ∀ (s : Shared) (H : Hp) (C : Addr) (cl : List (Str × Addr)) (fp : List Addr), PE (X.blk s H scope (compEnvC scope cl C X.env) fp) kx tk)
    (he : ∀ (s : Shared) (H : Hp) (C : Addr) (cl : List (Str × Addr)) (fp : List Addr), PE (X.blk s H scope (compEnvC scope cl C X.env) fp) vx tv) (hs : ∀ x, foldedSetIterable iter X.env x = pure x := by intro _; rfl) :
    PE X (.DictComp kx vx [⟨tg, iter, ifs, 0⟩] scope pos) (tDcU t wi g tt tk tv (own.map (·.2))) := by
  refine ⟨fun pins s σ H Q I h => ?_⟩
  rw [arm_eval_DictComp]
  refine dcU_core hu hc hN I hi ok hg ht hk he hs h fun D C s' m H' I' q hn f => ⟨m, hn, fun h'' sb => ?_⟩
  obtain ⟨f0, f1, f2, f3, f4, f5⟩ := f
  exact ⟨.ref D, H', I'.turned (t' := s'.toks) (fun b o hb e => (sb.2 b hb).trans e) f0 f1 f3 f4 f5, rfl, q⟩
/-- name = [..] on one line, the name a local -/
theorem ps_setDcU {i : Nat} {y : Str} {py : Pos} {t : Bool} {kx vx tg iter : Expr} {ifs : List Expr} {scope : Scope} {own : List (Str × Nat)} {pos spos : Pos} {wi : TI} {g : TG} {tt : TT} {tk tv : TE} (hu : X.A.units + 1 < cLine) (hc : X.calm = true) (hN : X.N.Nodup) (hy : X.N[i]? = some y) (hyl : X.env.scope.names.lookup y = some .local)
    (hsw : swapsWith (.DictComp kx vx [⟨tg, iter, ifs, 0⟩] scope pos) (some (.Name y py)) spos.line X.env = pure true) (hi : PI X tg iter wi) (ok : BlkOk X.N X.env.scope scope own)
    (hg : ∀ (s : Shared) (H : Hp) (C : Addr) (cl : List (Str × Addr)) (fp : List Addr), PG (X.blk s H scope (compEnvC scope cl C X.env) fp) tg g) (ht : ∀ (s : Shared) (H : Hp) (C : Addr) (cl : List (Str × Addr)) (fp : List Addr), PTs (X.blk s H scope (compEnvC scope cl C X.env) fp) ifs tt)
    (hk : ∀ (s : Shared) (H : Hp) (C : Addr) (cl : List (Str × Addr)) (fp : List Addr), PE (X.blk s H scope (compEnvC scope cl C X.env) fp) kx tk)
    (he : ∀ (s : Shared) (H : Hp) (C : Addr) (cl : List (Str × Addr)) (fp : List Addr), PE (X.blk s H scope (compEnvC scope cl C X.env) fp) vx tv) (hs : ∀ x, foldedSetIterable iter X.env x = pure x := by intro _; rfl) :
    PS X (.Assign [.Name y py] (.DictComp kx vx [⟨tg, iter, ifs, 0⟩] scope pos) spos) (tAsg (tDcU t wi g tt tk tv (own.map (·.2))) (gName i)) := by
  refine ⟨fun pins s σ H D I h => ?_⟩
  rw [exec_Assign_Name_used _ _ _ _ hsw]
  refine wpAny_bind (wpAny_standAt (wpAny_bind ?_))
  show wpAny _ X.A (do let _ ← comprehension (.DictComp kx vx [⟨tg, iter, ifs, 0⟩] scope pos) scope X.env (firstIterPos [⟨tg, iter, ifs, 0⟩] pos) (newDict) false (eval iter X.env) (some (assign (.Name y py) X.env))) _ _ s
  have h : tDcU t wi g tt tk tv (own.map (·.2)) σ H (fun x H1 => gName i x σ H1 D.nx) := h
  refine wpAny_bind (thn (dcU_core (Qf := fun _ s' => SP X pins D .next s') hu hc hN I hi ok hg ht hk he hs h fun L C s' m H' I' q hn f => ?_) fun _ s' hq => wpAny_pure (wpAny_pure hq))
  show wpAny _ _ (assign (.Name y py) X.env (.ref L)) _ _ _
  refine wpAny_assign_Name (store_ok2 (v := V.ref L) I' hN hy (.inl hyl) rfl (fun s2 I2 ⟨a, sb, ha⟩ => ?_) (.inr hyl))
  obtain ⟨f0, f1, f2, f3, f4, f5⟩ := f
  have haC : C ≠ a := by
    rcases ha with z | z
    · rw [z]; exact f1
    · exact fun e => f4 y a z e.symm
  refine ⟨m, hn.sameBut sb haC, fun h3 sb3 => ?_⟩
  exact ⟨_, H', I2.turned (t' := s2.toks) (fun b o hb e => (sb3.2 b hb).trans e) f0 f1 f3 f4 f5, q⟩
theorem sw_trueD {kx vx : Expr} {gs : List Comprehension} {scope : Scope} {pos py : Pos} {y : Str} {l : Nat} {env : Env} (hk : env.scope.kind = .function) (hy : env.scope.names.lookup y = some .local) (hl : (py.line == pos.line) = true)
    (ha : (scope.names.any fun (n, k) => n == y && (k == .local || k == .cell)) = false) : swapsWith (.DictComp kx vx gs scope pos) (some (.Name y py)) l env = pure true := by
  have ky : env.kindOf y = some .local := hy
  have hb : env.blockKind = .function := by unfold Env.blockKind; rw [hk]; rfl
  unfold swapsWith
  simp only [hb, ky, ha, Expr.pos, hl]
  rfl
end
end L2
/-! dict(zip(x, y)), x and y of any kind. -/
namespace PySem
open Sem (wp)
section
variable {prog : Program} {w : World} {A : Around} {E : Value → Shared → Prop} {s : Shared} {z TI TO i1 i2 T : Addr} {fp1 fp2 : List Addr} {n1 n2 i : Nat} {P1 P2 : Nat → Value → Prop} {St1 St2 : Nat → Heap → Prop} {f : Bool} {oT : Obj}
theorem zipD2_next_item_held {Q : Value → Shared → Prop} (S : ZipSep2 z TI TO i1 i2 fp1 fp2) (D1 : Draws prog w A i1 fp1 n1 P1 St1) (D2 : Draws prog w A i2 fp2 n2 P2 St2)
    (hz : IsZipHeld s.heap z TI TO T f) (hT : s.heap.get? T = some oT) (hTI : IsTupOf2 s.heap TI (.ref i1) (.ref i2)) (st1 : St1 i s.heap) (st2 : St2 i s.heap) (hlt1 : i < n1) (hlt2 : i < n2)
    (hQ : ∀ x1 x2 h' tk, P1 i x1 → P2 i x2 → IsZipHeld h' z TI TO T true → St1 (i + 1) h' → St2 (i + 1) h' → IsTupOf2 h' s.heap.objs.size x1 x2 → h'.objs.size = s.heap.objs.size + 1 →
      (∀ c o, c ≠ z → c ≠ i1 → c ≠ i2 → s.heap.get? c = some o → h'.get? c = some o) → Q (.ref s.heap.objs.size) { s with heap := h', toks := tk }) :
    wpAny (model prog w) A (Builtin.«zip.__next__» ⟨[.ref z], []⟩) (fun fin s' => ∃ v, fin = .done (.ret v) ∧ Q v s') E s := by
  obtain ⟨hp, g, d, tk0, os⟩ := s
  show wpAny _ _ (field (.ref z) 2 >>= _) _ _ _
  refine wpAny_bind (wpAny_field hz rfl (x := .bool false) rfl ?_)
  show wpAny _ _ (field (.ref z) 3 >>= _) _ _ _
  refine wpAny_bind (wpAny_field hz rfl (x := .ref TI) rfl ?_)
  refine wpAny_bind (wpAny_seqItems hTI rfl ?_)
  show wpAny _ _ (Builtin.SmallTypes.ownedTupleIsFree (.ref z) >>= _) _ _ _
  refine wpAny_bind (wpAny_tupleHeld_zip hz hT fun g0 hz0 hs0 => ?_)
  replace hz0 : IsZipHeld g0 z TI TO T true := hz0
  replace hs0 : Heap.SameBut z hp g0 := hs0
  simp only [Bool.false_eq_true, if_false]
  refine wpAny_bind ?_
  rw [← Array.forIn_toList]
  simp only [List.forIn_cons, List.forIn_nil]
  refine wpAny_bind (wpAny_bind (wpAny_holding ?_))
  show wpAny _ _ (Builtin.SmallTypes.nextOf (.ref i1) >>= _) _ _ ⟨g0, g, d, tk0, os⟩
  refine wpAny_bind (D1.item i _ _ _ hlt1 (D1.over st1 hs0 S.zf1) fun x1 p1 tk1 hx1 sn1 hp1 => wpAny_pure ?_)
  replace hp1 : Heap.SameBut i1 g0 p1 := hp1
  refine wpAny_pure ?_
  refine wpAny_bind (wpAny_bind (wpAny_holding ?_))
  show wpAny _ _ (Builtin.SmallTypes.nextOf (.ref i2) >>= _) _ _ ⟨p1, g, d, tk1, os⟩
  refine wpAny_bind (D2.item i _ _ _ hlt2 (D2.over (D2.over st2 hs0 S.zf2) hp1 S.sep1_2) fun x2 p2 tk2 hx2 sn2 hp2 => wpAny_pure ?_)
  replace hp2 : Heap.SameBut i2 p1 p2 := hp2
  refine wpAny_pure (wpAny_pure ?_)
  show wpAny _ _ (newTuple [x1, x2] >>= _) _ _ _
  refine wpAny_bind (wpAny_newTuple ?_)
  have hsz : p2.objs.size = hp.objs.size := by rw [hp2.1, hp1.1, hs0.1]
  have hz3 : IsZipHeld p2 z TI TO T true := hp2.extBut _ _ S.zi2 (hp1.extBut _ _ S.zi1 hz0)
  have hk : ∀ c o, c ≠ z → c ≠ i1 → c ≠ i2 → hp.get? c = some o → p2.get? c = some o := fun c o cz c1 c2 e => hp2.extBut _ _ c2 (hp1.extBut _ _ c1 (hs0.extBut _ _ cz e))
  have hj1 : St1 (i + 1) p2 := D1.over sn1 hp2 S.sep2_1
  refine wpAny_pure ⟨_, rfl, ?_⟩
  show Q (.ref p2.objs.size) ⟨p2.push { cls := .type "tuple", data := .seq #[x1, x2] }, g, d, tk2, os⟩
  have hpr : IsTupOf2 (p2.push { cls := .type "tuple", data := .seq #[x1, x2] }) p2.objs.size x1 x2 := Heap.get?_push_size _ rfl
  have hz4 : (p2.push { cls := .type "tuple", data := .seq #[x1, x2] }).objs.size = p2.objs.size + 1 := Heap.size_push ..
  rw [hsz] at hpr hz4 ⊢
  exact hQ x1 x2 _ tk2 hx1 hx2 (Heap.get?_push_of_some _ hz3) (D1.frame _ _ _ hj1 fun b hb o e => Heap.get?_push_of_some _ e) (D2.frame _ _ _ sn2 fun b hb o e => Heap.get?_push_of_some _ e) hpr hz4 fun c o cz c1 c2 e => Heap.get?_push_of_some _ (hk c o cz c1 c2 e)
theorem zipD2_next_end_held {Q : Fin → Shared → Prop} (S : ZipSep2 z TI TO i1 i2 fp1 fp2) (D1 : Draws prog w A i1 fp1 n1 P1 St1) (D2 : Draws prog w A i2 fp2 n2 P2 St2)
    (hz : IsZipHeld s.heap z TI TO T f) (hT : s.heap.get? T = some oT) (hTI : IsTupOf2 s.heap TI (.ref i1) (.ref i2)) (st1 : St1 i s.heap) (st2 : St2 i s.heap) (hle1 : i ≤ n1) (hle2 : i ≤ n2) (hend : i = n1 ∨ i = n2)
    (hE : ∀ h' tk e, (∀ c o, c ≠ z → c ≠ i1 → c ≠ i2 → s.heap.get? c = some o → h'.get? c = some o) → (∃ o, h'.get? e = some o ∧ o.cls = .type "StopIteration") → E (.ref e) { s with heap := h', toks := tk }) :
    wpAny (model prog w) A (Builtin.«zip.__next__» ⟨[.ref z], []⟩) Q E s := by
  obtain ⟨hp, g, d, tk0, os⟩ := s
  show wpAny _ _ (field (.ref z) 2 >>= _) _ _ _
  refine wpAny_bind (wpAny_field hz rfl (x := .bool false) rfl ?_)
  show wpAny _ _ (field (.ref z) 3 >>= _) _ _ _
  refine wpAny_bind (wpAny_field hz rfl (x := .ref TI) rfl ?_)
  refine wpAny_bind (wpAny_seqItems hTI rfl ?_)
  show wpAny _ _ (Builtin.SmallTypes.ownedTupleIsFree (.ref z) >>= _) _ _ _
  refine wpAny_bind (wpAny_tupleHeld_zip hz hT fun g0 hz0 hs0 => ?_)
  replace hz0 : IsZipHeld g0 z TI TO T true := hz0
  replace hs0 : Heap.SameBut z hp g0 := hs0
  simp only [Bool.false_eq_true, if_false]
  refine wpAny_bind ?_
  rw [← Array.forIn_toList]
  simp only [List.forIn_cons, List.forIn_nil]
  refine wpAny_bind (wpAny_bind (wpAny_holding ?_))
  show wpAny _ _ (Builtin.SmallTypes.nextOf (.ref i1) >>= _) _ _ ⟨g0, g, d, tk0, os⟩
  by_cases hlt1 : i < n1
  · refine wpAny_bind (D1.item i _ _ _ hlt1 (D1.over st1 hs0 S.zf1) fun x1 p1 tk1 hx1 sn1 hp1 => wpAny_pure ?_)
    replace hp1 : Heap.SameBut i1 g0 p1 := hp1
    have hi2 : i = n2 := by omega
    refine wpAny_pure ?_
    refine wpAny_bind (wpAny_bind (wpAny_holding ?_))
    show wpAny _ _ (Builtin.SmallTypes.nextOf (.ref i2) >>= _) _ _ ⟨p1, g, d, tk1, os⟩
    refine wpAny_bind (D2.done ⟨p1, g, d, tk1, os⟩ _ _ (by rw [← hi2]; exact (D2.over (D2.over st2 hs0 S.zf2) hp1 S.sep1_2)) fun q e hq he => ?_)
    replace hq : Heap.ExtBut i2 p1 q := hq
    exact hE q tk1 e (fun c o cz c1 c2 x => hq _ _ c2 (hp1.extBut _ _ c1 (hs0.extBut _ _ cz x))) he
  · have hi1 : i = n1 := by omega
    refine wpAny_bind (D1.done ⟨g0, g, d, tk0, os⟩ _ _ (by rw [← hi1]; exact (D1.over st1 hs0 S.zf1)) fun q e hq he => ?_)
    replace hq : Heap.ExtBut i1 g0 q := hq
    exact hE q tk0 e (fun c o cz c1 c2 x => hq _ _ c1 (hs0.extBut _ _ cz x)) he
theorem wpAny_pyNext_zipD2_item_held {Q : Option Value → Shared → Prop} (S : ZipSep2 z TI TO i1 i2 fp1 fp2) (D1 : Draws prog w A.in1 i1 fp1 n1 P1 St1) (D2 : Draws prog w A.in1 i2 fp2 n2 P2 St2)
    (hz : IsZipHeld s.heap z TI TO T f) (hT : s.heap.get? T = some oT) (hTI : IsTupOf2 s.heap TI (.ref i1) (.ref i2)) (st1 : St1 i s.heap) (st2 : St2 i s.heap) (hlt1 : i < n1) (hlt2 : i < n2)
    (hQ : ∀ x1 x2 h' tk, P1 i x1 → P2 i x2 → IsZipHeld h' z TI TO T true → St1 (i + 1) h' → St2 (i + 1) h' → IsTupOf2 h' s.heap.objs.size x1 x2 → h'.objs.size = s.heap.objs.size + 1 →
      (∀ c o, c ≠ z → c ≠ i1 → c ≠ i2 → s.heap.get? c = some o → h'.get? c = some o) → Q (some (.ref s.heap.objs.size)) { s with heap := h', toks := tk }) :
    wpAny (model prog w) A (pyNext (.ref z)) Q E s := by
  have hTy : s.TypeIs (.ref z) "zip" := ⟨_, hz, rfl⟩
  unfold pyNext
  exact wpAny_bind (wpAny_attempt (wpAny_callSpecial?_slot (name := Str.ofString "__next__") hTy F.slot_zip_next
    (wpAny_call_entry F.slot_zip_next hTy F.entry_zip_next
      (zipD2_next_item_held S D1 D2 hz hT hTI st1 st2 hlt1 hlt2 fun x1 x2 h' tk y1 y2 b1 d1 d2 b5 b6 b7 => wpAny_pure (hQ x1 x2 h' tk y1 y2 b1 d1 d2 b5 b6 b7)) (F.args_zip_next_1 _))))
theorem wpAny_pyNext_zipD2_end_held {Q : Option Value → Shared → Prop} (S : ZipSep2 z TI TO i1 i2 fp1 fp2) (D1 : Draws prog w A.in1 i1 fp1 n1 P1 St1) (D2 : Draws prog w A.in1 i2 fp2 n2 P2 St2)
    (hz : IsZipHeld s.heap z TI TO T f) (hT : s.heap.get? T = some oT) (hTI : IsTupOf2 s.heap TI (.ref i1) (.ref i2)) (st1 : St1 i s.heap) (st2 : St2 i s.heap) (hle1 : i ≤ n1) (hle2 : i ≤ n2) (hend : i = n1 ∨ i = n2)
    (hQ : ∀ h' tk, (∀ c o, c ≠ z → c ≠ i1 → c ≠ i2 → s.heap.get? c = some o → h'.get? c = some o) → Q none { s with heap := h', toks := tk }) : wpAny (model prog w) A (pyNext (.ref z)) Q E s := by
  have hTy : s.TypeIs (.ref z) "zip" := ⟨_, hz, rfl⟩
  unfold pyNext
  refine wpAny_bind (wpAny_attempt (wpAny_callSpecial?_slot (name := Str.ofString "__next__") hTy F.slot_zip_next
    (wpAny_call_entry F.slot_zip_next hTy F.entry_zip_next (zipD2_next_end_held S D1 D2 hz hT hTI st1 st2 hle1 hle2 hend fun h' tk e hk he => ?_) (F.args_zip_next_1 _))))
  obtain ⟨o, ho, hc⟩ := he
  refine wpAny_bind (wpAny_isInstance (T := "StopIteration") (b := true) ⟨o, ho, hc⟩ isSubtype_stop ?_)
  exact wpAny_pure (hQ _ _ hk)
end
section
open MPW
variable {prog : Program} {w : World} {c1 c2 : Addr} {o1 o2 : Obj} {β1 β2 : Type} {m1 : β1 → Nat} {m2 : β2 → Nat} {B1 : β1 → Heap → Prop} {B2 : β2 → Heap → Prop} {P1 : β1 → Nat → Value → Prop} {P2 : β2 → Nat → Value → Prop} {Own1 Own2 : Addr → Nat → Heap → Prop}
theorem PairArg.zipS (z TI TO i1 i2 : Addr) (D : ZipSep2 z TI TO i1 i2 [i1, c1] [i2, c2]) (S1 : MPW.Source c1 o1 m1 B1 P1 Own1) (S2 : MPW.Source c2 o2 m2 B2 P2 Own2) (b1 : β1) (b2 : β2) (n1 : c1 ≠ i1) (n2 : c2 ≠ i2) :
    PairArg prog w "zip" z [z, TI, TO, i1, i2, c1, c2] [z, TO, i1, i2] (min (m1 b1) (m2 b2)) (fun i k v => P1 b1 i k ∧ P2 b2 i v)
      (fun h => IsZip h z TI TO .none ∧ IsTupOf2 h TI (.ref i1) (.ref i2) ∧ (∃ a b, IsTupOf2 h TO a b) ∧ (Own1 i1 0 h ∧ B1 b1 h) ∧ (Own2 i2 0 h ∧ B2 b2 h)) where
  type := fun s ok => ⟨_, ok.1, rfl⟩
  notDict := by decide
  keep := fun h h' ok hk => by
    obtain ⟨hz, hTI, ⟨a, b, hTO⟩, ⟨h1, e1⟩, h2, e2⟩ := ok
    exact ⟨hk _ _ hz, hk _ _ hTI, ⟨a, b, hk _ _ hTO⟩, ⟨S1.keep _ _ _ _ h1 fun o e => hk _ o e, (S1.beg b1).keeps _ _ e1 hk⟩, S2.keep _ _ _ _ h2 fun o e => hk _ o e, (S2.beg b2).keeps _ _ e2 hk⟩
  there := fun h ok b hb => by
    obtain ⟨hz, hTI, ⟨a, c, hTO⟩, ⟨h1, e1⟩, h2, e2⟩ := ok
    simp only [List.mem_cons, List.not_mem_nil, or_false] at hb
    rcases hb with rfl | rfl | rfl | rfl | rfl | rfl | rfl
    · exact ⟨_, hz⟩
    · exact ⟨_, hTI⟩
    · exact ⟨_, hTO⟩
    · obtain ⟨o, e, _⟩ := S1.live _ _ _ h1; exact ⟨o, e⟩
    · obtain ⟨o, e, _⟩ := S2.live _ _ _ h2; exact ⟨o, e⟩
    · exact S1.there _ _ e1
    · exact S2.there _ _ e2
  sub := fun b hb => by simp at hb ⊢; rcases hb with rfl | rfl | rfl | rfl <;> simp
  noKeys := fun A s Q E hA ok h => getAttrOr_miss_zip ok.1 rfl rfl rfl zip_no_keys (by decide +kernel) hA h
  iter := fun A s d Q E hA ok hd hdf h => by
    obtain ⟨hz, hTI, ⟨a, b, hTO⟩, st1, st2⟩ := ok
    simp only [List.mem_cons, List.not_mem_nil, or_false, not_or] at hdf
    obtain ⟨dz, dTI, dTO, di1, di2, dl1, dl2⟩ := hdf
    have E1 := S1.draws prog w A.in1 hA i1 b1 n1
    have E2 := S2.draws prog w A.in1 hA i2 b2 n2
    have f1 : ∀ {i : Nat} {h h' : Heap}, (Own1 i1 i h ∧ B1 b1 h) → (∀ b o, b ≠ d → h.get? b = some o → h'.get? b = some o) → (Own1 i1 i h' ∧ B1 b1 h') := fun {i h h'} st hk => E1.frame i _ _ st fun b hb o e => by
      refine hk b o ?_ e
      rcases List.mem_cons.mp hb with z | z
      · rw [z]; exact Ne.symm di1
      · rw [List.mem_singleton.mp z]; exact Ne.symm dl1
    have f2 : ∀ {i : Nat} {h h' : Heap}, (Own2 i2 i h ∧ B2 b2 h) → (∀ b o, b ≠ d → h.get? b = some o → h'.get? b = some o) → (Own2 i2 i h' ∧ B2 b2 h') := fun {i h h'} st hk => E2.frame i _ _ st fun b hb o e => by
      refine hk b o ?_ e
      rcases List.mem_cons.mp hb with z | z
      · rw [z]; exact Ne.symm di2
      · rw [List.mem_singleton.mp z]; exact Ne.symm dl2
    refine wpAny_pyIter_zip hz (h z [z, TO, i1, i2] (fun i h => IsTupOf2 h TI (.ref i1) (.ref i2) ∧ (Own1 i1 i h ∧ B1 b1 h) ∧ (Own2 i2 i h ∧ B2 b2 h) ∧
      ((IsZip h z TI TO .none ∧ ∃ a b, IsTupOf2 h TO a b) ∨ ∃ T f oT, IsZipHeld h z TI TO T f ∧ h.get? T = some oT ∧ T ≠ z ∧ T ≠ i1 ∧ T ≠ i2 ∧ T ≠ d)) s.heap s.toks ?_
      ⟨hTI, st1, st2, .inl ⟨hz, a, b, hTO⟩⟩ (fun _ _ e => e) fun b hb => .inl hb)
    exact {
      off := fun hm => by
        simp only [List.mem_cons, List.not_mem_nil, or_false] at hm
        rcases hm with e | e | e | e
        · exact dz e
        · exact dTO e
        · exact di1 e
        · exact di2 e
      frame := fun i h₁ h₂ st hk => by
        obtain ⟨hTI, h1, h2, hz⟩ := st
        refine ⟨hk _ _ (Ne.symm dTI) hTI, f1 h1 hk, f2 h2 hk, ?_⟩
        rcases hz with ⟨hz, a, b, hTO⟩ | ⟨T, f, oT, hz, hT, r1, r2, r3, r4⟩
        · exact .inl ⟨hk _ _ (Ne.symm dz) hz, a, b, hk _ _ (Ne.symm dTO) hTO⟩
        · exact .inr ⟨T, f, oT, hk _ _ (Ne.symm dz) hz, hk _ _ r4 hT, r1, r2, r3, r4⟩
      item := fun i s₁ Q₁ E₁ hi st hds hQ => by
        obtain ⟨hTI, h1, h2, hz⟩ := st
        have hix : i < m1 b1 := Nat.lt_of_lt_of_le hi (Nat.min_le_left ..)
        have hiy : i < m2 b2 := Nat.lt_of_lt_of_le hi (Nat.min_le_right ..)
        have lt : ∀ {c o}, s₁.heap.get? c = some o → s₁.heap.objs.size ≠ c := fun e => Nat.ne_of_gt (Heap.lt_size e)
        have l1 : s₁.heap.objs.size ≠ i1 := let ⟨_, e⟩ := E1.live _ _ h1; lt e
        have l2 : s₁.heap.objs.size ≠ i2 := let ⟨_, e⟩ := E2.live _ _ h2; lt e
        rcases hz with ⟨hz, a, b, hTO⟩ | ⟨T, f, oT, hz, hT, r1, r2, r3, r4⟩
        · refine wpAny_pyNext_zipD2_item D E1 E2 hz hTI hTO h1 h2 hix hiy fun x1 x2 h' tk y1 y2 a1 a2 a3 a4 a5 a6 hk => ?_
          exact hQ s₁.heap.objs.size _ _ h' tk ⟨y1, y2⟩ (.inl ⟨_, a5, rfl, _, rfl⟩)
            ⟨hk _ _ D.TIz D.TITO D.TIi1 D.TIi2 hTI, a3, a4, .inr ⟨s₁.heap.objs.size, false, _, a1, a5, lt hz, l1, l2, Nat.ne_of_gt hds⟩⟩
            fun c o hc e => hk c o (fun x => hc (by simp [x])) (fun x => hc (by simp [x])) (fun x => hc (by simp [x])) (fun x => hc (by simp [x])) e
        · refine wpAny_pyNext_zipD2_item_held D E1 E2 hz hT hTI h1 h2 hix hiy fun x1 x2 h' tk y1 y2 a1 a3 a4 a5 a6 hk => ?_
          exact hQ s₁.heap.objs.size _ _ h' tk ⟨y1, y2⟩ (.inl ⟨_, a5, rfl, _, rfl⟩)
            ⟨hk _ _ D.TIz D.TIi1 D.TIi2 hTI, a3, a4, .inr ⟨T, true, oT, a1, hk _ _ r1 r2 r3 hT, r1, r2, r3, r4⟩⟩
            fun c o hc e => hk c o (fun x => hc (by simp [x])) (fun x => hc (by simp [x])) (fun x => hc (by simp [x])) e
      done := fun s₁ Q₁ E₁ st hQ => by
        obtain ⟨hTI, h1, h2, hz⟩ := st
        rcases hz with ⟨hz, a, b, hTO⟩ | ⟨T, f, oT, hz, hT, r1, r2, r3, r4⟩
        · exact wpAny_pyNext_zipD2_end D E1 E2 hz hTI hTO h1 h2 (Nat.min_le_left ..) (Nat.min_le_right ..) (by omega) fun h' tk hk => hQ h' tk fun c o hc e => hk c o (fun x => hc (by simp [x])) (fun x => hc (by simp [x])) (fun x => hc (by simp [x])) (fun x => hc (by simp [x])) e
        · exact wpAny_pyNext_zipD2_end_held D E1 E2 hz hT hTI h1 h2 (Nat.min_le_left ..) (Nat.min_le_right ..) (by omega) fun h' tk hk => hQ h' tk fun c o hc e => hk c o (fun x => hc (by simp [x])) (fun x => hc (by simp [x])) (fun x => hc (by simp [x])) e }
end
end PySem
namespace MPW
open PySem PySem.Spec PyProof.Rows L2
theorem mem5 {n b : Nat} : b ∈ [n + 4, n + 2, n + 3, n, n + 1] ↔ b = n + 4 ∨ b = n + 2 ∨ b = n + 3 ∨ b = n ∨ b = n + 1 := by simp
/-- dict(zip(x, y)) -/
def tDz (K : PySem.W.Frag) (ta : TA) : TE := fun σ H Q => ta σ H fun us H1 => ∃ (c1 c2 : Addr) (RB1 RB2 : Hp → Prop) (ks : List Key) (ys : List V), us = [.ref c1, .ref c2] ∧ RB1 H1 ∧ RB2 H1 ∧
  (∀ (X : Cx) (pins : List (Addr × Obj)) (σ : L2.St) (s : Shared), X.K = K → Inv X pins σ H1 s → SrcV K RB1 c1 (ks.map kV) ∧ SrcV K RB2 c2 ys) ∧ ks.length ≤ sizeLine ∧ ∀ p, H1 p = none → Q (.ref p) (upd H1 p (.dK (mergeK [] (ks.zip ys))))
theorem kvs_of {P : Program} {w : World} : ∀ {ks : List Key} {us : List Value} {ys : List V} {vs : List Value}, Vals (ks.map kV) us → Vals ys vs → KV (ks.zip ys) (ks.zip vs)
  | [], _, _, _, r, q => .nil
  | k :: ks, us, ys, vs, r, q => by
    cases r with
    | cons a b =>
      cases q with
      | nil => exact .nil
      | cons c d => exact .cons ⟨rfl, c⟩ (kvs_of (P := P) (w := w) b d)
theorem pe_dz {X : Cx} {e e2 : Expr} {ta : TA} {p p2 pos pos2 : Pos} (hg : Gl X "zip") (hm : X.mg "zip" = none) (hgd : Gl X "dict") (hmd : X.mg "dict" = none) (hcalm : X.calm = true) (ha : PA X [e, e2] ta)
    (hs : starEach [e, e2] X.env = (false, eval e X.env) :: starEach [e2] X.env := by rfl) (hpl : (backTo pos2 (starEach [e2] X.env)).any (·.1) = false := by rfl) :
    PE X (.Call (.Name "dict" p) [.Call (.Name "zip" p2) [e, e2] [] pos2] [] pos) (tDz X.K ta) := by
  refine ⟨fun pins s σ H Q I h => ?_⟩
  refine Call_ (ld_blt I hgd hmd PyProof.Rows.boot_dict (PyProof.Rows.callWith_type1 (PySem.Calls.spliced_cons (Call_ (ld_blt I hg hm PyProof.Rows.boot_zip (PyProof.Rows.callWith_type1 (thn (ha.run pos2 pins s σ H _ I h) fun us s1 ⟨vs, H1, I1, r1, q1⟩ => ?_) hs hpl)))) rfl rfl))
  obtain ⟨c1, c2, RB1, RB2, ks, ys, ex, rb1, rb2, src, hks, q⟩ := q1
  subst ex
  cases r1 with
  | cons r rr =>
    cases rr with
    | cons r' rr =>
      cases rr
      cases r
      cases r'
      obtain ⟨⟨β1, o1, n1, B1, P1, Own1, S1, k1⟩, β2, o2, n2, B2, P2, Own2, S2, k2⟩ := src X pins σ s1 rfl I1
      obtain ⟨b1, us1, hb1, z1, v1, w1⟩ := k1 X pins σ H1 s1 rfl I1 rb1
      obtain ⟨b2, us2, hb2, z2, v2, w2⟩ := k2 X pins σ H1 s1 rfl I1 rb2
      have l1 : c1 < s1.heap.objs.size := by obtain ⟨_, z⟩ := S1.there _ _ hb1; exact Heap.lt_size z
      have l2 : c2 < s1.heap.objs.size := by obtain ⟨_, z⟩ := S2.there _ _ hb2; exact Heap.lt_size z
      refine zip_begins2 (S1.beg b1) (S2.beg b2) hb1 hb2 fun h' hz hTI hTO h1 h2 hsz hk => PySem.Calls.spliced_nil ?_
      have I2 : Inv X pins σ H1 { s1 with heap := h' } := I1.kept (t' := s1.toks) hk
      have sep : ZipSep2 (s1.heap.objs.size + 4) (s1.heap.objs.size + 2) (s1.heap.objs.size + 3) s1.heap.objs.size (s1.heap.objs.size + 1) [s1.heap.objs.size, c1] [s1.heap.objs.size + 1, c2] :=
        zip_sep2 (fp1 := [c1]) (fp2 := [c2]) (fun b hb => by rw [List.mem_singleton.mp hb]; exact l1) (fun b hb => by rw [List.mem_singleton.mp hb]; exact l2)
      have n1' : c1 ≠ s1.heap.objs.size := Nat.ne_of_lt l1
      have n2' : c2 ≠ s1.heap.objs.size + 1 := Nat.ne_of_lt (Nat.lt_succ_of_lt l2)
      have lk : us1.length = ks.length := by rw [← v1.length, List.length_map]
      have lm : (ks.zip us2).length = min (n1 b1) (n2 b2) := by rw [List.length_zip, z1, z2, List.length_map, v2.length]
      refine call_dict_pairs (s := { s1 with heap := h' }) (knd := mixKind X.prog X.w) (kvs := ks.zip us2) (PairArg.zipS (prog := X.prog) (w := X.w) (s1.heap.objs.size + 4) (s1.heap.objs.size + 2) (s1.heap.objs.size + 3) s1.heap.objs.size (s1.heap.objs.size + 1) sep S1 S2 b1 b2 n1' n2') (I.ok.hd hcalm)
        ⟨hz, hTI, ⟨_, _, hTO⟩, ⟨S1.start _ _ h1, (S1.beg b1).keeps _ _ hb1 hk⟩, S2.start _ _ h2, (S2.beg b2).keeps _ _ hb2 hk⟩ ⟨lm, fun i key v ⟨g1, g2⟩ => ?_⟩ (by rw [z1, List.length_map]; exact Nat.le_trans (Nat.min_le_left ..) hks) fun h3 tk hd hk3 => ?_
      · have e1 := w1 i key g1
        have e2 := w2 i v g2
        have hi : i < ks.length := by rw [← lk]; exact (List.getElem?_eq_some_iff.mp e1).1
        refine ⟨ks[i], List.getElem?_zip_eq_some.mpr ⟨List.getElem?_eq_getElem hi, e2⟩, ?_⟩
        obtain ⟨x, h5, h6⟩ := vals_back v1 e1
        rw [List.getElem?_map, List.getElem?_eq_getElem hi] at h5
        cases h5
        exact kV_is h6
      · have kv : KV (ks.zip ys) (ks.zip us2) := kvs_of (P := X.prog) (w := X.w) v1 v2
        have hn : H1 h'.objs.size = none := I2.hok.fresh (Nat.le_refl _)
        have hm' : (h'.objs.size == sysModules) = false := beq_eq_false_iff_ne.mpr (Nat.ne_of_gt I2.big)
        have hlen : (mergeK [] (ks.zip ys)).length ≤ sizeLine := by
          refine Nat.le_trans (length_mergeK _ []) ?_
          rw [List.length_nil, Nat.zero_add, List.length_zip]
          exact Nat.le_trans (Nat.min_le_left ..) hks
        have own : ∀ b o, s1.heap.get? b = some o → h3.get? b = some o := fun b o e => hk3 b o (fun z => by
          have lt := Heap.lt_size e
          simp only [List.mem_cons, List.not_mem_nil, or_false] at z
          rcases z with z | z | z | z <;> rw [z] at lt <;> first | exact absurd lt (Nat.not_lt.mpr (Nat.le_add_right _ _)) | exact Nat.lt_irrefl _ lt) (hk b o e)
        refine ⟨.ref h'.objs.size, upd H1 h'.objs.size (.dK (mergeK [] (ks.zip ys))), I1.laid (t' := tk) own (by rw [hsz]; exact Nat.le_add_right _ _) (show ObjOk X.prog X.w _ _ _ (.dK (mergeK [] (ks.zip ys))) from ⟨hlen, hm', merged [] (ks.zip us2), KV.merge kv .nil, hd⟩), rfl, q _ hn⟩
end MPW
/-! MP: dict comprehensions. -/
namespace MP
open PySem PySem.Spec PyProof.Rows L2
theorem dcLoop_eq {t : Bool} {step : MV → M (Option (MV × MV))} {it : Itv} {w i : Nat} {acc : List (MV × MV)} {h : MH} : dcLoop t step it (w + 1) i acc h = match nxt h it i with
    | none => .stuck
    | some none => .ok acc h
    | some (some x) => ((step x).bnd fun o => match o with
      | some y => if keyB t y.1 && fitsL acc.length then dcLoop t step it w (i + 1) (putM y.1 y.2 acc) else .stk
      | none => dcLoop t step it w (i + 1) acc) h := rfl
theorem dcStep_eq {fg : MV → Env → M Env} {ft : Env → M Bool} {fk fe : Env → M MV} {ρ : Env} {x : MV} : dcStep fg ft fk fe ρ x = (fg x ρ).bnd fun ρ' => (ft ρ').bnd fun k => if k then (fk ρ').bnd fun y => (fe ρ').bnd fun z => .ret (some (y, z)) else .ret none := rfl
/-- a dict that grows -/
def DG (K : PySem.W.Frag) (m : List Addr) (H : Hp) (t : Bool) (acc : List (MV × MV)) (u : HO) : Prop := DR K m H t acc u
theorem dr_wr {K : PySem.W.Frag} {m : List Addr} {H : Hp} {t : Bool} {acc : List (MV × MV)} {u : HO} (r : DR K m H t acc u) : Wr (some u) ∧ notIns u ∧ ∃ n : Nat, True := by
  cases t with
  | false => obtain ⟨ks, rfl, _⟩ := r; exact ⟨trivial, trivial, 0, trivial⟩
  | true => obtain ⟨ks, rfl, _⟩ := r; exact ⟨trivial, trivial, 0, trivial⟩
theorem dput_of {K : PySem.W.Frag} {m : List Addr} {H : Hp} {t : Bool} {acc : List (MV × MV)} {u : HO} {D : Addr} {k v : MV} {y z : V} (hD : H D = some u) (r : DR K m H t acc u) (hb : keyB t k = true) (hf : acc.length < sizeLine) (ry : VR K m H k y) (rz : VR K m H v z) :
    ∃ u', DPut H D y z (upd H D u') ∧ DR K m H t (putM k v acc) u' := by
  cases t with
  | false =>
    obtain ⟨ks, rfl, rr⟩ := r
    have hb1 : keyB1 k = true := by
      cases k <;> first | exact hb | cases hb
    obtain ⟨kk, e1, rfl⟩ := key_of_vr hb1 ry
    exact ⟨_, DPut.k hD (by rw [← rr.length]; exact hf), _, rfl, put_rel e1 rz rr⟩
  | true =>
    obtain ⟨ks, rfl, rr⟩ := r
    cases k with
    | tup xs =>
      have hb : xs.all keyB1 = true := by
        have : (true && xs.all keyB1) = true := hb
        rwa [Bool.true_and] at this
      obtain ⟨b, us, rfl, hqb, r2⟩ := vr_tupH ry
      obtain ⟨kk, e1, rfl⟩ := keys_of_vr hb r2
      have e1 : keyT (.tup xs) = some kk := e1
      exact ⟨_, DPut.t hD hqb (by rw [← rr.length]; exact hf), _, rfl, put_relT e1 rz rr⟩
    | _ => cases hb
/-- a dict comprehension -/
theorem dc_lift {K : PySem.W.Frag} {t : Bool} {fi : Env → M Itv} {fg : MV → Env → M Env} {ft : Env → M Bool} {fk fe : Env → M MV} {own : List Nat} {W : Nat} {Q : VK} {σ : L2.St} {H : Hp}
    (w : tE K (fun ρ => (fi ρ).bnd fun J => (dcLoop t (dcStep fg ft fk fe (wipeE ρ own)) J W 0 []).bnd fun ys => M.alloc (.dct t ys)) σ H Q) :
    tDcU t (tI K fi) (tGw K own fg) (tT K ft) (tE K fk) (tE K fe) own σ H Q := by
  obtain ⟨m, h, ρ, S, en, w⟩ := w
  refine liftG (R := JR K) (f := fi) (g := fun J ρ => (dcLoop t (dcStep fg ft fk fe (wipeE ρ own)) J W 0 []).bnd fun ys => M.alloc (.dct t ys)) S en w fun m1 h1 it J H1 P S1 en1 rJ w1 => ?_
  intro D hD
  have PD : Post K m1 H1 m1 (upd H1 D (nilD t)) := ⟨List.prefix_refl _, fun _ _ q => tup_upd q (wr_none hD), fun _ _ q => roL_upd q (wr_none hD), frz_upd (wr_none hD), fun a o _ e => by rw [upd_ne (ne_of_none e hD)]; exact e, fun _ z n => absurd z n⟩
  have SD : Sim K m1 h1 (upd H1 D (nilD t)) := ⟨S1.len, S1.nd, fun l a o e1 e2 => (S1.ob l a o e1 e2).mono PD fun u e => by rw [upd_ne (ne_of_none e hD)]; exact e⟩
  have nD : D ∉ m1 := S1.notIn hD
  have d0 : DR K m1 (upd H1 D (nilD t)) t [] (nilD t) := by
    cases t with
    | false => exact ⟨[], rfl, rfl⟩
    | true => exact ⟨[], rfl, rfl⟩
  refine ⟨fun i μ H' => ∃ m h acc u, Sim K m h H' ∧ EnvR K m H' ρ σ ∧ JR K m H' it J ∧ D ∉ m ∧ H' D = some u ∧ DR K m H' t acc u ∧ Post K m1 H1 m H' ∧
    WP K (rV K) (((dcLoop t (dcStep fg ft fk fe (wipeE ρ own)) it μ i acc).bnd fun ys => M.alloc (.dct t ys)) h) m1 H1 Q,
    ⟨W, m1, h1, [], nilD t, SD, en1.mono PD, rJ.mono PD, nD, upd_same, d0, PD, w1⟩, ?_⟩
  rintro i μ H2 ⟨m2, h2, acc, uD, S2, en2, r2, n2, hD2, ra, P2, w2⟩
  obtain ⟨wrD, niD, _⟩ := dr_wr ra
  cases μ with
  | zero => exact False.elim w2
  | succ μ =>
    cases e : nxt h2 it i with
    | none =>
      rw [M.bnd_congr (y := fun _ => .stuck) (by rw [dcLoop_eq, e])] at w2
      exact False.elim w2
    | some o =>
      cases o with
      | none =>
        refine .inl ⟨nxt_stop S2 r2 e, ?_⟩
        rw [M.bnd_congr (y := M.ret acc) (by rw [dcLoop_eq, e]; rfl)] at w2
        have w3 : WP K (rV K) (M.alloc (.dct t acc) h2) m1 H1 Q := w2
        refine w3 (m2 ++ [D]) H2 (.ref D) ⟨P2.pre.trans (List.prefix_append _ _), P2.tup, P2.ro, P2.frz, P2.out, fun a z n => ?_⟩ (S2.adopt hD2 niD n2 ⟨uD, hD2, ra.mn (Mon.adopt hD2 niD)⟩) ?_
        · rcases List.mem_append.mp z with z | z
          · exact P2.new a z n
          · rw [List.mem_singleton.mp z]; exact hD
        · show VR _ _ _ _ _
          unfold VR
          exact ⟨D, by rw [← S2.len]; simp, rfl⟩
      | some x =>
        obtain ⟨go, yl⟩ := nxt_item S2 r2 e
        refine .inr ⟨go, fun H' => ∃ m h acc u, Sim K m h H' ∧ EnvR K m H' ρ σ ∧ JR K m H' it J ∧ D ∉ m ∧ H' D = some u ∧ DR K m H' t acc u ∧ Post K m1 H1 m H' ∧
          WP K (rV K) (((dcLoop t (dcStep fg ft fk fe (wipeE ρ own)) it μ (i + 1) acc).bnd fun ys => M.alloc (.dct t ys)) h) m1 H1 Q, fun H' q => ⟨μ, Nat.lt_succ_self _, q⟩, fun y H3 hy => ?_⟩
        obtain ⟨P3, S3, rv⟩ := yl y H3 hy
        rw [M.bnd_congr (y := (dcStep fg ft fk fe (wipeE ρ own) x).bnd fun o => match o with
          | some y => if keyB t y.1 && fitsL acc.length then dcLoop t (dcStep fg ft fk fe (wipeE ρ own)) it μ (i + 1) (putM y.1 y.2 acc) else .stk
          | none => dcLoop t (dcStep fg ft fk fe (wipeE ρ own)) it μ (i + 1) acc) (by rw [dcLoop_eq, e]), WP.bnd_bnd (K := K) (R := rV K)] at w2
        rw [dcStep_eq] at w2
        rw [WP.bnd_bnd (K := K) (R := rV K)] at w2
        refine ⟨m2, h2, wipeE ρ own, x, S3, (en2.mono P3).wipe own, rv, (WP.bind' (Rx := rE K) w2 m2 H3).mono fun σ4 H4 ⟨m4, h4, ρ4, P4, S4, en4, w4⟩ hwp => ⟨hwp.trans (wipe_wipe σ own), ?_⟩⟩
        rw [WP.bnd_bnd (K := K) (R := rV K)] at w4
        refine ⟨m4, h4, ρ4, S4, en4, (WP.bind' (Rx := rId) w4 m4 H4).mono fun b H5 ⟨m5, h5, k, P5, S5, ek, w5⟩ => ?_⟩
        cases ek
        have PP := (P3.trans P4).trans P5
        cases b with
        | false =>
          rw [if_neg Bool.false_ne_true]
          have n5 : D ∉ m5 := fun z => by
            have q := PP.new D z n2
            rw [hD2] at q; cases q
          exact ⟨m5, h5, acc, uD, S5, en2.mono PP, r2.mono PP, n5, PP.out D _ n2 hD2, ra.mn PP.mon, P2.trans PP, w5⟩
        | true =>
          rw [if_pos rfl]
          replace w5 : WP K (rV K) (M.bnd (M.bnd ((fk ρ4).bnd fun y => (fe ρ4).bnd fun z => M.ret (some (y, z))) fun o => match o with
            | some y => if keyB t y.1 && fitsL acc.length then dcLoop t (dcStep fg ft fk fe (wipeE ρ own)) it μ (i + 1) (putM y.1 y.2 acc) else .stk
            | none => dcLoop t (dcStep fg ft fk fe (wipeE ρ own)) it μ (i + 1) acc) (fun ys => M.alloc (.dct t ys)) h5) m1 H1 Q := by
            rw [WP.bnd_bnd (K := K) (R := rV K)]
            exact w5
          rw [WP.bnd_bnd (K := K) (R := rV K), WP.bnd_bnd (K := K) (R := rV K)] at w5
          refine ⟨m5, h5, ρ4, S5, en4.mono P5, (WP.bind' (Rx := rV K) w5 m5 H5).mono fun yk H6 ⟨m6, h6, kv, P6, S6, rk, w6⟩ => ?_⟩
          replace w6 : WP K (rV K) (M.bnd (M.bnd ((fe ρ4).bnd fun z => M.ret (some (kv, z))) fun o => match o with
            | some y => if keyB t y.1 && fitsL acc.length then dcLoop t (dcStep fg ft fk fe (wipeE ρ own)) it μ (i + 1) (putM y.1 y.2 acc) else .stk
            | none => dcLoop t (dcStep fg ft fk fe (wipeE ρ own)) it μ (i + 1) acc) (fun ys => M.alloc (.dct t ys)) h6) m1 H1 Q := by
            rw [WP.bnd_bnd (K := K) (R := rV K)]
            exact w6
          rw [WP.bnd_bnd (K := K) (R := rV K), WP.bnd_bnd (K := K) (R := rV K)] at w6
          refine ⟨m6, h6, ρ4, S6, (en4.mono P5).mono P6, (WP.bind' (Rx := rV K) w6 m6 H6).mono fun z H7 ⟨m7, h7, zv, P7, S7, rz, w7⟩ => ?_⟩
          have PQ := (PP.trans P6).trans P7
          have n7 : D ∉ m7 := fun z => by
            have q := PQ.new D z n2
            rw [hD2] at q; cases q
          have h7D := PQ.out D _ n2 hD2
          replace w7 : WP K (rV K) (M.bnd (if keyB t kv && fitsL acc.length then dcLoop t (dcStep fg ft fk fe (wipeE ρ own)) it μ (i + 1) (putM kv zv acc) else .stk) (fun ys => M.alloc (.dct t ys)) h7) m1 H1 Q := w7
          cases hf : keyB t kv && fitsL acc.length with
          | false =>
            rw [hf] at w7
            exact False.elim w7
          | true =>
            rw [hf] at w7
            obtain ⟨hb, hf⟩ := Bool.and_eq_true_iff.mp hf
            obtain ⟨u', dp, dr⟩ := dput_of h7D (ra.mn PQ.mon) hb (fitsL_lt hf) (rk.mono P7) rz
            have A7 : Mon K m7 H7 m7 (upd H7 D u') := Mon.aside h7D wrD niD
            refine ⟨_, dp, m7, h7, putM kv zv acc, u', S7.aside h7D wrD niD n7, ⟨(en2.mono PQ).1, fun j u ej => ?_⟩, ?_, n7, upd_same, dr.mn A7, ?_, w7⟩
            · obtain ⟨xx, e1, e2⟩ := (en2.mono PQ).2 j u ej
              exact ⟨xx, e1, e2.mn A7⟩
            · exact (r2.mono PQ).mn A7
            · have PR := P2.trans PQ
              refine ⟨PR.pre, fun a us q => A7.tup a us (PR.tup a us q), fun a us q => A7.ro a us (PR.ro a us q), fun a b u q => A7.frz a b u (PR.frz a b u q), fun a o n e => ?_, PR.new⟩
              rw [upd_ne (ne_of_none e hD)]
              exact PR.out a o n e
def dictN : Str := "dict"
section
variable {X : Cx} {ea eb ec tg : Expr} {es : List Expr} {pos p q : Pos} {fa fb fc : Env → M MV} {ta tb tc : Env → M Bool} {fl fk : Env → M (List MV)}
theorem l_dc {t : Bool} {ifs : List Expr} {scope : Scope} {own : List (Str × Nat)} {W : Nat} {fi : Env → M Itv} {fg : MV → Env → M Env} {ft : Env → M Bool} {fk fe : Env → M MV} (hu : X.A.units + 1 < cLine) (hc : X.calm = true) (hN : X.N.Nodup) (hset : noSet eb = true) (hi : PI X tg eb (tI X.K fi)) (ok : BlkOk X.N X.env.scope scope own)
    (hg : BX X scope fun Y => PG Y tg (tGq X.K (fun σ σ' => L2.wipe σ' (own.map (·.2)) = L2.wipe σ (own.map (·.2))) fg)) (ht : BX X scope fun Y => PTs Y ifs (tT X.K ft)) (hk : BX X scope fun Y => PE Y ec (tE X.K fk)) (he : BX X scope fun Y => PE Y ea (tE X.K fe)) :
    PE X (.DictComp ec ea [⟨tg, eb, ifs, 0⟩] scope pos) (tE X.K fun ρ => (fi ρ).bnd fun J => (dcLoop t (dcStep fg ft fk fe (wipeE ρ (own.map (·.2)))) J W 0 []).bnd fun ys => M.alloc (.dct t ys)) :=
  pe_imp (pe_dcU hu hc hN hi ok hg ht hk he (no_folded hset)) fun σ H Q w => dc_lift w
theorem s_setDc {t : Bool} {i : Nat} {y : Str} {py : Pos} {spos : Pos} {ifs : List Expr} {scope : Scope} {own : List (Str × Nat)} {W : Nat} {fi : Env → M Itv} {fg : MV → Env → M Env} {ft : Env → M Bool} {fk fe : Env → M MV} (hu : X.A.units + 1 < cLine) (hc : X.calm = true) (hN : X.N.Nodup) (hy : X.N[i]? = some y) (hyl : X.env.scope.names.lookup y = some .local)
    (hsw : swapsWith (.DictComp ec ea [⟨tg, eb, ifs, 0⟩] scope pos) (some (.Name y py)) spos.line X.env = pure true) (hset : noSet eb = true) (hi : PI X tg eb (tI X.K fi)) (ok : BlkOk X.N X.env.scope scope own)
    (hg : BX X scope fun Y => PG Y tg (tGq X.K (fun σ σ' => L2.wipe σ' (own.map (·.2)) = L2.wipe σ (own.map (·.2))) fg)) (ht : BX X scope fun Y => PTs Y ifs (tT X.K ft)) (hk : BX X scope fun Y => PE Y ec (tE X.K fk)) (he : BX X scope fun Y => PE Y ea (tE X.K fe)) :
    PS X (.Assign [.Name y py] (.DictComp ec ea [⟨tg, eb, ifs, 0⟩] scope pos) spos) (tSt X.K fun ρ => ((fi ρ).bnd fun J => (dcLoop t (dcStep fg ft fk fe (wipeE ρ (own.map (·.2)))) J W 0 []).bnd fun ys => M.alloc (.dct t ys)).bnd fun x => (M.ret (ρ.set i (some x))).bnd fun ρ' => .ret (ρ', .nx)) :=
  ps_imp (ps_setDcU hu hc hN hy hyl hsw hi ok hg ht hk he (no_folded hset)) fun D σ H w => lift_set (X := X) (fun _ _ _ z => dc_lift z) w
/-! ### dict(zip(x, y)) -/
theorem kr_zip {K : PySem.W.Frag} {m : List Addr} {H : Hp} : ∀ {xs ys : List MV} {ks : List Key} {vs : List V}, mapO keyM xs = some ks → VRs K m H ys vs → KR K m H (xs.zip ys) (ks.zip vs)
  | [], ys, ks, vs, e, r => by
    cases e
    exact rfl
  | x :: xs, ys, ks, vs, e, r => by
    unfold mapO at e
    split at e
    · rename_i k ks' h1 h2
      cases e
      cases ys with
      | nil =>
        rw [vrs_nil' r]
        exact rfl
      | cons y ys =>
        obtain ⟨v, t, rfl, r1, r2⟩ := vrs_cons' r
        exact ⟨k, v, ks'.zip t, rfl, h1, r1, kr_zip h2 r2⟩
    · cases e
theorem l_dz {q q2 : Pos} (hs : noStar ea = true) (hs2 : noStar eb = true) (hcalm : X.calm = true) (hg : Gl X zipN) (hm : X.mg zipN = none) (hgd : Gl X dictN) (hmd : X.mg dictN = none) (ha : PE X ea (tE X.K fa)) (hb : PE X eb (tE X.K fb)) :
    PE X (.Call (.Name dictN p) [.Call (.Name zipN q) [ea, eb] [] q2] [] pos) (tE X.K fun ρ => (fa ρ).bnd fun x => (fb ρ).bnd fun y => dzV x y) :=
  pe_imp (MPW.pe_dz hg hm hgd hmd hcalm (pa_cons ha (pa_cons hb pa_nil (star_cons hs2)) (star_cons hs)) (star_cons hs) (by rw [star_cons hs2]; rfl)) fun σ H Q ⟨m, h, ρ, S, en, w⟩ =>
    liftG (R := rV X.K) (g := fun x ρ => (fb ρ).bnd fun y => dzV x y) S en w fun m1 h1 x v H1 P1 S1 en1 r1 w1 =>
      liftG (R := rV X.K) (g := fun y ρ => dzV x y) S1 en1 w1 fun m2 h2 y u H2 P2 S2 en2 r2 w2 => by
        cases e1 : zipS x with
        | none =>
          have e : dzV x y h2 = .stuck := by unfold dzV; rw [e1]; rfl
          rw [e] at w2
          exact False.elim w2
        | some xs =>
          cases e2 : zipS y with
          | none =>
            have e : dzV x y h2 = .stuck := by unfold dzV; rw [e1, e2]; rfl
            rw [e] at w2
            exact False.elim w2
          | some ys =>
            have e : dzV x y = if xs.all keyB1 && fits xs.length then M.alloc (.dct false ((xs.zip ys).foldl (fun d p => putM p.1 p.2 d) [])) else .stk := by unfold dzV; rw [e1, e2]
            rw [e] at w2
            split at w2
            · rename_i hb
              obtain ⟨hb, hf⟩ := Bool.and_eq_true_iff.mp hb
              obtain ⟨c, RB, vs, rfl, rb, st, rr, src⟩ := src_of (r1.mono P2) e1
              obtain ⟨c2, RB2, vs2, rfl, rb2, st2, rr2, src2⟩ := src_of r2 e2
              obtain ⟨ks, h3, rfl⟩ := keys_of_vr hb rr
              refine ⟨c, c2, RB, RB2, ks, vs2, rfl, rb, rb2, fun Y pins σ s hK I => ⟨src Y pins σ s hK I, src2 Y pins σ s hK I⟩, by rw [← (mapO_some h3).1]; exact fits_le hf, fun p hp => ?_⟩
              have P : Post X.K m2 H2 (m2 ++ [p]) (upd H2 p (.dK (mergeK [] (ks.zip vs2)))) := Post.alloc hp
              refine w2 (m2 ++ [p]) _ (.ref p) P (S2.alloc hp ⟨_, upd_same, _, rfl, (merge_rel (kr_zip h3 rr2) (show KR X.K m2 H2 [] [] from rfl)).mono P⟩) ?_
              unfold rV VR
              exact ⟨p, by rw [← S2.len]; simp, rfl⟩
            · exact False.elim w2
end
end MP
/-! MP: the test that a term tells an expression of the text. -/
namespace MP
open PySem PySem.Spec PyProof.Rows L2
/-- a def of the text -/
structure FD where
  x : Str
  ps : List Str
  st : Stmt
  c : Option Str
  q : Str
def FD.at_ (d : FD) : Str × Option Str := match d.c with
  | none => (d.x, none)
  | some c => (c, some d.x)
/-- what the module holds: its defs, its constants, the built-ins' names that it leaves alone -/
structure TB where
  fns : List FD
  cs : List (Str × MV)
  bs : List Str
  ks : List (Nat × Nat × List Str × List Nat)
  cl : List Str
  fl : List (Str × Str)
  cc : List (Str × Str × MV)
  mks : List (Nat × Str)
  eqs : List (Nat × Str)
def visB (sc : Scope) (x : Str) : Bool := match sc.names.lookup x with
  | some .local | some .cell | some .free => true
  | _ => false
def gloB (sc : Scope) (x : Str) : Bool := match sc.names.lookup x with
  | some .globalImplicit => !(x == ("__debug__" : Str))
  | _ => false
def locB (sc : Scope) (x : Str) : Bool := match sc.names.lookup x with
  | some .local => true
  | _ => false
def celB (sc : Scope) (x : Str) : Bool := match sc.names.lookup x with
  | some .cell => true
  | _ => false
def stoB (N : List Str) (sc : Scope) (fb : Str → Bool) (i : Nat) (x : Str) : Bool := decide (N[i]? = some x) && (locB sc x || (celB sc x && fb x))
def varB (N : List Str) (sc : Scope) (i : Nat) (x : Str) : Bool := decide (N[i]? = some x) && visB sc x && !(x == ("__debug__" : Str)) && !(x == ("__classdict__" : Str))
def litB (v : MV) (c : Const) : Bool := match cK v with
  | some d => decide (d = c)
  | none => false
mutual
def mvB : MV → MV → Bool
  | .non, .non => true
  | .bl a, .bl b => a == b
  | .int a, .int b => decide (a = b)
  | .str a, .str b => decide (a = b)
  | .tup xs, .tup ys => mvsB xs ys
  | .ro xs, .ro ys => mvsB xs ys
  | _, _ => false
def mvsB : List MV → List MV → Bool
  | [], [] => true
  | x :: xs, y :: ys => mvB x y && mvsB xs ys
  | _, _ => false
end
def opB (o : Bop) (p : Operator) : Bool := match o, p with
  | .add, .Add => true | .sub, .Sub => true | .mul, .Mult => true | .fdiv, .FloorDiv => true | .mod, .Mod => true | .pow, .Pow => true
  | _, _ => false
def copB (o : Cop) (p : CmpOp) : Bool := match o, p with
  | .eq, .Eq => true | .ne, .NotEq => true | .lt, .Lt => true | .le, .LtE => true | .gt, .Gt => true | .ge, .GtE => true | .isin, .In => true | .notin, .NotIn => true
  | _, _ => false
def isB (ng : Bool) (p : CmpOp) : Bool := match ng, p with
  | true, .IsNot => true
  | false, .Is => true
  | _, _ => false
def kB (v : MV) (c : Const) : Bool := match v, c with
  | .non, .none => true
  | .bl a, .bool b => a == b
  | _, _ => false
def boB (d : Bool) (p : BoolOp) : Bool := match d, p with
  | true, .And => true
  | false, .Or => true
  | _, _ => false
def bltB (B : TB) (sc : Scope) (x y : Str) : Bool := decide (x = y) && gloB sc x && B.bs.contains x
def fnB (B : TB) (sc : Scope) (f : Nat) (x : Str) : Bool := gloB sc x && match B.fns[f]? with
  | some d => decide (d.x = x) && d.c.isNone
  | none => false
def dctLit : EL → Bool
  | .nil => true
  | _ => false
/-- a walk that yields new pairs wants a target of names -/
def tupIr : Ir → Bool
  | .en _ => true
  | .its _ => true
  | .zp _ _ => true
  | _ => false
def isTupE : Expr → Bool
  | .Tuple _ _ _ => true
  | _ => false
def tgB (it : Ir) (tg : Expr) : Bool := !tupIr it || isTupE tg
/-- the slots with their names -/
def ownN (N : List Str) (own : List Nat) : List (Str × Nat) := own.map fun i => (N.getD i "", i)
def blkF (scope : Scope) : Str → Bool := fun x => scope.names.lookup x == some .cell
mutual
def chkE (B : TB) (N : List Str) : E → Scope → (Str → Bool) → Expr → Bool
  | .var i, sc, _, e => match e with
    | .Name x _ => varB N sc i x
    | _ => false
  | .lit v, _, _, e => match e with
    | .Constant c _ _ => litB v c
    | _ => false
  | .glo x v, sc, _, e => match e with
    | .Name y _ => decide (x = y) && gloB sc x && B.cs.any fun p => decide (p.1 = x) && mvB p.2 v
    | _ => false
  | .tup es, sc, fb, e => match e with
    | .Tuple l _ _ => chkEL B N es sc fb l
    | _ => false
  | .lst es, sc, fb, e => match e with
    | .List l _ => chkEL B N es sc fb l
    | _ => false
  | .dct es, sc, fb, e => match es, e with
    | .nil, .Dict [] [] _ => true
    | .cons (.lit (.str k)) (.cons a .nil), .Dict [some (.Constant (.str j) _ _)] [v] _ => decide (k = j) && chkE B N a sc fb v
    | _, _ => false
  | .bin o a b, sc, fb, e => match e with
    | .BinOp x p y _ => opB o p && chkE B N a sc fb x && chkE B N b sc fb y
    | _ => false
  | .neg a, sc, fb, e => match e with
    | .UnaryOp .USub x _ => chkE B N a sc fb x
    | _ => false
  | .cmp o a b, sc, fb, e => match e with
    | .Compare x [p] [y] _ => copB o p && noSet y && chkE B N a sc fb x && chkE B N b sc fb y
    | _ => false
  | .chain o p a b c, sc, fb, e => match e with
    | .Compare x [u, v] [y, z] _ => copB o u && copB p v && noSet z && chkE B N a sc fb x && chkE B N b sc fb y && chkE B N c sc fb z
    | _ => false
  | .isK ng a v, sc, fb, e => match e with
    | .Compare x [p] [.Constant c _ _] _ => isB ng p && kB v c && chkE B N a sc fb x
    | _ => false
  | .bop d es, sc, fb, e => match e with
    | .BoolOp p l _ => boB d p && chkB B N es sc fb l
    | _ => false
  | .not a, sc, fb, e => match e with
    | .UnaryOp .Not x _ => chkE B N a sc fb x
    | _ => false
  | .ife t a b, sc, fb, e => match e with
    | .IfExp x y z _ => chkT B N t sc fb x && chkE B N a sc fb y && chkE B N b sc fb z
    | _ => false
  | .call f es, sc, fb, e => match e with
    | .Call (.Name x _) l [] _ => fnB B sc f x && chkEL B N es sc fb l
    | _ => false
  | .callk f es kes arr, sc, fb, e => match e with
    | .Call (.Name x _) l kws _ => fnB B sc f x && B.ks.contains (f, l.length, kws.filterMap (·.arg), arr) && kwOk (kws.filterMap (·.arg)) kws && chkEL B N es sc fb l && chkEL B N kes sc fb (kws.map (·.value))
    | _ => false
  | .bi b es, sc, fb, e => match e with
    | .Call (.Name x _) (a :: l) [] _ => bltB B sc x (biN b) && chkEL B N es sc fb (a :: l)
    | _ => false
  | .isi a ts, sc, fb, e => match e with
    | .Call (.Name x _) [v, .Name y _] [] _ => (match ts with
      | [t] => bltB B sc x isiN && bltB B sc y (tyN t) && noStar v && chkE B N a sc fb v
      | _ => false)
    | .Call (.Name x _) [v, .Tuple [.Name y _, .Name z _] _ _] [] _ => (match ts with
      | [t, u] => bltB B sc x isiN && bltB B sc y (tyN t) && bltB B sc z (tyN u) && noStar v && chkE B N a sc fb v
      | _ => false)
    | _ => false
  | .mth m o es, sc, fb, e => match e with
    | .Call (.Attribute v n p) l [] q => decide (n = mtN m) && noSuper v && (p.endLine == q.line) && decide (l.length < 30) && chkE B N o sc fb v && chkEL B N es sc fb l
    | _ => false
  | .idx a b, sc, fb, e => match e with
    | .Subscript x y _ => noSlice y && chkE B N a sc fb x && chkE B N b sc fb y
    | _ => false
  | .slc a lo hi, sc, fb, e => match e with
    | .Subscript x (.Slice u v none _) _ => chkE B N a sc fb x && chkO B N lo sc fb u && chkO B N hi sc fb v
    | _ => false
  | .lc a t it cs own, sc, fb, e => match e with
    | .ListComp v [⟨tg, iter, ifs, 0⟩] scope _ => blkC N sc scope (ownN N own) && noSet iter && (tgB it tg && chkIt B N it sc fb iter) && chkTg B N t (fun i => own.contains i) (relS scope sc) (blkF scope) tg &&
        chkC B N cs (relS scope sc) (blkF scope) ifs && chkE B N a (relS scope sc) (blkF scope) v
    | _ => false
  | .bad, _, _, _ => true
  | .val a, sc, fb, e => chkE B N a sc fb e
  | .fld a c f, sc, fb, e => match e with
    | .Attribute v g _ => decide (g = f) && noSuper v && B.fl.contains (c, f) && chkE B N a sc fb v
    | _ => false
  | .con c f v, sc, _, e => match e with
    | .Attribute (.Name x _) g _ => decide (x = c) && decide (g = f) && gloB sc x && B.cc.any fun p => decide (p.1 = c) && decide (p.2.1 = f) && mvB p.2.2 v
    | _ => false
  | .mk c f es, sc, fb, e => match e with
    | .Call (.Name x _) (v :: l) [] _ => decide (x = c) && gloB sc x && B.mks.contains (f, c) && chkEL B N es sc fb (v :: l)
    | _ => false
  | .iso a c, sc, fb, e => match e with
    | .Call (.Name x _) [v, .Name y _] [] _ => bltB B sc x isiN && decide (y = c) && gloB sc y && B.cl.contains c && noStar v && chkE B N a sc fb v
    | _ => false
  | .own _ _ _ _ _, _, _, _ => false
  | .dctT, _, _, e => match e with
    | .Dict [] [] _ => true
    | _ => false
  | .neo _ _ _ _, _, _, _ => false
  | .rev a, sc, fb, e => match e with
    | .Subscript v (.Slice none none (some (.UnaryOp .USub (.Constant (.int 1) _ _) _)) _) _ => chkE B N a sc fb v
    | _ => false
  | .eqo f c a b, sc, fb, e => match e with
    | .Compare x [.Eq] [y] _ => noSet y && B.eqs.contains (f, c) && chkE B N a sc fb x && chkE B N b sc fb y
    | _ => false
  | .dc _ k a t it cs own, sc, fb, e => match e with
    | .DictComp u v [⟨tg, iter, ifs, 0⟩] scope _ => blkC N sc scope (ownN N own) && noSet iter && (tgB it tg && chkIt B N it sc fb iter) && chkTg B N t (fun i => own.contains i) (relS scope sc) (blkF scope) tg &&
        chkC B N cs (relS scope sc) (blkF scope) ifs && chkE B N k (relS scope sc) (blkF scope) u && chkE B N a (relS scope sc) (blkF scope) v
    | _ => false
  | .dz a b, sc, fb, e => match e with
    | .Call (.Name x _) [.Call (.Name y _) [u, v] [] _] [] _ => bltB B sc x dictN && bltB B sc y zipN && noStar u && noStar v && chkE B N a sc fb u && chkE B N b sc fb v
    | _ => false
def chkEL (B : TB) (N : List Str) : EL → Scope → (Str → Bool) → List Expr → Bool
  | .nil, _, _, l => l.isEmpty
  | .cons a r, sc, fb, l => match l with
    | v :: t => noStar v && chkE B N a sc fb v && chkEL B N r sc fb t
    | [] => false
def chkB (B : TB) (N : List Str) : EL → Scope → (Str → Bool) → List Expr → Bool
  | .nil, _, _, _ => false
  | .cons a .nil, sc, fb, l => match l with
    | [v] => chkE B N a sc fb v
    | _ => false
  | .cons a (.cons b r), sc, fb, l => match l with
    | v :: w :: t => chkE B N a sc fb v && chkB B N (.cons b r) sc fb (w :: t)
    | _ => false
def chkO (B : TB) (N : List Str) : EO → Scope → (Str → Bool) → Option Expr → Bool
  | .no, _, _, o => o.isNone
  | .so a, sc, fb, o => match o with
    | some v => chkE B N a sc fb v
    | none => false
def chkC (B : TB) (N : List Str) : EO → Scope → (Str → Bool) → List Expr → Bool
  | .no, _, _, o => o.isEmpty
  | .so a, sc, fb, o => match o with
    | [v] => chkT B N a sc fb v
    | _ => false
def chkT (B : TB) (N : List Str) : E → Scope → (Str → Bool) → Expr → Bool
  | .bop d es, sc, fb, e => match e with
    | .BoolOp p l _ => boB d p && chkBT B N es sc fb l
    | _ => false
  | .not a, sc, fb, e => match e with
    | .UnaryOp .Not x _ => chkT B N a sc fb x
    | _ => false
  | .var i, sc, fb, e => match e with
    | .Name x _ => varB N sc i x
    | _ => false
  | .cmp o a b, sc, fb, e => match e with
    | .Compare x [p] [y] _ => copB o p && noSet y && chkE B N a sc fb x && chkE B N b sc fb y
    | _ => false
  | .chain o p a b c, sc, fb, e => match e with
    | .Compare x [u, v] [y, z] _ => copB o u && copB p v && noSet z && chkE B N a sc fb x && chkE B N b sc fb y && chkE B N c sc fb z
    | _ => false
  | .isK ng a v, sc, fb, e => match e with
    | .Compare x [p] [.Constant c _ _] _ => isB ng p && kB v c && chkE B N a sc fb x
    | _ => false
  | .call f es, sc, fb, e => match e with
    | .Call (.Name x _) l [] _ => fnB B sc f x && chkEL B N es sc fb l
    | _ => false
  | .bi b es, sc, fb, e => match e with
    | .Call (.Name x _) (a :: l) [] _ => bltB B sc x (biN b) && chkEL B N es sc fb (a :: l)
    | _ => false
  | .isi a ts, sc, fb, e => match e with
    | .Call (.Name x _) [v, .Name y _] [] _ => (match ts with
      | [t] => bltB B sc x isiN && bltB B sc y (tyN t) && noStar v && chkE B N a sc fb v
      | _ => false)
    | .Call (.Name x _) [v, .Tuple [.Name y _, .Name z _] _ _] [] _ => (match ts with
      | [t, u] => bltB B sc x isiN && bltB B sc y (tyN t) && bltB B sc z (tyN u) && noStar v && chkE B N a sc fb v
      | _ => false)
    | _ => false
  | .idx a b, sc, fb, e => match e with
    | .Subscript x y _ => noSlice y && chkE B N a sc fb x && chkE B N b sc fb y
    | _ => false
  | .bad, _, _, _ => true
  | .iso a c, sc, fb, e => match e with
    | .Call (.Name x _) [v, .Name y _] [] _ => bltB B sc x isiN && decide (y = c) && gloB sc y && B.cl.contains c && noStar v && chkE B N a sc fb v
    | _ => false
  | .eqo f c a b, sc, fb, e => match e with
    | .Compare x [.Eq] [y] _ => noSet y && B.eqs.contains (f, c) && chkE B N a sc fb x && chkE B N b sc fb y
    | _ => false
  | _, _, _, _ => false
def chkBT (B : TB) (N : List Str) : EL → Scope → (Str → Bool) → List Expr → Bool
  | .nil, _, _, _ => false
  | .cons a .nil, sc, fb, l => match l with
    | [v] => chkT B N a sc fb v
    | _ => false
  | .cons a (.cons b r), sc, fb, l => match l with
    | v :: w :: t => chkT B N a sc fb v && chkBT B N (.cons b r) sc fb (w :: t)
    | _ => false
def chkTg (B : TB) (N : List Str) : Tg → (Nat → Bool) → Scope → (Str → Bool) → Expr → Bool
  | .nm i, ok, sc, fb, e => match e with
    | .Name x _ => ok i && stoB N sc fb i x
    | _ => false
  | .tp ts, ok, sc, fb, e => match e with
    | .Tuple l _ _ => l.all noStar && chkTgL B N ts ok sc fb l
    | _ => false
  | .sb o i, ok, sc, fb, e => match e with
    | .Subscript x y _ => noSlice y && chkE B N o sc fb x && chkE B N i sc fb y
    | _ => false
def chkTgL (B : TB) (N : List Str) : TgL → (Nat → Bool) → Scope → (Str → Bool) → List Expr → Bool
  | .nil, _, _, _, l => l.isEmpty
  | .cons t r, ok, sc, fb, l => match l with
    | v :: q => noStar v && chkTg B N t ok sc fb v && chkTgL B N r ok sc fb q
    | [] => false
def chkIt (B : TB) (N : List Str) : Ir → Scope → (Str → Bool) → Expr → Bool
  | .vl a, sc, fb, e => chkE B N a sc fb e
  | .rg1 a, sc, fb, e => match e with
    | .Call (.Name x _) [v] [] _ => bltB B sc x rangeN && noStar v && chkE B N a sc fb v
    | _ => false
  | .rg2 a b, sc, fb, e => match e with
    | .Call (.Name x _) [v, w] [] _ => bltB B sc x rangeN && noStar v && noStar w && chkE B N a sc fb v && chkE B N b sc fb w
    | _ => false
  | .en a, sc, fb, e => match e with
    | .Call (.Name x _) [v] [] _ => bltB B sc x enumN && noStar v && chkE B N a sc fb v
    | _ => false
  | .its a, sc, fb, e => match e with
    | .Call (.Attribute v g p) [] [] q => decide (g = "items") && noSuper v && (p.endLine == q.line) && chkE B N a sc fb v
    | _ => false
  | .vas a, sc, fb, e => match e with
    | .Call (.Attribute v g p) [] [] q => decide (g = "values") && noSuper v && (p.endLine == q.line) && chkE B N a sc fb v
    | _ => false
  | .zp a b, sc, fb, e => match e with
    | .Call (.Name x _) [v, w] [] _ => bltB B sc x zipN && noStar v && noStar w && chkE B N a sc fb v && chkE B N b sc fb w
    | _ => false
end
/-- two names stored at once, changed in place -/
def parB (sc : Scope) (x y : Str) (px py : Pos) (a b : Expr) : Bool := locB sc x && locB sc y && (py.line == px.line) && decide (x ≠ y) && !(foldedForSure 8 a && foldedForSure 8 b) && !(constantsAlone 8 a && constantsAlone 8 b) && noStar a && noStar b
/-- a comprehension stored in a name on its line -/
def swpB (sc scope : Scope) (y : Str) (py pos : Pos) : Bool := locB sc y && (py.line == pos.line) && !(scope.names.any fun (n, k) => n == y && (k == .local || k == .cell))
/-- three names stored at once -/
def par3B (sc : Scope) (x y z : Str) (px py pz : Pos) (a b c : Expr) : Bool := locB sc x && locB sc y && locB sc z && (py.line == px.line) && (pz.line == px.line) && decide (x ≠ y) && decide (x ≠ z) && decide (y ≠ z) &&
  !(foldedForSure 8 a && foldedForSure 8 b && foldedForSure 8 c) && !(constantsAlone 8 a && constantsAlone 8 b && constantsAlone 8 c) && noStar a && noStar b && noStar c
/-- two names, one of them a cell: stored by the tuple -/
def celTwo (sc : Scope) : Expr → Expr → Bool
  | .Tuple [.Name x _, .Name y _] _ _, .Tuple [_, _] _ _ => celB sc x || celB sc y
  | _, _ => false
def notVal : E → Bool
  | .val _ => false
  | _ => true
mutual
def chkS (B : TB) (N : List Str) (sc : Scope) : S → Stmt → Bool
  | .asg t e, s => match s with
    | .Assign [tg] v p => (match t, tg with
      | .nm i, .Name x q => stoB N sc (fun _ => true) i x && chkE B N e sc (fun _ => true) v && (match v with
        | .ListComp _ _ scope lp => (notVal e && swpB sc scope x q lp) || celB sc x
        | .DictComp _ _ _ scope lp => (notVal e && swpB sc scope x q lp) || celB sc x
        | v => noComp v)
      | t, tg => noComp v && noStar tg && ((notTup tg || notTup v) || celTwo sc tg v) && chkE B N e sc (fun _ => true) v && chkTg B N t (fun _ => true) sc (fun _ => true) tg)
    | _ => false
  | .par i j a b, s => match s with
    | .Assign [.Tuple [.Name x px, .Name y py] _ _] (.Tuple [u, v] _ _) _ => decide (N[i]? = some x) && decide (N[j]? = some y) && decide (i ≠ j) && parB sc x y px py u v && chkE B N a sc (fun _ => true) u && chkE B N b sc (fun _ => true) v
    | _ => false
  | .ex e, s => match s with
    | .Expr v _ => noComp v && chkE B N e sc (fun _ => true) v
    | _ => false
  | .ret e, s => match s with
    | .Return (some v) _ => chkE B N e sc (fun _ => true) v
    | _ => false
  | .retN, s => match s with
    | .Return none _ => true
    | _ => false
  | .ifs c a b, s => match s with
    | .If v l r _ => chkT B N c sc (fun _ => true) v && chkSL B N sc a l && chkSL B N sc b r
    | _ => false
  | .fors t it b, s => match s with
    | .For tg iter l [] _ => noSet iter && (tgB it tg && chkIt B N it sc (fun _ => true) iter) && chkTg B N t (fun _ => true) sc (fun _ => true) tg && chkSL B N sc b l
    | _ => false
  | .whl c b, s => match s with
    | .While v l [] _ => chkT B N c sc (fun _ => true) v && chkSL B N sc b l
    | _ => false
  | .pas, s => match s with
    | .Pass _ => true
    | .Expr (.Constant (.str _) _ _) _ => true
    | _ => false
  | .bad, _ => true
  | .brk, s => match s with
    | .Break _ => true
    | _ => false
  | .cnt, s => match s with
    | .Continue _ => true
    | _ => false
  | .setf c o f e, s => match s with
    | .Assign [.Attribute u g _] v _ => decide (g = f) && B.fl.contains (c, f) && noComp v && chkE B N o sc (fun _ => true) u && chkE B N e sc (fun _ => true) v
    | _ => false
  | .aug sb i e, s => match s with
    | .AugAssign (.Name x _) op v _ => (match sb, op with
      | true, .Sub => true
      | false, .Add => true
      | _, _ => false) && stoB N sc (fun _ => true) i x && chkE B N e sc (fun _ => true) v
    | _ => false
  | .par3 i j k a b c, s => match s with
    | .Assign [.Tuple [.Name x px, .Name y py, .Name z pz] _ _] (.Tuple [u, v, w] _ _) _ => decide (N[i]? = some x) && decide (N[j]? = some y) && decide (N[k]? = some z) && decide (i ≠ j) && decide (i ≠ k) && decide (j ≠ k) && par3B sc x y z px py pz u v w &&
        chkE B N a sc (fun _ => true) u && chkE B N b sc (fun _ => true) v && chkE B N c sc (fun _ => true) w
    | _ => false
def chkSL (B : TB) (N : List Str) (sc : Scope) : SL → List Stmt → Bool
  | .nil, l => l.isEmpty
  | .cons s r, l => match l with
    | v :: t => chkS B N sc s v && chkSL B N sc r t
    | [] => false
end
end MP
/-! MP: a term that passes the test is walked. -/
namespace MP
open PySem PySem.Spec PyProof.Rows L2
theorem bt {a b : Bool} (h : (a && b) = true) : a = true ∧ b = true := Bool.and_eq_true_iff.mp h
structure SameM (X Y : Cx) : Prop where
  prog : Y.prog = X.prog
  w : Y.w = X.w
  K : Y.K = X.K
  mg : Y.mg = X.mg
  base : Y.base = X.base
  A : Y.A = X.A
theorem SameM.refl {X : Cx} : SameM X X := ⟨rfl, rfl, rfl, rfl, rfl, rfl⟩
/-- a context in which terms over these slots are walked -/
structure GX (B : TB) (F : Nat → List MV → M MV) (N : List Str) (sc : Scope) (fb : Str → Bool) (X : Cx) : Prop where
  hN : X.N = N
  nd : X.N.Nodup
  hsc : X.env.scope = sc
  calm : X.calm = true
  gd : X.A.guards = some []
  sm : SmOk X
  hu : X.A.units + 65 < cLine
  hfb : ∀ x, fb x = true → X.fn x = true
  con : ∀ p ∈ B.cs, ConOk X.K X.mg p.1 p.2
  fun_ : ∀ f d, B.fns[f]? = some d → d.c = none → ∃ a, X.mg d.x = some (.ref a) ∧ PySem.W.keepIn X.K (.ref a) = true ∧ (∀ Y, SameM X Y → CallM Y a (F f)) ∧ ∀ n ks arr, (f, n, ks, arr) ∈ B.ks → ∀ Y, SameM X Y → CallK Y a n ks arr (F f)
  blt : ∀ b ∈ B.bs, X.mg b = none
  cls : ∀ c ∈ B.cl, ClI X.K c ∧ X.mg c = some (.ref (He.ga X.K c))
  fld : ∀ p ∈ B.fl, Cls X.K (He.ga X.K p.1) ∧ NoAttr X.K (He.ga X.K p.1) p.2
  cc : ∀ p ∈ B.cc, X.mg p.1 = some (.ref (He.ga X.K p.1)) ∧ CcOk X.K p.1 p.2.1 p.2.2
  mks : ∀ p ∈ B.mks, X.mg p.2 = some (.ref (He.ga X.K p.2)) ∧ PySem.W.keepIn X.K (.ref (He.ga X.K p.2)) = true ∧ ∀ Y, SameM X Y → MkM Y p.2 (F p.1)
  eqs : ∀ p ∈ B.eqs, ∃ a, PySem.W.findIn X.K (.ref (He.ga X.K p.2)) "__eq__" = some (some (.ref a)) ∧ PySem.W.isFn X.K (.ref a) = true ∧ ∀ Y, SameM X Y → CallM Y a (F p.1)
section
variable {B : TB} {F : Nat → List MV → M MV} {W : Nat} {N : List Str} {sc : Scope} {fb : Str → Bool} {X : Cx}
theorem GX.blk (G : GX B F N sc fb X) (scope : Scope) (s : Shared) (H : Hp) (C : Addr) (cl : List (Str × Addr)) (fp : List Addr) : GX B F N (relS scope sc) (blkF scope) (X.blk s H scope (compEnvC scope cl C X.env) fp) where
  hN := G.hN
  nd := G.nd
  hsc := by rw [← G.hsc]; rfl
  calm := G.calm
  gd := G.gd
  sm := G.sm
  hu := G.hu
  hfb := fun x h => h
  con := G.con
  fun_ := fun f d h hc => by
    obtain ⟨a, h1, h2, h3, h4⟩ := G.fun_ f d h hc
    exact ⟨a, h1, h2, fun Y s => h3 Y ⟨s.prog, s.w, s.K, s.mg, s.base, s.A⟩, fun n ks arr hk Y s => h4 n ks arr hk Y ⟨s.prog, s.w, s.K, s.mg, s.base, s.A⟩⟩
  blt := G.blt
  cls := G.cls
  fld := G.fld
  cc := G.cc
  mks := fun p hp => by
    obtain ⟨h1, h2, h3⟩ := G.mks p hp
    exact ⟨h1, h2, fun Y s => h3 Y ⟨s.prog, s.w, s.K, s.mg, s.base, s.A⟩⟩
  eqs := fun p hp => by
    obtain ⟨a, h1, h2, h3⟩ := G.eqs p hp
    exact ⟨a, h1, h2, fun Y s => h3 Y ⟨s.prog, s.w, s.K, s.mg, s.base, s.A⟩⟩
theorem notB {b : Bool} (h : (!b) = true) : b = false := by
  cases b with
  | false => rfl
  | true => cases h
theorem GX.glo (G : GX B F N sc fb X) {x : Str} (h : gloB sc x = true) : Gl X x ∧ (x == ("__debug__" : Str)) = false := by
  unfold gloB at h
  split at h
  · rename_i e
    exact ⟨by show X.env.scope.names.lookup x = _; rw [G.hsc]; exact e, notB h⟩
  · cases h
theorem GX.vis (G : GX B F N sc fb X) {x : Str} (h : visB sc x = true) : Vis X.env.scope x := by
  rw [G.hsc]
  unfold visB at h
  split at h
  · rename_i e; exact .inl e
  · rename_i e; exact .inr (.inl e)
  · rename_i e; exact .inr (.inr e)
  · cases h
theorem loc_of {x : Str} (h : locB sc x = true) : sc.names.lookup x = some .local := by
  unfold locB at h
  split at h
  · assumption
  · cases h
theorem cel_of {x : Str} (h : celB sc x = true) : sc.names.lookup x = some .cell := by
  unfold celB at h
  split at h
  · assumption
  · cases h
theorem GX.sto (G : GX B F N sc fb X) {i : Nat} {x : Str} (h : stoB N sc fb i x = true) : X.N[i]? = some x ∧ Loc X.env.scope x ∧ (X.fn x = true ∨ X.env.scope.names.lookup x = some .local) := by
  obtain ⟨h1, h2⟩ := bt h
  refine ⟨by rw [G.hN]; exact of_decide_eq_true h1, ?_⟩
  rw [G.hsc]
  rcases Bool.or_eq_true_iff.mp h2 with h2 | h2
  · exact ⟨.inl (loc_of h2), .inr (loc_of h2)⟩
  · obtain ⟨h3, h4⟩ := bt h2
    exact ⟨.inr (cel_of h3), .inl (G.hfb x h4)⟩
theorem GX.var (G : GX B F N sc fb X) {i : Nat} {x : Str} {pos : Pos} (h : varB N sc i x = true) : PE X (.Name x pos) (tE X.K fun ρ => match ρ[i]? with
    | some (some v) => .ret v
    | _ => .stk) := by
  obtain ⟨h, h4⟩ := bt h
  obtain ⟨h, h3⟩ := bt h
  obtain ⟨h1, h2⟩ := bt h
  exact l_var (by rw [G.hN]; exact of_decide_eq_true h1) (G.vis h2) (notB h3) (notB h4)
mutual
theorem mv_eq : ∀ {a b : MV}, mvB a b = true → a = b
  | .non, b, h => by cases b <;> first | rfl | cases h
  | .bl x, b, h => by
    cases b <;> first | cases h | skip
    rw [eq_of_beq (show (x == _) = true from h)]
  | .int x, b, h => by
    cases b <;> first | cases h | skip
    rw [of_decide_eq_true (show decide (x = _) = true from h)]
  | .str x, b, h => by
    cases b <;> first | cases h | skip
    rw [of_decide_eq_true (show decide (x = _) = true from h)]
  | .tup x, b, h => by
    cases b <;> first | cases h | skip
    rw [mvs_eq (show mvsB x _ = true from h)]
  | .ro x, b, h => by
    cases b <;> first | cases h | skip
    rw [mvs_eq (show mvsB x _ = true from h)]
  | .ref x, b, h => by cases b <;> cases h
  | .rod _ _ _, b, h => by cases b <;> cases h
  | .obj _ _ _, b, h => by cases b <;> cases h
theorem mvs_eq : ∀ {a b : List MV}, mvsB a b = true → a = b
  | [], b, h => by cases b <;> first | rfl | cases h
  | x :: xs, b, h => by
    cases b with
    | nil => cases h
    | cons y ys =>
      obtain ⟨h1, h2⟩ := bt (show (mvB x y && mvsB xs ys) = true from h)
      rw [mv_eq h1, mvs_eq h2]
end
theorem op_eq {o : Bop} {p : Operator} (h : opB o p = true) : p = aBop o := by
  cases o <;> cases p <;> first | rfl | cases h
theorem cop_eq {o : Cop} {p : CmpOp} (h : copB o p = true) : p = aCop o := by
  cases o <;> cases p <;> first | rfl | cases h
theorem is_eq {o : Bool} {p : CmpOp} (h : isB o p = true) : p = isKop o := by
  cases o <;> cases p <;> first | rfl | cases h
theorem bo_eq {o : Bool} {p : BoolOp} (h : boB o p = true) : p = aB o := by
  cases o <;> cases p <;> first | rfl | cases h
theorem k_eq {v : MV} {c : Const} (h : kB v c = true) : (v = .non ∧ c = .none) ∨ ∃ b, v = .bl b ∧ c = .bool b := by
  unfold kB at h
  split at h
  · exact .inl ⟨rfl, rfl⟩
  · exact .inr ⟨_, rfl, by rw [eq_of_beq h]⟩
  · cases h
theorem lit_eq {v : MV} {c : Const} (h : litB v c = true) : cK v = some c := by
  unfold litB at h
  split at h
  · rename_i e; rw [e, of_decide_eq_true h]
  · cases h
theorem GX.bl (G : GX B F N sc fb X) {x y : Str} (h : bltB B sc x y = true) : x = y ∧ Gl X y ∧ X.mg y = none := by
  obtain ⟨h, h3⟩ := bt h
  obtain ⟨h1, h2⟩ := bt h
  have e := of_decide_eq_true h1
  subst e
  exact ⟨rfl, (G.glo h2).1, G.blt _ (List.contains_iff_mem.mp h3)⟩
theorem GX.fn (G : GX B F N sc fb X) {f : Nat} {x : Str} (h : fnB B sc f x = true) : Gl X x ∧ (x == ("__debug__" : Str)) = false ∧ ∃ a, X.mg x = some (.ref a) ∧ PySem.W.keepIn X.K (.ref a) = true ∧ CallM X a (F f) ∧ ∀ n ks arr, (f, n, ks, arr) ∈ B.ks → CallK X a n ks arr (F f) := by
  obtain ⟨h1, h2⟩ := bt h
  split at h2
  · rename_i d e
    obtain ⟨h2, h3⟩ := bt h2
    have ex := of_decide_eq_true h2
    subst ex
    obtain ⟨a, m1, m2, m3, m4⟩ := G.fun_ _ _ e (Option.isNone_iff_eq_none.mp h3)
    exact ⟨(G.glo h1).1, (G.glo h1).2, a, m1, m2, m3 X .refl, fun n ks arr hk => m4 n ks arr hk X .refl⟩
  · cases h2
/-! ### lengths -/
def lenEL : EL → Nat
  | .nil => 0
  | .cons _ r => lenEL r + 1
theorem evEL_len : ∀ {es : EL} {ρ : Env} {h : MH} {ys : List MV} {h' : MH}, evEL F W es ρ h = .ok ys h' → ys.length = lenEL es
  | .nil, ρ, h, ys, h', e => by
    have e : M.ret ([] : List MV) h = .ok ys h' := e
    cases e
    rfl
  | .cons a r, ρ, h, ys, h', e => by
    have e : ((evE F W a ρ).bnd fun x => (evEL F W r ρ).bnd fun xs => M.ret (x :: xs)) h = .ok ys h' := e
    unfold M.bnd at e
    cases e1 : evE F W a ρ h with
    | ok x h1 =>
      rw [e1] at e
      dsimp only at e
      cases e2 : evEL F W r ρ h1 with
      | ok xs h2 =>
        rw [e2] at e
        cases e
        show xs.length + 1 = _
        rw [evEL_len e2]
        rfl
      | exc _ _ => rw [e2] at e; cases e
      | stuck => rw [e2] at e; cases e
    | exc _ _ => rw [e1] at e; cases e
    | stuck => rw [e1] at e; cases e
def lenTg : TgL → Nat
  | .nil => 0
  | .cons _ r => lenTg r + 1
theorem asgL_len : ∀ {ts : TgL} {xs : List MV} {ρ : Env} {h : MH} {ρ' : Env} {h' : MH}, asgL F W ts xs ρ h = .ok ρ' h' → xs.length = lenTg ts
  | .nil, [], _, _, _, _, _ => rfl
  | .nil, _ :: _, _, _, _, _, e => by cases e
  | .cons _ _, [], _, _, _, _, e => by cases e
  | .cons t r, x :: xs, ρ, h, ρ', h', e => by
    have e : ((asgT F W t x ρ).bnd fun ρ' => asgL F W r xs ρ') h = .ok ρ' h' := e
    unfold M.bnd at e
    cases e1 : asgT F W t x ρ h with
    | ok ρ1 h1 =>
      rw [e1] at e
      dsimp only at e
      show xs.length + 1 = _
      rw [asgL_len e]
      rfl
    | exc _ _ => rw [e1] at e; cases e
    | stuck => rw [e1] at e; cases e
theorem chkEL_len : ∀ {es : EL} {l : List Expr}, chkEL B N es sc fb l = true → l.length = lenEL es ∧ l.all noStar = true
  | .nil, [], _ => ⟨rfl, rfl⟩
  | .nil, _ :: _, h => by cases h
  | .cons a r, [], h => by cases h
  | .cons a r, v :: t, h => by
    obtain ⟨h, h3⟩ := bt (show (noStar v && chkE B N a sc fb v && chkEL B N r sc fb t) = true from h)
    obtain ⟨h1, h2⟩ := bt h
    obtain ⟨i1, i2⟩ := chkEL_len h3
    exact ⟨by show t.length + 1 = _; rw [i1]; rfl, by rw [List.all_cons, h1, i2]; rfl⟩
theorem chkTgL_len {ok : Nat → Bool} : ∀ {es : TgL} {l : List Expr}, chkTgL B N es ok sc fb l = true → l.length = lenTg es
  | .nil, [], _ => rfl
  | .nil, _ :: _, h => by cases h
  | .cons a r, [], h => by cases h
  | .cons a r, v :: t, h => by
    obtain ⟨h, h3⟩ := bt (show (noStar v && chkTg B N a ok sc fb v && chkTgL B N r ok sc fb t) = true from h)
    show t.length + 1 = _
    rw [chkTgL_len h3]
    rfl
theorem kwOk_len : ∀ {kws : List Keyword} {ks : List Str}, kwOk ks kws = true → kws.length = ks.length
  | [], ks, h => by
    cases ks with
    | nil => rfl
    | cons _ _ => cases h
  | ⟨none, v, q⟩ :: r, ks, h => absurd h (by unfold kwOk; exact Bool.false_ne_true)
  | ⟨some n, v, q⟩ :: r, ks, h => by
    cases ks with
    | nil => cases h
    | cons k t =>
      have h : (decide (k = n) && kwOk t r) = true := h
      show r.length + 1 = t.length + 1
      rw [kwOk_len (bt h).2]
end
end MP
namespace MP
open PySem PySem.Spec PyProof.Rows L2
section
variable {B : TB} {F : Nat → List MV → M MV} {W : Nat} {N : List Str}
theorem own_map (own : List Nat) : (ownN N own).map (·.2) = own := by
  unfold ownN
  rw [List.map_map]
  exact List.map_id own
theorem lt_bl {X : Cx} {ea : Expr} {fb : Env → M Bool} (hp : plainTest ea = true) (ha : PE X ea (tE X.K fun ρ => (fb ρ).bnd fun k => .ret (MV.bl k))) : PT X ea (tT X.K fb) :=
  pt_imp (lt_val hp ha) fun σ H Q ⟨m, h, ρ, S, en, w⟩ => ⟨m, h, ρ, S, en, by
    have e : (((fb ρ).bnd fun k => M.ret (MV.bl k)).bnd truV) h = fb ρ h := by
      unfold M.bnd
      cases fb ρ h <;> rfl
    show WP _ _ ((((fb ρ).bnd fun k => M.ret (MV.bl k)).bnd truV) h) m H Q
    rw [e]
    exact w⟩
theorem lt_bl2 {X : Cx} {ea : Expr} {fa : Env → M MV} {f : MV → M Bool} (hp : plainTest ea = true) (ha : PE X ea (tE X.K fun ρ => (fa ρ).bnd fun x => (f x).bnd fun k => .ret (MV.bl k))) : PT X ea (tT X.K fun ρ => (fa ρ).bnd f) :=
  lt_bl hp (pe_imp ha fun σ H Q ⟨m, h, ρ, S, en, w⟩ => ⟨m, h, ρ, S, en, by
    have e : (((fa ρ).bnd f).bnd fun k => M.ret (MV.bl k)) h = ((fa ρ).bnd fun x => (f x).bnd fun k => M.ret (MV.bl k)) h := WP.bnd_bnd (K := X.K) (R := rV X.K) (h0 := h)
    show WP _ _ (((fa ρ).bnd fun x => (f x).bnd fun k => M.ret (MV.bl k)) h) m H Q
    rw [← e]
    exact w⟩)

theorem wp_assoc {K : PySem.W.Frag} {α β γ δ : Type} {R : List Addr → Hp → γ → δ → Prop} {x : M α} {f : α → M β} {g : β → M γ} {h : MH} {m : List Addr} {H : Hp} {Q : δ → Hp → Prop} (w : WP K R ((x.bnd fun a => (f a).bnd g) h) m H Q) : WP K R (((x.bnd f).bnd g) h) m H Q := by
  rw [WP.bnd_bnd (K := K) (R := R)]
  exact w
/-- what is to be shown of a term -/
structure QE (B : TB) (F : Nat → List MV → M MV) (W : Nat) (N : List Str) (t : E) : Prop where
  e : ∀ {sc : Scope} {fb : Str → Bool} {X : Cx} {e : Expr}, GX B F N sc fb X → chkE B N t sc fb e = true → PE X e (tE X.K (evE F W t))
  t : ∀ {sc : Scope} {fb : Str → Bool} {X : Cx} {e : Expr}, GX B F N sc fb X → chkT B N t sc fb e = true → PT X e (tT X.K (evT F W t))
def QEL (B : TB) (F : Nat → List MV → M MV) (W : Nat) (N : List Str) : EL → Prop
  | .nil => True
  | .cons a r => QE B F W N a ∧ QEL B F W N r
def QEO (B : TB) (F : Nat → List MV → M MV) (W : Nat) (N : List Str) : EO → Prop
  | .no => True
  | .so a => QE B F W N a
def QTg (B : TB) (F : Nat → List MV → M MV) (W : Nat) (N : List Str) (t : Tg) : Prop := ∀ {ok : Nat → Bool} {c : L2.St → L2.St → Prop} {sc : Scope} {fb : Str → Bool} {X : Cx} {e : Expr}, CRel c → (∀ i, ok i = true → ∀ σ v, c σ (σ.set i v)) → GX B F N sc fb X → chkTg B N t ok sc fb e = true → PG X e (tGq X.K c (asgT F W t))
def QTgL (B : TB) (F : Nat → List MV → M MV) (W : Nat) (N : List Str) (t : TgL) : Prop := ∀ {ok : Nat → Bool} {c : L2.St → L2.St → Prop} {sc : Scope} {fb : Str → Bool} {X : Cx} {l : List Expr}, CRel c → (∀ i, ok i = true → ∀ σ v, c σ (σ.set i v)) → GX B F N sc fb X → chkTgL B N t ok sc fb l = true → PGs X l (tGqs X.K c (asgL F W t))
def QIr (B : TB) (F : Nat → List MV → M MV) (W : Nat) (N : List Str) (t : Ir) : Prop := ∀ {sc : Scope} {fb : Str → Bool} {X : Cx} {tg e : Expr}, tgB t tg = true → GX B F N sc fb X → chkIt B N t sc fb e = true → PI X tg e (tI X.K (evIt F W t))

theorem okEL : ∀ (t : EL) (q : QEL B F W N t) {sc : Scope} {fb : Str → Bool} {X : Cx} {l : List Expr}, GX B F N sc fb X → chkEL B N t sc fb l = true → PA X l (tA X.K (evEL F W t))
  | .nil, q, sc, fb, X, l, G, h => by
    cases l with
    | nil => exact l_nil
    | cons _ _ => cases h
  | .cons a r, q, sc, fb, X, l, G, h => by
    cases l with
    | nil => cases h
    | cons v t =>
      obtain ⟨h, h3⟩ := bt (show (noStar v && chkE B N a sc fb v && chkEL B N r sc fb t) = true from h)
      obtain ⟨h1, h2⟩ := bt h
      exact l_cons h1 (q.1.e G h2) (okEL r q.2 G h3)
theorem okK : ∀ (t : EL) (q : QEL B F W N t) {sc : Scope} {fb : Str → Bool} {X : Cx} {l : List Keyword}, GX B F N sc fb X → chkEL B N t sc fb (l.map (·.value)) = true → PK X l (tA X.K (evEL F W t))
  | .nil, q, sc, fb, X, l, G, h => by
    cases l with
    | nil => exact l_knil
    | cons _ _ => cases h
  | .cons a r, q, sc, fb, X, l, G, h => by
    cases l with
    | nil => cases h
    | cons k t =>
      obtain ⟨nm, v, ps⟩ := k
      obtain ⟨h, h3⟩ := bt (show (noStar v && chkE B N a sc fb v && chkEL B N r sc fb (t.map (·.value))) = true from h)
      obtain ⟨h1, h2⟩ := bt h
      exact l_kcons (q.1.e G h2) (okK r q.2 G h3)
theorem okB (d : Bool) : ∀ (t : EL) (q : QEL B F W N t) {sc : Scope} {fb : Str → Bool} {X : Cx} {l : List Expr} {pos : Pos}, GX B F N sc fb X → chkB B N t sc fb l = true → PE X (.BoolOp (aB d) l pos) (tE X.K (evB F W d t))
  | .nil, q, sc, fb, X, l, pos, G, h => by cases h
  | .cons a .nil, q, sc, fb, X, l, pos, G, h => by
    cases l with
    | nil => cases h
    | cons v t =>
      cases t with
      | nil => exact l_b1 d (q.1.e G h)
      | cons _ _ => cases h
  | .cons a (.cons b r), q, sc, fb, X, l, pos, G, h => by
    cases l with
    | nil => cases h
    | cons v t =>
      cases t with
      | nil => cases h
      | cons w t =>
        obtain ⟨h1, h2⟩ := bt (show (chkE B N a sc fb v && chkB B N (.cons b r) sc fb (w :: t)) = true from h)
        exact l_b2 d (q.1.e G h1) (okB d (.cons b r) q.2 G h2)
theorem okBT (d : Bool) : ∀ (t : EL) (q : QEL B F W N t) {sc : Scope} {fb : Str → Bool} {X : Cx} {l : List Expr} {pos : Pos}, GX B F N sc fb X → chkBT B N t sc fb l = true → PW X (.BoolOp (aB d) l pos) (tT X.K (evBT F W d t))
  | .nil, q, sc, fb, X, l, pos, G, h => by cases h
  | .cons a .nil, q, sc, fb, X, l, pos, G, h => by
    cases l with
    | nil => cases h
    | cons v t =>
      cases t with
      | nil => exact lw_1 d (q.1.t G h)
      | cons _ _ => cases h
  | .cons a (.cons b r), q, sc, fb, X, l, pos, G, h => by
    cases l with
    | nil => cases h
    | cons v t =>
      cases t with
      | nil => cases h
      | cons w t =>
        obtain ⟨h1, h2⟩ := bt (show (chkT B N a sc fb v && chkBT B N (.cons b r) sc fb (w :: t)) = true from h)
        exact lw_2 d (q.1.t G h1) (okBT d (.cons b r) q.2 G h2)
theorem okO (t : EO) (q : QEO B F W N t) {sc : Scope} {fb : Str → Bool} {X : Cx} {l : Option Expr} (G : GX B F N sc fb X) (h : chkO B N t sc fb l = true) : PO X l (tO X.K (evO F W t)) := by
  cases t with
  | no =>
    cases l with
    | none => exact lo_no
    | some _ => cases h
  | so a =>
    cases l with
    | none => cases h
    | some _ => exact lo_so (QE.e q G h)
theorem okC (t : EO) (q : QEO B F W N t) {sc : Scope} {fb : Str → Bool} {X : Cx} {l : List Expr} (G : GX B F N sc fb X) (h : chkC B N t sc fb l = true) : PTs X l (tT X.K (evC F W t)) := by
  cases t with
  | no =>
    cases l with
    | nil => exact lts_nil
    | cons _ _ => cases h
  | so a =>
    cases l with
    | nil => cases h
    | cons v t =>
      cases t with
      | nil => exact lts_one (QE.t q G h)
      | cons _ _ => cases h
theorem okCall (f : Nat) (es : EL) (q : QEL B F W N es) {sc : Scope} {fb : Str → Bool} {X : Cx} {x : Str} {l : List Expr} {p pos : Pos} (G : GX B F N sc fb X) (h1 : fnB B sc f x = true) (h2 : chkEL B N es sc fb l = true) : PE X (.Call (.Name x p) l [] pos) (tE X.K fun ρ => (evEL F W es ρ).bnd fun xs => F f xs) := by
  obtain ⟨hg, hd, a, hm, hk, hc, _⟩ := G.fn h1
  have hl := okEL es q G h2
  have ll := chkEL_len h2
  cases l with
  | nil =>
    cases es with
    | nil => exact l_call0 hg hd hm hk hc
    | cons _ _ => cases ll.1
  | cons v t =>
    obtain ⟨s1, s2⟩ := bt (show (noStar v && t.all noStar) = true from ll.2)
    exact l_call s1 s2 hg hd hm hk hc hl
theorem okBi (b : Bi) (es : EL) (q : QEL B F W N es) {sc : Scope} {fb : Str → Bool} {X : Cx} {x : Str} {v : Expr} {l : List Expr} {p pos : Pos} (G : GX B F N sc fb X) (h1 : bltB B sc x (biN b) = true) (h2 : chkEL B N es sc fb (v :: l) = true) : PE X (.Call (.Name x p) (v :: l) [] pos) (tE X.K fun ρ => (evEL F W es ρ).bnd (biV b)) := by
  obtain ⟨e1, g1, m1⟩ := G.bl h1
  have hl := okEL es q G h2
  have ll := chkEL_len h2
  obtain ⟨s1, s2⟩ := bt (show (noStar v && l.all noStar) = true from ll.2)
  rw [e1]
  exact l_bi b G.gd G.sm G.hu G.calm s1 s2 g1 m1 hl

theorem qe_var (i : Nat) : QE B F W N (.var i) := by
  refine ⟨fun {sc fb X e} G h => ?_, fun {sc fb X e} G h => ?_⟩
  · unfold chkE at h
    split at h
    · exact G.var h
    · cases h
  · unfold chkT at h
    split at h
    · exact lt_val rfl (G.var h)
    · cases h
theorem qe_lit (v : MV) : QE B F W N (.lit v) := by
  refine ⟨fun {sc fb X e} G h => ?_, fun {sc fb X e} G h => ?_⟩
  · unfold chkE at h
    split at h
    · exact l_lit (lit_eq h)
    · cases h
  · cases h
theorem qe_glo (x : Str) (v : MV) : QE B F W N (.glo x v) := by
  refine ⟨fun {sc fb X e} G h => ?_, fun {sc fb X e} G h => ?_⟩
  · unfold chkE at h
    split at h
    · obtain ⟨h, h3⟩ := bt h
      obtain ⟨h1, h2⟩ := bt h
      have ex := of_decide_eq_true h1
      subst ex
      obtain ⟨p, hp, h4⟩ := List.any_eq_true.mp h3
      obtain ⟨h5, h6⟩ := bt h4
      have c := G.con p hp
      rw [of_decide_eq_true h5, mv_eq h6] at c
      exact l_glo (G.glo h2).1 (G.glo h2).2 c
    · cases h
  · cases h
theorem qe_tup (es : EL) (qes : QEL B F W N es) : QE B F W N (.tup es) := by
  refine ⟨fun {sc fb X e} G h => ?_, fun {sc fb X e} G h => ?_⟩
  · unfold chkE at h
    split at h
    · exact l_tup (okEL es qes G h)
    · cases h
  · cases h
theorem qe_lst (es : EL) (qes : QEL B F W N es) : QE B F W N (.lst es) := by
  refine ⟨fun {sc fb X e} G h => ?_, fun {sc fb X e} G h => ?_⟩
  · unfold chkE at h
    split at h
    · exact l_lst (okEL es qes G h)
    · cases h
  · cases h
theorem qe_bin (o : Bop) (a b : E) (qa : QE B F W N a) (qb : QE B F W N b) : QE B F W N (.bin o a b) := by
  refine ⟨fun {sc fb X e} G h => ?_, fun {sc fb X e} G h => ?_⟩
  · unfold chkE at h
    split at h
    · obtain ⟨h, h3⟩ := bt h
      obtain ⟨h1, h2⟩ := bt h
      rw [op_eq h1]
      exact l_bin o (qa.e G h2) (qb.e G h3)
    · cases h
  · cases h
theorem qe_neg (a : E) (qa : QE B F W N a) : QE B F W N (.neg a) := by
  refine ⟨fun {sc fb X e} G h => ?_, fun {sc fb X e} G h => ?_⟩
  · unfold chkE at h
    split at h
    · exact l_neg (qa.e G h)
    · cases h
  · cases h
theorem qe_cmp (o : Cop) (a b : E) (qa : QE B F W N a) (qb : QE B F W N b) : QE B F W N (.cmp o a b) := by
  refine ⟨fun {sc fb X e} G h => ?_, fun {sc fb X e} G h => ?_⟩
  · unfold chkE at h
    split at h
    · obtain ⟨h, h4⟩ := bt h
      obtain ⟨h, h3⟩ := bt h
      obtain ⟨h1, h2⟩ := bt h
      rw [cop_eq h1]
      exact l_cmp G.sm G.hu o h2 (qa.e G h3) (qb.e G h4)
    · cases h
  · unfold chkT at h
    split at h
    · obtain ⟨h, h4⟩ := bt h
      obtain ⟨h, h3⟩ := bt h
      obtain ⟨h1, h2⟩ := bt h
      rw [cop_eq h1]
      exact lt_cmp G.sm G.hu o h2 (qa.e G h3) (qb.e G h4)
    · cases h
theorem qe_chain (o p : Cop) (a b c : E) (qa : QE B F W N a) (qb : QE B F W N b) (qc : QE B F W N c) : QE B F W N (.chain o p a b c) := by
  refine ⟨fun {sc fb X e} G h => ?_, fun {sc fb X e} G h => ?_⟩
  · unfold chkE at h
    split at h
    · obtain ⟨h, h6⟩ := bt h
      obtain ⟨h, h5⟩ := bt h
      obtain ⟨h, h4⟩ := bt h
      obtain ⟨h, h3⟩ := bt h
      obtain ⟨h1, h2⟩ := bt h
      rw [cop_eq h1, cop_eq h2]
      exact l_chain G.sm G.hu o p h3 (qa.e G h4) (qb.e G h5) (qc.e G h6)
    · cases h
  · unfold chkT at h
    split at h
    · obtain ⟨h, h6⟩ := bt h
      obtain ⟨h, h5⟩ := bt h
      obtain ⟨h, h4⟩ := bt h
      obtain ⟨h, h3⟩ := bt h
      obtain ⟨h1, h2⟩ := bt h
      rw [cop_eq h1, cop_eq h2]
      exact lt_chain G.sm G.hu o p h3 (qa.e G h4) (qb.e G h5) (qc.e G h6)
    · cases h
theorem qe_isK (ng : Bool) (a : E) (v : MV) (qa : QE B F W N a) : QE B F W N (.isK ng a v) := by
  refine ⟨fun {sc fb X e} G h => ?_, fun {sc fb X e} G h => ?_⟩
  · unfold chkE at h
    split at h
    · obtain ⟨h, h3⟩ := bt h
      obtain ⟨h1, h2⟩ := bt h
      rw [is_eq h1]
      exact l_isK ng (k_eq h2) (qa.e G h3)
    · cases h
  · unfold chkT at h
    split at h
    · obtain ⟨h, h3⟩ := bt h
      obtain ⟨h1, h2⟩ := bt h
      rw [is_eq h1]
      exact lt_isK ng (k_eq h2) (qa.e G h3)
    · cases h
theorem qe_bop (d : Bool) (es : EL) (qes : QEL B F W N es) : QE B F W N (.bop d es) := by
  refine ⟨fun {sc fb X e} G h => ?_, fun {sc fb X e} G h => ?_⟩
  · unfold chkE at h
    split at h
    · obtain ⟨h1, h2⟩ := bt h
      rw [bo_eq h1]
      exact okB d es qes G h2
    · cases h
  · unfold chkT at h
    split at h
    · obtain ⟨h1, h2⟩ := bt h
      rw [bo_eq h1]
      exact (okBT d es qes G h2).pt
    · cases h
theorem qe_not (a : E) (qa : QE B F W N a) : QE B F W N (.not a) := by
  refine ⟨fun {sc fb X e} G h => ?_, fun {sc fb X e} G h => ?_⟩
  · unfold chkE at h
    split at h
    · exact l_not (qa.e G h)
    · cases h
  · unfold chkT at h
    split at h
    · exact lt_not (qa.t G h)
    · cases h
theorem qe_ife (t a b : E) (qt : QE B F W N t) (qa : QE B F W N a) (qb : QE B F W N b) : QE B F W N (.ife t a b) := by
  refine ⟨fun {sc fb X e} G h => ?_, fun {sc fb X e} G h => ?_⟩
  · unfold chkE at h
    split at h
    · obtain ⟨h, h3⟩ := bt h
      obtain ⟨h1, h2⟩ := bt h
      exact l_ife (qt.t G h1) (qa.e G h2) (qb.e G h3)
    · cases h
  · cases h
theorem qe_call (f : Nat) (es : EL) (qes : QEL B F W N es) : QE B F W N (.call f es) := by
  refine ⟨fun {sc fb X e} G h => ?_, fun {sc fb X e} G h => ?_⟩
  · unfold chkE at h
    split at h
    · obtain ⟨h1, h2⟩ := bt h
      exact okCall f es qes G h1 h2
    · cases h
  · unfold chkT at h
    split at h
    · obtain ⟨h1, h2⟩ := bt h
      exact pt_imp (lt_val rfl (okCall f es qes G h1 h2)) fun σ H Q ⟨m, h, ρ, S, en, w⟩ => ⟨m, h, ρ, S, en, wp_assoc (f := fun xs => F f xs) w⟩
    · cases h
theorem qe_callk (f : Nat) (es kes : EL) (arr : List Nat) (qes : QEL B F W N es) (qkes : QEL B F W N kes) : QE B F W N (.callk f es kes arr) := by
  refine ⟨fun {sc fb X e} G h => ?_, fun {sc fb X e} G h => ?_⟩
  · unfold chkE at h
    split at h
    · rename_i x p l kws pos
      obtain ⟨h, h5⟩ := bt h
      obtain ⟨h, h4⟩ := bt h
      obtain ⟨h, h3⟩ := bt h
      obtain ⟨h1, h2⟩ := bt h
      obtain ⟨hg, hd, a, hm, hk, hc, hck⟩ := G.fn h1
      have hck := hck _ _ _ (List.contains_iff_mem.mp h2)
      have hl := okEL es qes G h4
      have hkk := okK kes qkes G h5
      have ll := chkEL_len h4
      have lk := chkEL_len h5
      have hlk : ∀ (ρ : Env) (h : MH) (ys : List MV) (h' : MH), evEL F W kes ρ h = .ok ys h' → ys.length = (kws.filterMap (·.arg)).length := fun ρ h ys h' e => by
        rw [evEL_len e, ← lk.1, List.length_map]
        exact kwOk_len h3
      cases l with
      | nil =>
        cases es with
        | nil => exact l_callk0 (n := 0) h3 hlk hg hd hm hk hck hkk
        | cons _ _ => cases ll.1
      | cons v t =>
        obtain ⟨s1, s2⟩ := bt (show (noStar v && t.all noStar) = true from ll.2)
        exact l_callk s1 s2 h3 (fun ρ h ys h' e => by rw [evEL_len e, ← ll.1]) hlk hg hd hm hk hck hl hkk
    · cases h
  · cases h
theorem qe_bi (b : Bi) (es : EL) (qes : QEL B F W N es) : QE B F W N (.bi b es) := by
  refine ⟨fun {sc fb X e} G h => ?_, fun {sc fb X e} G h => ?_⟩
  · unfold chkE at h
    split at h
    · obtain ⟨h1, h2⟩ := bt h
      exact okBi b es qes G h1 h2
    · cases h
  · unfold chkT at h
    split at h
    · obtain ⟨h1, h2⟩ := bt h
      exact pt_imp (lt_val rfl (okBi b es qes G h1 h2)) fun σ H Q ⟨m, h, ρ, S, en, w⟩ => ⟨m, h, ρ, S, en, wp_assoc (f := biV b) w⟩
    · cases h
theorem qe_isi (a : E) (ts : List Ty) (qa : QE B F W N a) : QE B F W N (.isi a ts) := by
  refine ⟨fun {sc fb X e} G h => ?_, fun {sc fb X e} G h => ?_⟩
  · unfold chkE at h
    split at h
    · split at h
      · obtain ⟨h, h4⟩ := bt h
        obtain ⟨h, h3⟩ := bt h
        obtain ⟨h1, h2⟩ := bt h
        obtain ⟨e1, g1, m1⟩ := G.bl h1
        obtain ⟨e2, g2, m2⟩ := G.bl h2
        rw [e1, e2]
        exact l_isi1 h3 g1 m1 g2 m2 (qa.e G h4)
      · cases h
    · split at h
      · obtain ⟨h, h5⟩ := bt h
        obtain ⟨h, h4⟩ := bt h
        obtain ⟨h, h3⟩ := bt h
        obtain ⟨h1, h2⟩ := bt h
        obtain ⟨e1, g1, m1⟩ := G.bl h1
        obtain ⟨e2, g2, m2⟩ := G.bl h2
        obtain ⟨e3, g3, m3⟩ := G.bl h3
        rw [e1, e2, e3]
        exact l_isi2 h4 g1 m1 g2 m2 g3 m3 (qa.e G h5)
      · cases h
    · cases h
  · unfold chkT at h
    split at h
    · split at h
      · obtain ⟨h, h4⟩ := bt h
        obtain ⟨h, h3⟩ := bt h
        obtain ⟨h1, h2⟩ := bt h
        obtain ⟨e1, g1, m1⟩ := G.bl h1
        obtain ⟨e2, g2, m2⟩ := G.bl h2
        rw [e1, e2]
        exact lt_bl2 rfl (l_isi1 h3 g1 m1 g2 m2 (qa.e G h4))
      · cases h
    · split at h
      · obtain ⟨h, h5⟩ := bt h
        obtain ⟨h, h4⟩ := bt h
        obtain ⟨h, h3⟩ := bt h
        obtain ⟨h1, h2⟩ := bt h
        obtain ⟨e1, g1, m1⟩ := G.bl h1
        obtain ⟨e2, g2, m2⟩ := G.bl h2
        obtain ⟨e3, g3, m3⟩ := G.bl h3
        rw [e1, e2, e3]
        exact lt_bl2 rfl (l_isi2 h4 g1 m1 g2 m2 g3 m3 (qa.e G h5))
      · cases h
    · cases h
theorem qe_mth (n : Mt) (o : E) (es : EL) (qo : QE B F W N o) (qes : QEL B F W N es) : QE B F W N (.mth n o es) := by
  refine ⟨fun {sc fb X e} G h => ?_, fun {sc fb X e} G h => ?_⟩
  · unfold chkE at h
    split at h
    · rename_i v n' p l q
      obtain ⟨h, h6⟩ := bt h
      obtain ⟨h, h5⟩ := bt h
      obtain ⟨h, h4⟩ := bt h
      obtain ⟨h, h3⟩ := bt h
      obtain ⟨h1, h2⟩ := bt h
      have hl := okEL es qes G h6
      have ll := chkEL_len h6
      have ho := qo.e G h5
      rw [of_decide_eq_true h1]
      cases l with
      | nil =>
        cases es with
        | nil => exact l_mth0 G.sm G.hu n h2 h3 ho
        | cons _ _ => cases ll.1
      | cons v t =>
        obtain ⟨s1, s2⟩ := bt (show (noStar v && t.all noStar) = true from ll.2)
        exact l_mth G.sm G.hu n h2 s1 s2 h4 h3 ho hl
    · cases h
  · cases h
theorem qe_idx (a b : E) (qa : QE B F W N a) (qb : QE B F W N b) : QE B F W N (.idx a b) := by
  refine ⟨fun {sc fb X e} G h => ?_, fun {sc fb X e} G h => ?_⟩
  · unfold chkE at h
    split at h
    · obtain ⟨h, h3⟩ := bt h
      obtain ⟨h1, h2⟩ := bt h
      exact l_idx G.hu h1 (qa.e G h2) (qb.e G h3)
    · cases h
  · unfold chkT at h
    split at h
    · obtain ⟨h, h3⟩ := bt h
      obtain ⟨h1, h2⟩ := bt h
      exact pt_imp (lt_val rfl (l_idx G.hu h1 (qa.e G h2) (qb.e G h3))) fun σ H Q ⟨m, h, ρ, S, en, w⟩ => ⟨m, h, ρ, S, en, by
        refine wp_assoc (f := fun x => (evE F W b ρ).bnd fun y => idxV x y) ?_
        have e : (fun x => ((evE F W b ρ).bnd fun y => idxV x y).bnd truV) = fun x => (evE F W b ρ).bnd fun y => (idxV x y).bnd truV := by
          funext x h
          exact WP.bnd_bnd (K := X.K) (R := rId) (x := evE F W b ρ) (f := fun y => idxV x y) (g := truV)
        rw [e]
        exact w⟩
    · cases h
theorem qe_slc (a : E) (lo hi : EO) (qa : QE B F W N a) (qlo : QEO B F W N lo) (qhi : QEO B F W N hi) : QE B F W N (.slc a lo hi) := by
  refine ⟨fun {sc fb X e} G h => ?_, fun {sc fb X e} G h => ?_⟩
  · unfold chkE at h
    split at h
    · obtain ⟨h, h3⟩ := bt h
      obtain ⟨h1, h2⟩ := bt h
      exact l_slc (qa.e G h1) (okO lo qlo G h2) (okO hi qhi G h3)
    · cases h
  · cases h
theorem qe_dct (es : EL) (qes : QEL B F W N es) : QE B F W N (.dct es) := by
  refine ⟨fun {sc fb X e} G h => ?_, fun {sc fb X e} G h => ?_⟩
  · unfold chkE at h
    split at h
    · exact l_dct0
    · obtain ⟨h1, h2⟩ := bt h
      have ex := of_decide_eq_true h1
      subst ex
      exact l_dct1 (qes.2.1.e G h2)
    · cases h
  · cases h
theorem qe_lc (a : E) (t : Tg) (it : Ir) (cs : EO) (own : List Nat) (qa : QE B F W N a) (qt : QTg B F W N t) (qit : QIr B F W N it) (qcs : QEO B F W N cs) : QE B F W N (.lc a t it cs own) := by
  refine ⟨fun {sc fb X e} G h => ?_, fun {sc fb X e} G h => ?_⟩
  · unfold chkE at h
    split at h
    · rename_i v tg iter ifs scope pos
      obtain ⟨h, h6⟩ := bt h
      obtain ⟨h, h5⟩ := bt h
      obtain ⟨h, h4⟩ := bt h
      obtain ⟨h, h3⟩ := bt h
      obtain ⟨h1, h2⟩ := bt h
      obtain ⟨ht, h3⟩ := bt h3
      have r := l_lc (X := X) (W := W) (pos := pos) G.calm G.nd h2 (qit ht G h3) (own := ownN N own) (blkOk_by (by rw [G.hN, G.hsc]; exact h1))
        (fun s H C cl fp => by
          rw [own_map]
          exact qt (cr_wipe own) (fun i hi σ v => wipe_set σ (List.contains_iff_mem.mp hi) _) (G.blk _ s H C cl fp) h4)
        (fun s H C cl fp => okC cs qcs (G.blk _ s H C cl fp) h5) (fun s H C cl fp => qa.e (G.blk _ s H C cl fp) h6)
      rw [own_map] at r
      exact r
    · cases h
  · cases h
theorem qe_bad : QE B F W N .bad := ⟨fun {sc fb X e} G h => ⟨fun pins s σ H Q I ⟨m, h, ρ, S, en, w⟩ => False.elim w⟩, fun {sc fb X e} G h => ⟨fun pins s σ H Q I ⟨m, h, ρ, S, en, w⟩ => False.elim w⟩⟩
theorem qt_nm (i : Nat) : QTg B F W N (.nm i) := by
  intro ok c sc fb X e k hk G h
  unfold chkTg at h
  split at h
  · obtain ⟨h1, h2⟩ := bt h
    obtain ⟨s1, s2, s3⟩ := G.sto h2
    exact lg_nm G.nd s1 s2 s3 fun σ v => hk i h1 σ v
  · cases h
theorem qt_tp (ts : TgL) (q : QTgL B F W N ts) : QTg B F W N (.tp ts) := by
  intro ok c sc fb X e k hk G h
  unfold chkTg at h
  split at h
  · obtain ⟨h1, h2⟩ := bt h
    exact lg_tup G.calm h1 (fun xs ρ h ρ' h' e => by rw [asgL_len e, ← chkTgL_len h2]) (q k hk G h2)
  · cases h
theorem qt_sb (o i : E) (qo : QE B F W N o) (qi : QE B F W N i) : QTg B F W N (.sb o i) := by
  intro ok c sc fb X e k hk G h
  unfold chkTg at h
  split at h
  · obtain ⟨h, h3⟩ := bt h
    obtain ⟨h1, h2⟩ := bt h
    exact lg_sub G.hu k h1 (qo.e G h2) (qi.e G h3)
  · cases h
theorem qtl_nil : QTgL B F W N .nil := by
  intro ok c sc fb X l k hk G h
  cases l with
  | nil => exact lgs_nil k (fun _ => rfl) (fun _ _ _ _ => rfl)
  | cons _ _ => cases h
theorem qtl_cons (t : Tg) (r : TgL) (qt : QTg B F W N t) (qr : QTgL B F W N r) : QTgL B F W N (.cons t r) := by
  intro ok c sc fb X l k hk G h
  cases l with
  | nil => cases h
  | cons v l =>
    obtain ⟨h, h3⟩ := bt (show (noStar v && chkTg B N t ok sc fb v && chkTgL B N r ok sc fb l) = true from h)
    obtain ⟨h1, h2⟩ := bt h
    exact lgs_cons k h1 (fun _ _ => rfl) (fun _ _ _ => rfl) (qt k hk G h2) (qr k hk G h3)
theorem qi_vl (a : E) (qa : QE B F W N a) : QIr B F W N (.vl a) := fun {sc fb X tg e} _ G h => li_vl (qa.e G h)
theorem qi_rg1 (a : E) (qa : QE B F W N a) : QIr B F W N (.rg1 a) := by
  intro sc fb X tg e _ G h
  unfold chkIt at h
  split at h
  · obtain ⟨h, h3⟩ := bt h
    obtain ⟨h1, h2⟩ := bt h
    obtain ⟨e1, g1, m1⟩ := G.bl h1
    rw [e1]
    exact li_rg1 h2 g1 m1 (qa.e G h3)
  · cases h
theorem qi_rg2 (a b : E) (qa : QE B F W N a) (qb : QE B F W N b) : QIr B F W N (.rg2 a b) := by
  intro sc fb X tg e _ G h
  unfold chkIt at h
  split at h
  · obtain ⟨h, h5⟩ := bt h
    obtain ⟨h, h4⟩ := bt h
    obtain ⟨h, h3⟩ := bt h
    obtain ⟨h1, h2⟩ := bt h
    obtain ⟨e1, g1, m1⟩ := G.bl h1
    rw [e1]
    exact li_rg2 h2 h3 g1 m1 (qa.e G h4) (qb.e G h5)
  · cases h
theorem isTup_of {it : Ir} {tg : Expr} (h : tgB it tg = true) (h2 : tupIr it = true) : ∃ elts kk p, tg = .Tuple elts kk p := by
  unfold tgB at h
  rw [h2] at h
  cases tg <;> first | exact ⟨_, _, _, rfl⟩ | cases h
theorem qi_en (a : E) (qa : QE B F W N a) : QIr B F W N (.en a) := by
  intro sc fb X tg e ht G h
  obtain ⟨elts, kk, tp, rfl⟩ := isTup_of ht rfl
  unfold chkIt at h
  split at h
  · obtain ⟨h, h3⟩ := bt h
    obtain ⟨h1, h2⟩ := bt h
    obtain ⟨e1, g1, m1⟩ := G.bl h1
    rw [e1]
    exact li_en h2 g1 m1 (qa.e G h3)
  · cases h
theorem qi_zp (a b : E) (qa : QE B F W N a) (qb : QE B F W N b) : QIr B F W N (.zp a b) := by
  intro sc fb X tg e ht G h
  obtain ⟨elts, kk, tp, rfl⟩ := isTup_of ht rfl
  unfold chkIt at h
  split at h
  · obtain ⟨h, h5⟩ := bt h
    obtain ⟨h, h4⟩ := bt h
    obtain ⟨h, h3⟩ := bt h
    obtain ⟨h1, h2⟩ := bt h
    obtain ⟨e1, g1, m1⟩ := G.bl h1
    rw [e1]
    exact li_zp h2 h3 g1 m1 (qa.e G h4) (qb.e G h5)
  · cases h
theorem qi_its (a : E) (qa : QE B F W N a) : QIr B F W N (.its a) := by
  intro sc fb X tg e ht G h
  obtain ⟨elts, kk, tp, rfl⟩ := isTup_of ht rfl
  unfold chkIt at h
  split at h
  · obtain ⟨h, h4⟩ := bt h
    obtain ⟨h, h3⟩ := bt h
    obtain ⟨h1, h2⟩ := bt h
    have e1 := of_decide_eq_true h1
    subst e1
    exact li_itsK h2 h3 (qa.e G h4)
  · cases h
theorem qi_vas (a : E) (qa : QE B F W N a) : QIr B F W N (.vas a) := by
  intro sc fb X tg e ht G h
  unfold chkIt at h
  split at h
  · obtain ⟨h, h4⟩ := bt h
    obtain ⟨h, h3⟩ := bt h
    obtain ⟨h1, h2⟩ := bt h
    have e1 := of_decide_eq_true h1
    subst e1
    exact li_vas h2 h3 (qa.e G h4)
  · cases h
theorem qe_val (a : E) (qa : QE B F W N a) : QE B F W N (.val a) := by
  refine ⟨fun {sc fb X e} G h => ?_, fun {sc fb X e} G h => ?_⟩
  · unfold chkE at h
    exact l_val (qa.e G h)
  · cases h
theorem qe_fld (a : E) (c f : Str) (qa : QE B F W N a) : QE B F W N (.fld a c f) := by
  refine ⟨fun {sc fb X e} G h => ?_, fun {sc fb X e} G h => ?_⟩
  · unfold chkE at h
    split at h
    · obtain ⟨h, h4⟩ := bt h
      obtain ⟨h, h3⟩ := bt h
      obtain ⟨h1, h2⟩ := bt h
      have e1 := of_decide_eq_true h1
      subst e1
      obtain ⟨ci, na⟩ := G.fld _ (List.contains_iff_mem.mp h3)
      exact l_fld h2 ci na (qa.e G h4)
    · cases h
  · cases h
theorem qe_con (c f : Str) (v : MV) : QE B F W N (.con c f v) := by
  refine ⟨fun {sc fb X e} G h => ?_, fun {sc fb X e} G h => ?_⟩
  · unfold chkE at h
    split at h
    · obtain ⟨h, h4⟩ := bt h
      obtain ⟨h, h3⟩ := bt h
      obtain ⟨h1, h2⟩ := bt h
      have e1 := of_decide_eq_true h1
      have e2 := of_decide_eq_true h2
      subst e1
      subst e2
      obtain ⟨p, hp, h5⟩ := List.any_eq_true.mp h4
      obtain ⟨h5, h8⟩ := bt h5
      obtain ⟨h6, h7⟩ := bt h5
      obtain ⟨hm, k⟩ := G.cc p hp
      rw [of_decide_eq_true h6] at hm
      rw [of_decide_eq_true h6, of_decide_eq_true h7, mv_eq h8] at k
      exact l_con (G.glo h3).1 (G.glo h3).2 hm k
    · cases h
  · cases h
theorem qe_mk (c : Str) (f : Nat) (es : EL) (q : QEL B F W N es) : QE B F W N (.mk c f es) := by
  refine ⟨fun {sc fb X e} G h => ?_, fun {sc fb X e} G h => ?_⟩
  · unfold chkE at h
    split at h
    · obtain ⟨h, h4⟩ := bt h
      obtain ⟨h, h3⟩ := bt h
      obtain ⟨h1, h2⟩ := bt h
      have e1 := of_decide_eq_true h1
      subst e1
      obtain ⟨hm, hk, hc⟩ := G.mks _ (List.contains_iff_mem.mp h3)
      have ll := chkEL_len h4
      obtain ⟨s1, s2⟩ := bt (show (noStar _ && List.all _ noStar) = true from ll.2)
      exact l_mk s1 s2 (G.glo h2).1 (G.glo h2).2 hm hk (hc X .refl) (okEL es q G h4)
    · cases h
  · cases h
theorem qe_iso (a : E) (c : Str) (qa : QE B F W N a) : QE B F W N (.iso a c) := by
  refine ⟨fun {sc fb X e} G h => ?_, fun {sc fb X e} G h => ?_⟩
  · unfold chkE at h
    split at h
    · obtain ⟨h, h6⟩ := bt h
      obtain ⟨h, h5⟩ := bt h
      obtain ⟨h, h4⟩ := bt h
      obtain ⟨h, h3⟩ := bt h
      obtain ⟨h1, h2⟩ := bt h
      have e1 := of_decide_eq_true h2
      subst e1
      obtain ⟨e1, g1, m1⟩ := G.bl h1
      obtain ⟨ci, hm⟩ := G.cls _ (List.contains_iff_mem.mp h4)
      rw [e1]
      exact l_iso ci h5 g1 m1 (G.glo h3).1 (G.glo h3).2 hm (qa.e G h6)
    · cases h
  · unfold chkT at h
    split at h
    · obtain ⟨h, h6⟩ := bt h
      obtain ⟨h, h5⟩ := bt h
      obtain ⟨h, h4⟩ := bt h
      obtain ⟨h, h3⟩ := bt h
      obtain ⟨h1, h2⟩ := bt h
      have e1 := of_decide_eq_true h2
      subst e1
      obtain ⟨e1, g1, m1⟩ := G.bl h1
      obtain ⟨ci, hm⟩ := G.cls _ (List.contains_iff_mem.mp h4)
      rw [e1]
      exact lt_bl2 rfl (l_iso ci h5 g1 m1 (G.glo h3).1 (G.glo h3).2 hm (qa.e G h6))
    · cases h
theorem qe_own (f : Nat) (c m : Str) (o : E) (es : EL) : QE B F W N (.own f c m o es) := ⟨(fun {sc fb X e} G h => by cases h), (fun {sc fb X e} G h => by cases h)⟩
theorem qe_neo (f : Nat) (c : Str) (a b : E) : QE B F W N (.neo f c a b) := ⟨(fun {sc fb X e} G h => by cases h), (fun {sc fb X e} G h => by cases h)⟩
theorem qe_dctT : QE B F W N .dctT := by
  refine ⟨fun {sc fb X e} G h => ?_, fun {sc fb X e} G h => ?_⟩
  · unfold chkE at h
    split at h
    · exact l_dctT
    · cases h
  · cases h
theorem qe_rev (a : E) (qa : QE B F W N a) : QE B F W N (.rev a) := by
  refine ⟨fun {sc fb X e} G h => ?_, fun {sc fb X e} G h => ?_⟩
  · unfold chkE at h
    split at h
    · exact l_rev (qa.e G h)
    · cases h
  · cases h
theorem qe_eqo (f : Nat) (c : Str) (a b : E) (qa : QE B F W N a) (qb : QE B F W N b) : QE B F W N (.eqo f c a b) := by
  refine ⟨fun {sc fb X e} G h => ?_, fun {sc fb X e} G h => ?_⟩
  · unfold chkE at h
    split at h
    · obtain ⟨h, h4⟩ := bt h
      obtain ⟨h, h3⟩ := bt h
      obtain ⟨h1, h2⟩ := bt h
      obtain ⟨a', k1, k2, k3⟩ := G.eqs _ (List.contains_iff_mem.mp h2)
      exact l_eqo (by have := G.hu; omega) k1 k2 (k3 X .refl) h1 (qa.e G h3) (qb.e G h4)
    · cases h
  · unfold chkT at h
    split at h
    · obtain ⟨h, h4⟩ := bt h
      obtain ⟨h, h3⟩ := bt h
      obtain ⟨h1, h2⟩ := bt h
      obtain ⟨a', k1, k2, k3⟩ := G.eqs _ (List.contains_iff_mem.mp h2)
      exact lt_eqo (by have := G.hu; omega) k1 k2 (k3 X .refl) h1 (qa.e G h3) (qb.e G h4)
    · cases h
theorem qe_dc (tt : Bool) (k a : E) (t : Tg) (it : Ir) (cs : EO) (own : List Nat) (qk : QE B F W N k) (qa : QE B F W N a) (qt : QTg B F W N t) (qit : QIr B F W N it) (qcs : QEO B F W N cs) : QE B F W N (.dc tt k a t it cs own) := by
  refine ⟨fun {sc fb X e} G h => ?_, fun {sc fb X e} G h => ?_⟩
  · unfold chkE at h
    split at h
    · rename_i u v tg iter ifs scope pos
      obtain ⟨h, h7⟩ := bt h
      obtain ⟨h, h6⟩ := bt h
      obtain ⟨h, h5⟩ := bt h
      obtain ⟨h, h4⟩ := bt h
      obtain ⟨h, h3⟩ := bt h
      obtain ⟨h1, h2⟩ := bt h
      obtain ⟨ht, h3⟩ := bt h3
      have r := l_dc (X := X) (W := W) (t := tt) (pos := pos) (by have := G.hu; omega) G.calm G.nd h2 (qit ht G h3) (own := ownN N own) (blkOk_by (by rw [G.hN, G.hsc]; exact h1))
        (fun s H C cl fp => by
          rw [own_map]
          exact qt (cr_wipe own) (fun i hi σ v => wipe_set σ (List.contains_iff_mem.mp hi) _) (G.blk _ s H C cl fp) h4)
        (fun s H C cl fp => okC cs qcs (G.blk _ s H C cl fp) h5) (fun s H C cl fp => qk.e (G.blk _ s H C cl fp) h6) (fun s H C cl fp => qa.e (G.blk _ s H C cl fp) h7)
      rw [own_map] at r
      exact r
    · cases h
  · cases h
theorem qe_dz (a b : E) (qa : QE B F W N a) (qb : QE B F W N b) : QE B F W N (.dz a b) := by
  refine ⟨fun {sc fb X e} G h => ?_, fun {sc fb X e} G h => ?_⟩
  · unfold chkE at h
    split at h
    · obtain ⟨h, h6⟩ := bt h
      obtain ⟨h, h5⟩ := bt h
      obtain ⟨h, h4⟩ := bt h
      obtain ⟨h, h3⟩ := bt h
      obtain ⟨h1, h2⟩ := bt h
      obtain ⟨e1, g1, m1⟩ := G.bl h1
      obtain ⟨e2, g2, m2⟩ := G.bl h2
      rw [e1, e2]
      exact l_dz h3 h4 G.calm g2 m2 g1 m1 (qa.e G h5) (qb.e G h6)
    · cases h
  · cases h
/-- every term -/
theorem q_all : ∀ t : E, QE B F W N t :=
  E.rec (motive_1 := QE B F W N) (motive_2 := QEL B F W N) (motive_3 := QEO B F W N) (motive_4 := QTg B F W N) (motive_5 := QTgL B F W N) (motive_6 := QIr B F W N)
    qe_var qe_lit qe_glo qe_tup qe_lst qe_dct qe_bin qe_neg qe_cmp qe_chain qe_isK qe_bop qe_not qe_ife qe_call qe_callk qe_bi qe_isi qe_mth qe_idx qe_slc qe_lc qe_bad qe_val qe_fld qe_con qe_mk qe_iso (fun f c m o es _ _ => qe_own f c m o es) qe_dctT (fun f c a b _ _ => qe_neo f c a b) qe_rev qe_eqo qe_dc qe_dz
    trivial (fun a r qa qr => ⟨qa, qr⟩) trivial (fun a qa => qa) qt_nm qt_tp qt_sb qtl_nil qtl_cons qi_vl qi_rg1 qi_rg2 qi_en qi_its qi_vas qi_zp
theorem q_tg : ∀ t : Tg, QTg B F W N t :=
  Tg.rec (motive_1 := QE B F W N) (motive_2 := QEL B F W N) (motive_3 := QEO B F W N) (motive_4 := QTg B F W N) (motive_5 := QTgL B F W N) (motive_6 := QIr B F W N)
    qe_var qe_lit qe_glo qe_tup qe_lst qe_dct qe_bin qe_neg qe_cmp qe_chain qe_isK qe_bop qe_not qe_ife qe_call qe_callk qe_bi qe_isi qe_mth qe_idx qe_slc qe_lc qe_bad qe_val qe_fld qe_con qe_mk qe_iso (fun f c m o es _ _ => qe_own f c m o es) qe_dctT (fun f c a b _ _ => qe_neo f c a b) qe_rev qe_eqo qe_dc qe_dz
    trivial (fun a r qa qr => ⟨qa, qr⟩) trivial (fun a qa => qa) qt_nm qt_tp qt_sb qtl_nil qtl_cons qi_vl qi_rg1 qi_rg2 qi_en qi_its qi_vas qi_zp
theorem q_ir : ∀ t : Ir, QIr B F W N t :=
  Ir.rec (motive_1 := QE B F W N) (motive_2 := QEL B F W N) (motive_3 := QEO B F W N) (motive_4 := QTg B F W N) (motive_5 := QTgL B F W N) (motive_6 := QIr B F W N)
    qe_var qe_lit qe_glo qe_tup qe_lst qe_dct qe_bin qe_neg qe_cmp qe_chain qe_isK qe_bop qe_not qe_ife qe_call qe_callk qe_bi qe_isi qe_mth qe_idx qe_slc qe_lc qe_bad qe_val qe_fld qe_con qe_mk qe_iso (fun f c m o es _ _ => qe_own f c m o es) qe_dctT (fun f c a b _ _ => qe_neo f c a b) qe_rev qe_eqo qe_dc qe_dz
    trivial (fun a r qa qr => ⟨qa, qr⟩) trivial (fun a qa => qa) qt_nm qt_tp qt_sb qtl_nil qtl_cons qi_vl qi_rg1 qi_rg2 qi_en qi_its qi_vas qi_zp
end
end MP
/-! MP: statements that pass the test. -/
namespace MP
open PySem PySem.Spec PyProof.Rows L2
section
variable {B : TB} {F : Nat → List MV → M MV} {W : Nat} {N : List Str}
theorem swaps_lc {e : Expr} {gs : List Comprehension} {scope : Scope} {lp q : Pos} {x : Str} {l : Nat} {env : PySem.Env} : swapsWith (.ListComp e gs scope lp) (some (.Name x q)) l env = pure (env.blockKind == .function && env.kindOf x == some .local && q.line == lp.line && !(scope.names.any fun (n, k) => n == x && (k == .local || k == .cell))) := rfl
theorem swaps_cell {e : Expr} {gs : List Comprehension} {scope : Scope} {lp q : Pos} {x : Str} {l : Nat} {env : PySem.Env} (h : env.scope.names.lookup x = some .cell) : swapsWith (.ListComp e gs scope lp) (some (.Name x q)) l env = pure false := by
  rw [swaps_lc]
  have e : (env.kindOf x == some .local) = false := by
    show (env.scope.names.lookup x == some .local) = false
    rw [h]
    rfl
  rw [e, Bool.and_false]
  rfl
theorem swaps_dc {kx vx : Expr} {gs : List Comprehension} {scope : Scope} {lp q : Pos} {x : Str} {l : Nat} {env : PySem.Env} : swapsWith (.DictComp kx vx gs scope lp) (some (.Name x q)) l env = pure (env.blockKind == .function && env.kindOf x == some .local && q.line == lp.line && !(scope.names.any fun (n, k) => n == x && (k == .local || k == .cell))) := rfl
theorem swaps_cellD {kx vx : Expr} {gs : List Comprehension} {scope : Scope} {lp q : Pos} {x : Str} {l : Nat} {env : PySem.Env} (h : env.scope.names.lookup x = some .cell) : swapsWith (.DictComp kx vx gs scope lp) (some (.Name x q)) l env = pure false := by
  rw [swaps_dc]
  have e : (env.kindOf x == some .local) = false := by
    show (env.scope.names.lookup x == some .local) = false
    rw [h]
    rfl
  rw [e, Bool.and_false]
  rfl
theorem par_ok {x y : Str} {px py pt p2 : Pos} {kt k2 : Nat} {a b : Expr} {env : PySem.Env} (hk : env.scope.kind = .function) (h : parB env.scope x y px py a b = true) : swappedStores [.Tuple [.Name x px, .Name y py] kt pt] (.Tuple [a, b] k2 p2) env = pure (some [x, y]) := by
  unfold parB at h
  obtain ⟨h, h8⟩ := bt h
  obtain ⟨h, h7⟩ := bt h
  obtain ⟨h, h6⟩ := bt h
  obtain ⟨h, h5⟩ := bt h
  obtain ⟨h, h4⟩ := bt h
  obtain ⟨h, h3⟩ := bt h
  obtain ⟨h1, h2⟩ := bt h
  have kx : (env.kindOf x == some .local) = true := by
    show (env.scope.names.lookup x == some .local) = true
    rw [loc_of h1]; rfl
  have ky : (env.kindOf y == some .local) = true := by
    show (env.scope.names.lookup y == some .local) = true
    rw [loc_of h2]; rfl
  have hb : env.blockKind = .function := by unfold Env.blockKind; rw [hk]; rfl
  have hne : x ≠ y := of_decide_eq_true h4
  have hd : ([x, y] : List Str).eraseDups.length = 2 := by
    have : (y == x) = false := by rw [beq_eq_false_iff_ne]; exact fun e => hne e.symm
    simp [List.eraseDups_cons, this]
  have f5 : ([a, b].all (foldedForSure 8)) = false := by
    simp only [List.all_cons, List.all_nil, Bool.and_true]
    exact notB h5
  have f6 : ([a, b].all (constantsAlone 8)) = false := by
    simp only [List.all_cons, List.all_nil, Bool.and_true]
    exact notB h6
  unfold swappedStores
  have kx2 : env.kindOf x = some .local := eq_of_beq kx
  have ky2 : env.kindOf y = some .local := eq_of_beq ky
  have l2 : py.line = px.line := eq_of_beq h3
  simp only [hb, List.length_cons, List.length_nil, List.any_cons, List.any_nil, f5, f6]
  simp [Expr.pos]
  rw [if_neg (by
    rintro (z | z)
    · cases a <;> first | exact Bool.noConfusion (show false = true from z) | exact Bool.noConfusion (show false = true from h7)
    · cases b <;> first | exact Bool.noConfusion (show false = true from z) | exact Bool.noConfusion (show false = true from h8))]
  simp [kx2, ky2, l2, hd]
theorem ite3 {α : Type} {c1 c2 c3 : Bool} {p q : α} (h : c3 = true) : (if c1 = true then p else if c2 = true then p else if c3 = true then p else q) = p := by
  subst h
  cases c1 <;> cases c2 <;> rfl
theorem no_storesC {x y : Str} {px py pt p2 : Pos} {kt k2 : Nat} {a b : Expr} {env : PySem.Env} (h : (env.kindOf x == some .local) = false ∨ (env.kindOf y == some .local) = false) : swappedStores [.Tuple [.Name x px, .Name y py] kt pt] (.Tuple [a, b] k2 p2) env = pure none := by
  unfold swappedStores
  simp only [List.length_cons, List.length_nil, List.any_cons, List.any_nil, List.filterMap_cons, List.filterMap_nil]
  refine ite3 ?_
  rcases h with h | h
  · simp only [h, Bool.false_and, Bool.false_eq_true, if_false]
    cases (env.kindOf y == some .local && py.line == ([Expr.Name x px, Expr.Name y py].head?.map (·.pos.line)).getD 0) <;> rfl
  · simp only [h, Bool.false_and, Bool.false_eq_true, if_false]
    cases (env.kindOf x == some .local && px.line == ([Expr.Name x px, Expr.Name y py].head?.map (·.pos.line)).getD 0) <;> rfl
theorem no_storesE {sc : Scope} {tg e : Expr} {env : PySem.Env} (hs : env.scope = sc) (h : celTwo sc tg e = true) : swappedStores [tg] e env = pure none := by
  unfold celTwo at h
  split at h
  · refine no_storesC ?_
    rcases Bool.or_eq_true_iff.mp h with h | h
    · left
      show (env.scope.names.lookup _ == some .local) = false
      rw [hs, cel_of h]; rfl
    · right
      show (env.scope.names.lookup _ == some .local) = false
      rw [hs, cel_of h]; rfl
  · cases h
def tt : Str → Bool := fun _ => true
/-- a def's body's context -/
structure GS (B : TB) (F : Nat → List MV → M MV) (N : List Str) (sc : Scope) (X : Cx) : Prop where
  g : GX B F N sc (fun _ => true) X
  kind : sc.kind = .function
  own : PassesOwn (model X.prog X.w) X.A X.env X.xe
def QS (B : TB) (F : Nat → List MV → M MV) (W : Nat) (N : List Str) (t : S) : Prop := ∀ {sc : Scope} {X : Cx} {s : Stmt}, GS B F N sc X → chkS B N sc t s = true → PS X s (tSt X.K (evS F W t))
def QSL (B : TB) (F : Nat → List MV → M MV) (W : Nat) (N : List Str) (t : SL) : Prop := ∀ {sc : Scope} {X : Cx} {s : List Stmt}, GS B F N sc X → chkSL B N sc t s = true → PSs X s (tSt X.K (evSL F W t))
theorem tgA {t : Tg} {X : Cx} {sc : Scope} {e : Expr} (G : GX B F N sc (fun _ => true) X) (h : chkTg B N t (fun _ => true) sc (fun _ => true) e = true) : PG X e (tG X.K (asgT F W t)) :=
  lg_all (q_tg t cr_all (fun _ _ _ _ => trivial) G h)
theorem s_asgC {X : Cx} {ea tg : Expr} {pos : Pos} {fa : Env → M MV} {ft' : MV → Env → M Env} (hn : noComp ea = true) (hs : noStar tg = true) (hw : swappedStores [tg] ea X.env = pure none) (ha : PE X ea (tE X.K fa)) (hg : PG X tg (tG X.K ft')) :
    PS X (.Assign [tg] ea pos) (tSt X.K fun ρ => (fa ρ).bnd fun x => (ft' x ρ).bnd fun ρ' => .ret (ρ', .nx)) :=
  ps_imp (ps_asg ha hg (no_swaps hn) hw (by rw [each_cons hs]; rfl)) fun D σ H w => lift_asg (X := X) (fun _ _ _ z => z) w
theorem asg_name {t : Tg} {e : E} {sc : Scope} {X : Cx} {tg v : Expr} {p : Pos} (G : GS B F N sc X) (h : (noComp v && noStar tg && ((notTup tg || notTup v) || celTwo sc tg v) && chkE B N e sc (fun _ => true) v && chkTg B N t (fun _ => true) sc (fun _ => true) tg) = true) : PS X (.Assign [tg] v p) (tSt X.K (evS F W (.asg t e))) := by
  obtain ⟨h, h5⟩ := bt h
  obtain ⟨h, h4⟩ := bt h
  obtain ⟨h, h3⟩ := bt h
  obtain ⟨h1, h2⟩ := bt h
  rcases Bool.or_eq_true_iff.mp h3 with h3 | h3
  · exact s_asg h1 h2 (Bool.or_eq_true_iff.mp h3) ((q_all e).e G.g h4) (tgA G.g h5)
  · exact s_asgC h1 h2 (no_storesE G.g.hsc h3) ((q_all e).e G.g h4) (tgA G.g h5)
theorem asg_nm {i : Nat} {e : E} {sc : Scope} {X : Cx} {x : Str} {v : Expr} {p q : Pos} (G : GS B F N sc X) (h : stoB N sc (fun _ => true) i x = true) (he : chkE B N e sc (fun _ => true) v = true) (hs : swapsWith v (some (.Name x q)) p.line X.env = pure false) : PS X (.Assign [.Name x q] v p) (tSt X.K (evS F W (.asg (.nm i) e))) := by
  obtain ⟨s1, s2, s3⟩ := G.g.sto h
  exact s_set G.g.nd s1 s2 s3 hs ((q_all e).e G.g he)
theorem q_eo (cs : EO) : QEO B F W N cs := by
  cases cs with
  | no => trivial
  | so a => exact q_all a
theorem asg_lc {i : Nat} {e : E} {sc scope : Scope} {X : Cx} {x : Str} {v : Expr} {gs : List Comprehension} {p q lp : Pos} (hv : notVal e = true) (G : GS B F N sc X) (h : stoB N sc (fun _ => true) i x = true) (he : chkE B N e sc (fun _ => true) (.ListComp v gs scope lp) = true) (hs : swpB sc scope x q lp = true) : PS X (.Assign [.Name x q] (.ListComp v gs scope lp) p) (tSt X.K (evS F W (.asg (.nm i) e))) := by
  unfold swpB at hs
  obtain ⟨hs, k3⟩ := bt hs
  obtain ⟨k1, k2⟩ := bt hs
  obtain ⟨s1, s2, s3⟩ := G.g.sto h
  have hl : X.env.scope.names.lookup x = some .local := by rw [G.g.hsc]; exact loc_of k1
  have hsw : swapsWith (.ListComp v gs scope lp) (some (.Name x q)) p.line X.env = pure true := sw_true (by rw [G.g.hsc]; exact G.kind) hl k2 (notB k3)
  cases e with
  | lc a t it cs own =>
    unfold chkE at he
    split at he
    · rename_i v tg iter ifs scope pos e2
      cases e2
      obtain ⟨h, h6⟩ := bt he
      obtain ⟨h, h5⟩ := bt h
      obtain ⟨h, h4⟩ := bt h
      obtain ⟨h, h3⟩ := bt h
      obtain ⟨h1, h2⟩ := bt h
      obtain ⟨ht, h3⟩ := bt h3
      have r := s_setLc (X := X) (W := W) (pos := lp) (spos := p) (py := q) G.g.calm G.g.nd s1 hl hsw h2 (q_ir (F := F) (W := W) it ht G.g h3) (own := ownN N own) (blkOk_by (by rw [G.g.hN, G.g.hsc]; exact h1))
        (fun s H C cl fp => by
          rw [own_map]
          exact q_tg (F := F) (W := W) t (cr_wipe own) (fun i hi σ v => wipe_set σ (List.contains_iff_mem.mp hi) _) (G.g.blk _ s H C cl fp) h4)
        (fun s H C cl fp => okC (F := F) (W := W) cs (q_eo cs) (G.g.blk _ s H C cl fp) h5) (fun s H C cl fp => (q_all (F := F) (W := W) a).e (G.g.blk _ s H C cl fp) h6)
      rw [own_map] at r
      exact r
    · cases he
  | dct es =>
    unfold chkE at he
    split at he
    · rename_i z; cases z
    · rename_i z; cases z
    · exact Bool.noConfusion he
  | bad => exact ⟨fun pins s σ H D I ⟨m, h, ρ, S, en, w⟩ => False.elim w⟩
  | val a => exact Bool.noConfusion (show false = true from hv)
  | _ => exact Bool.noConfusion (show false = true from he)
theorem asg_dc {i : Nat} {e : E} {sc scope : Scope} {X : Cx} {x : Str} {u v : Expr} {gs : List Comprehension} {p q lp : Pos} (hv : notVal e = true) (G : GS B F N sc X) (h : stoB N sc (fun _ => true) i x = true) (he : chkE B N e sc (fun _ => true) (.DictComp u v gs scope lp) = true) (hs : swpB sc scope x q lp = true) : PS X (.Assign [.Name x q] (.DictComp u v gs scope lp) p) (tSt X.K (evS F W (.asg (.nm i) e))) := by
  unfold swpB at hs
  obtain ⟨hs, k3⟩ := bt hs
  obtain ⟨k1, k2⟩ := bt hs
  obtain ⟨s1, s2, s3⟩ := G.g.sto h
  have hl : X.env.scope.names.lookup x = some .local := by rw [G.g.hsc]; exact loc_of k1
  have hsw : swapsWith (.DictComp u v gs scope lp) (some (.Name x q)) p.line X.env = pure true := sw_trueD (by rw [G.g.hsc]; exact G.kind) hl k2 (notB k3)
  cases e with
  | dc tt k a t it cs own =>
    unfold chkE at he
    split at he
    · rename_i u v tg iter ifs scope pos e2
      cases e2
      obtain ⟨h, h7⟩ := bt he
      obtain ⟨h, h6⟩ := bt h
      obtain ⟨h, h5⟩ := bt h
      obtain ⟨h, h4⟩ := bt h
      obtain ⟨h, h3⟩ := bt h
      obtain ⟨h1, h2⟩ := bt h
      obtain ⟨ht, h3⟩ := bt h3
      have r := s_setDc (X := X) (W := W) (t := tt) (pos := lp) (spos := p) (py := q) (by have := G.g.hu; omega) G.g.calm G.g.nd s1 hl hsw h2 (q_ir (F := F) (W := W) it ht G.g h3) (own := ownN N own) (blkOk_by (by rw [G.g.hN, G.g.hsc]; exact h1))
        (fun s H C cl fp => by
          rw [own_map]
          exact q_tg (F := F) (W := W) t (cr_wipe own) (fun i hi σ v => wipe_set σ (List.contains_iff_mem.mp hi) _) (G.g.blk _ s H C cl fp) h4)
        (fun s H C cl fp => okC (F := F) (W := W) cs (q_eo cs) (G.g.blk _ s H C cl fp) h5) (fun s H C cl fp => (q_all (F := F) (W := W) k).e (G.g.blk _ s H C cl fp) h6) (fun s H C cl fp => (q_all (F := F) (W := W) a).e (G.g.blk _ s H C cl fp) h7)
      rw [own_map] at r
      exact r
    · cases he
  | dct es =>
    unfold chkE at he
    split at he
    · rename_i z; cases z
    · rename_i z; cases z
    · exact Bool.noConfusion he
  | bad => exact ⟨fun pins s σ H D I ⟨m, h, ρ, S, en, w⟩ => False.elim w⟩
  | val a => exact Bool.noConfusion (show false = true from hv)
  | _ => exact Bool.noConfusion (show false = true from he)
theorem qs_asg (t : Tg) (e : E) : QS B F W N (.asg t e) := by
  intro sc X s G h
  unfold chkS at h
  split at h
  · split at h
    · rename_i i x q
      obtain ⟨h, h3⟩ := bt h
      obtain ⟨h1, h2⟩ := bt h
      split at h3
      · rcases Bool.or_eq_true_iff.mp h3 with h3 | h3
        · obtain ⟨h3, h4⟩ := bt h3
          exact asg_lc h3 G h1 h2 h4
        · exact asg_nm G h1 h2 (swaps_cell (by rw [G.g.hsc]; exact cel_of h3))
      · rcases Bool.or_eq_true_iff.mp h3 with h3 | h3
        · obtain ⟨h3, h4⟩ := bt h3
          exact asg_dc h3 G h1 h2 h4
        · exact asg_nm G h1 h2 (swaps_cellD (by rw [G.g.hsc]; exact cel_of h3))
      · exact asg_nm G h1 h2 (no_swaps h3)
    · exact asg_name G h
  · cases h
theorem qs_par (i j : Nat) (a b : E) : QS B F W N (.par i j a b) := by
  intro sc X s G h
  unfold chkS at h
  split at h
  · obtain ⟨h, h6⟩ := bt h
    obtain ⟨h, h5⟩ := bt h
    obtain ⟨h, h4⟩ := bt h
    obtain ⟨h, h3⟩ := bt h
    obtain ⟨h1, h2⟩ := bt h
    have h4' := h4
    have hp := fun {pt p2 : Pos} {kt k2 : Nat} => par_ok (pt := pt) (p2 := p2) (kt := kt) (k2 := k2) (env := X.env) (by rw [G.g.hsc]; exact G.kind) (by rw [G.g.hsc]; exact h4')
    unfold parB at h4
    obtain ⟨h, k8⟩ := bt h4
    obtain ⟨h, k7⟩ := bt h
    obtain ⟨h, k6⟩ := bt h
    obtain ⟨h, k5⟩ := bt h
    obtain ⟨h, k4⟩ := bt h
    obtain ⟨h, k3⟩ := bt h
    obtain ⟨k1, k2⟩ := bt h
    exact s_par G.g.calm G.g.nd (by rw [G.g.hN]; exact of_decide_eq_true h1) (by rw [G.g.hN]; exact of_decide_eq_true h2) (of_decide_eq_true h3) (by rw [G.g.hsc]; exact loc_of k1) (by rw [G.g.hsc]; exact loc_of k2) k7 k8 ((q_all a).e G.g h5) ((q_all b).e G.g h6) hp
  · cases h
theorem qs_ex (e : E) : QS B F W N (.ex e) := by
  intro sc X s G h
  unfold chkS at h
  split at h
  · obtain ⟨h1, h2⟩ := bt h
    exact s_ex h1 ((q_all e).e G.g h2)
  · cases h
theorem qs_ret (e : E) : QS B F W N (.ret e) := by
  intro sc X s G h
  unfold chkS at h
  split at h
  · exact s_ret ((q_all e).e G.g h)
  · cases h
theorem qs_retN : QS B F W N .retN := by
  intro sc X s G h
  unfold chkS at h
  split at h
  · exact s_retN
  · cases h
theorem qs_ifs (c : E) (a b : SL) (qa : QSL B F W N a) (qb : QSL B F W N b) : QS B F W N (.ifs c a b) := by
  intro sc X s G h
  unfold chkS at h
  split at h
  · obtain ⟨h, h3⟩ := bt h
    obtain ⟨h1, h2⟩ := bt h
    exact s_if ((q_all c).t G.g h1) (qa G h2) (qb G h3)
  · cases h
theorem qs_fors (t : Tg) (it : Ir) (b : SL) (qb : QSL B F W N b) : QS B F W N (.fors t it b) := by
  intro sc X s G h
  unfold chkS at h
  split at h
  · obtain ⟨h, h4⟩ := bt h
    obtain ⟨h, h3⟩ := bt h
    obtain ⟨h1, h2⟩ := bt h
    obtain ⟨ht, h2⟩ := bt h2
    exact s_for G.own G.g.calm h1 (q_ir it ht G.g h2) (tgA G.g h3) (qb G h4)
  · cases h
theorem qs_whl (c : E) (b : SL) (qb : QSL B F W N b) : QS B F W N (.whl c b) := by
  intro sc X s G h
  unfold chkS at h
  split at h
  · obtain ⟨h1, h2⟩ := bt h
    exact s_whl G.own ((q_all c).t G.g h1) (qb G h2)
  · cases h
theorem qs_pas : QS B F W N .pas := by
  intro sc X s G h
  unfold chkS at h
  split at h
  · exact s_pas
  · exact s_doc
  · cases h
theorem qs_bad : QS B F W N .bad := by
  intro sc X s G h
  exact ⟨fun pins s σ H D I ⟨m, h, ρ, S, en, w⟩ => False.elim w⟩
theorem qs_brk : QS B F W N .brk := by
  intro sc X s G h
  unfold chkS at h
  split at h
  · exact s_brk
  · cases h
theorem qs_cnt : QS B F W N .cnt := by
  intro sc X s G h
  unfold chkS at h
  split at h
  · exact s_cnt
  · cases h
theorem qs_setf (c : Str) (o : E) (f : Str) (e : E) : QS B F W N (.setf c o f e) := by
  intro sc X s G h
  unfold chkS at h
  split at h
  · obtain ⟨h, h5⟩ := bt h
    obtain ⟨h, h4⟩ := bt h
    obtain ⟨h, h3⟩ := bt h
    obtain ⟨h1, h2⟩ := bt h
    have e1 := of_decide_eq_true h1
    subst e1
    obtain ⟨ci, na⟩ := G.g.fld _ (List.contains_iff_mem.mp h2)
    exact s_setf h3 ci na ((q_all o).e G.g h4) ((q_all e).e G.g h5)
  · cases h
theorem qs_aug (sb : Bool) (i : Nat) (e : E) : QS B F W N (.aug sb i e) := by
  intro sc X s G h
  unfold chkS at h
  split at h
  · rename_i x p op v pos
    obtain ⟨h, h3⟩ := bt h
    obtain ⟨h1, h2⟩ := bt h
    obtain ⟨s1, s2, s3⟩ := G.g.sto h2
    have ho : op = (if sb then .Sub else .Add) := by
      cases sb <;> cases op <;> first | rfl | cases h1
    rw [ho]
    exact s_aug G.g.nd s1 s2 s3 ((q_all e).e G.g h3)
  · cases h
theorem par3_ok {x y z : Str} {px py pz pt p2 : Pos} {kt k2 : Nat} {a b c : Expr} {env : PySem.Env} (hk : env.scope.kind = .function) (h : par3B env.scope x y z px py pz a b c = true) : swappedStores [.Tuple [.Name x px, .Name y py, .Name z pz] kt pt] (.Tuple [a, b, c] k2 p2) env = pure (some [x, y, z]) := by
  unfold par3B at h
  obtain ⟨h, h13⟩ := bt h
  obtain ⟨h, h12⟩ := bt h
  obtain ⟨h, h11⟩ := bt h
  obtain ⟨h, h10⟩ := bt h
  obtain ⟨h, h9⟩ := bt h
  obtain ⟨h, h8⟩ := bt h
  obtain ⟨h, h7⟩ := bt h
  obtain ⟨h, h6⟩ := bt h
  obtain ⟨h, h5⟩ := bt h
  obtain ⟨h, h4⟩ := bt h
  obtain ⟨h, h3⟩ := bt h
  obtain ⟨h1, h2⟩ := bt h
  have kx : (env.kindOf x == some .local) = true := by
    show (env.scope.names.lookup x == some .local) = true
    rw [loc_of h1]; rfl
  have ky : (env.kindOf y == some .local) = true := by
    show (env.scope.names.lookup y == some .local) = true
    rw [loc_of h2]; rfl
  have kz : (env.kindOf z == some .local) = true := by
    show (env.scope.names.lookup z == some .local) = true
    rw [loc_of h3]; rfl
  have hb : env.blockKind = .function := by unfold Env.blockKind; rw [hk]; rfl
  have n1 : x ≠ y := of_decide_eq_true h6
  have n2 : x ≠ z := of_decide_eq_true h7
  have n3 : y ≠ z := of_decide_eq_true h8
  have hd : ([x, y, z] : List Str).eraseDups.length = 3 := by
    have e1 : (y == x) = false := by rw [beq_eq_false_iff_ne]; exact fun e => n1 e.symm
    have e2 : (z == x) = false := by rw [beq_eq_false_iff_ne]; exact fun e => n2 e.symm
    have e3 : (z == y) = false := by rw [beq_eq_false_iff_ne]; exact fun e => n3 e.symm
    simp [List.eraseDups_cons, e1, e2, e3]
  have f5 : ([a, b, c].all (foldedForSure 8)) = false := by
    simp only [List.all_cons, List.all_nil, Bool.and_true]
    rw [← Bool.and_assoc]
    exact notB h9
  have f6 : ([a, b, c].all (constantsAlone 8)) = false := by
    simp only [List.all_cons, List.all_nil, Bool.and_true]
    rw [← Bool.and_assoc]
    exact notB h10
  unfold swappedStores
  have kx2 : env.kindOf x = some .local := eq_of_beq kx
  have ky2 : env.kindOf y = some .local := eq_of_beq ky
  have kz2 : env.kindOf z = some .local := eq_of_beq kz
  have l2 : py.line = px.line := eq_of_beq h4
  have l3 : pz.line = px.line := eq_of_beq h5
  simp only [hb, List.length_cons, List.length_nil, List.any_cons, List.any_nil, f5, f6]
  simp [Expr.pos]
  rw [if_neg (by
    rintro (z | z | z)
    · cases a <;> first | exact Bool.noConfusion (show false = true from z) | exact Bool.noConfusion (show false = true from h11)
    · cases b <;> first | exact Bool.noConfusion (show false = true from z) | exact Bool.noConfusion (show false = true from h12)
    · cases c <;> first | exact Bool.noConfusion (show false = true from z) | exact Bool.noConfusion (show false = true from h13))]
  simp [kx2, ky2, kz2, l2, l3, hd]
theorem qs_par3 (i j k : Nat) (a b c : E) : QS B F W N (.par3 i j k a b c) := by
  intro sc X s G h
  unfold chkS at h
  split at h
  · obtain ⟨h, h10⟩ := bt h
    obtain ⟨h, h9⟩ := bt h
    obtain ⟨h, h8⟩ := bt h
    obtain ⟨h, h7⟩ := bt h
    obtain ⟨h, h6⟩ := bt h
    obtain ⟨h, h5⟩ := bt h
    obtain ⟨h, h4⟩ := bt h
    obtain ⟨h, h3⟩ := bt h
    obtain ⟨h1, h2⟩ := bt h
    have h7' := h7
    have hp := fun {pt p2 : Pos} {kt k2 : Nat} => par3_ok (pt := pt) (p2 := p2) (kt := kt) (k2 := k2) (env := X.env) (by rw [G.g.hsc]; exact G.kind) (by rw [G.g.hsc]; exact h7')
    unfold par3B at h7
    obtain ⟨h, k13⟩ := bt h7
    obtain ⟨h, k12⟩ := bt h
    obtain ⟨h, k11⟩ := bt h
    obtain ⟨h, _⟩ := bt h
    obtain ⟨h, _⟩ := bt h
    obtain ⟨h, _⟩ := bt h
    obtain ⟨h, _⟩ := bt h
    obtain ⟨h, _⟩ := bt h
    obtain ⟨h, _⟩ := bt h
    obtain ⟨h, _⟩ := bt h
    obtain ⟨h, k3⟩ := bt h
    obtain ⟨k1, k2⟩ := bt h
    exact s_par3 G.g.calm G.g.nd (by rw [G.g.hN]; exact of_decide_eq_true h1) (by rw [G.g.hN]; exact of_decide_eq_true h2) (by rw [G.g.hN]; exact of_decide_eq_true h3) (of_decide_eq_true h4) (of_decide_eq_true h5) (of_decide_eq_true h6)
      (by rw [G.g.hsc]; exact loc_of k1) (by rw [G.g.hsc]; exact loc_of k2) (by rw [G.g.hsc]; exact loc_of k3) k11 k12 k13 ((q_all a).e G.g h8) ((q_all b).e G.g h9) ((q_all c).e G.g h10) hp
  · cases h
theorem qsl_nil : QSL B F W N .nil := by
  intro sc X s G h
  cases s with
  | nil => exact ss_nil
  | cons _ _ => cases h
theorem qsl_cons (s : S) (r : SL) (qs : QS B F W N s) (qr : QSL B F W N r) : QSL B F W N (.cons s r) := by
  intro sc X l G h
  cases l with
  | nil => cases h
  | cons v t =>
    obtain ⟨h1, h2⟩ := bt (show (chkS B N sc s v && chkSL B N sc r t) = true from h)
    exact ss_cons (qs G h1) (qr G h2)
theorem qsl_all : ∀ t : SL, QSL B F W N t :=
  SL.rec (motive_1 := QS B F W N) (motive_2 := QSL B F W N) qs_asg qs_par qs_ex qs_ret qs_retN (fun c a b qa qb => qs_ifs c a b qa qb) (fun t it b qb => qs_fors t it b qb) (fun c b qb => qs_whl c b qb) qs_pas qs_bad qs_brk qs_cnt qs_setf qs_aug qs_par3 qsl_nil (fun s r qs qr => qsl_cons s r qs qr)
end
end MP
/-! MP: defs. -/
namespace MP
open PySem PySem.Spec PyProof.Rows L2
/-- a def's promise: it runs as g says, where the guards are none -/
def FnG (P : Program) (w : World) (K : PySem.W.Frag) (mg : Str → Option Value) (base : Heap) (k : Nat) (f : Addr) (fd : FuncData) (ps : List Str) (g : List MV → M MV) : Prop :=
  ∀ (A : Around) (outer : List PySem.Env) (s : Shared) (H : Hp) (args : Args) (us : List Value) (vs : List V) (Q : VK), Room (2 * k) A → A.guards = some [] → Env0 P w K mg base A outer s H → BindsTo s fd args (ps.zip us) → Vals vs us → rF K g vs H Q →
    codeAny (model P w) A (.call (.ref f) args) (CR CX0 outer P w H s Q E0) s
/-- a def with its slots' names -/
structure FD2 where
  d : FD
  N : List Str
def scopeB (N ps : List Str) (sc : Scope) : Bool := (match sc.kind with | .function => true | _ => false) && !sc.isCoroutine && !sc.isGenerator && decide N.Nodup && decide (N.take ps.length = ps) && ps.all (fun x => locB sc x || celB sc x) && sc.names.all fun y => match y.2 with | .free => false | _ => true
theorem scope_ok {N ps : List Str} {sc : Scope} (h : scopeB N ps sc = true) : FnScope N ps sc := by
  unfold scopeB at h
  obtain ⟨h, h7⟩ := bt h
  obtain ⟨h, h6⟩ := bt h
  obtain ⟨h, h5⟩ := bt h
  obtain ⟨h, h4⟩ := bt h
  obtain ⟨h, h3⟩ := bt h
  obtain ⟨h1, h2⟩ := bt h
  refine ⟨?_, notB h2, notB h3, of_decide_eq_true h4, of_decide_eq_true h5, fun x hx => ?_, fun y hy e => ?_⟩
  · split at h1
    · assumption
    · cases h1
  · rcases Bool.or_eq_true_iff.mp (List.all_eq_true.mp h6 x hx) with z | z
    · exact .inl (loc_of z)
    · exact .inr (cel_of z)
  · have z := List.all_eq_true.mp h7 y hy
    rw [e] at z
    cases z
def chkF (B : TB) (N : List Str) (d : FD) (df : Def) : Bool := decide (df.np = d.ps.length) && decide (df.ns = N.length) && scopeB N d.ps (defScope d.st) && chkSL B N (defScope d.st) df.body (defBody d.st)
/-- what the module holds, as the test was told -/
structure Facts (B : TB) (K : PySem.W.Frag) (mg : Str → Option Value) : Prop where
  con : ∀ p ∈ B.cs, ConOk K mg p.1 p.2
  blt : ∀ b ∈ B.bs, mg b = none
  cls : ∀ c ∈ B.cl, ClI K c ∧ mg c = some (.ref (He.ga K c))
  fld : ∀ p ∈ B.fl, Cls K (He.ga K p.1) ∧ NoAttr K (He.ga K p.1) p.2
  cc : ∀ p ∈ B.cc, mg p.1 = some (.ref (He.ga K p.1)) ∧ CcOk K p.1 p.2.1 p.2.2
  mks : ∀ p ∈ B.mks, mg p.2 = some (.ref (He.ga K p.2)) ∧ ∃ d, B.fns[p.1]? = some d ∧ Mk K (He.ga K p.2) (He.fAd K d.at_)
  eqs : ∀ p ∈ B.eqs, ∃ d, B.fns[p.1]? = some d ∧ PySem.W.findIn K (.ref (He.ga K p.2)) "__eq__" = some (some (.ref (He.fAd K d.at_))) ∧ PySem.W.isFn K (.ref (He.fAd K d.at_)) = true
  fns : ∀ f d, B.fns[f]? = some d → ∃ fd, (d.c = none → mg d.x = some (.ref (He.fAd K d.at_))) ∧ FunD K d.x d.q (defArgs d.st) (defBody d.st) (defScope d.st) [] [] (He.fAd K d.at_) fd ∧
    (∀ (s : Shared) (us : List Value), us.length = d.ps.length → BindsTo s fd ⟨us, []⟩ (d.ps.zip us)) ∧
    ∀ n ks arr, (f, n, ks, arr) ∈ B.ks → ∀ (s : Shared) (us ws : List Value), us.length = n → ws.length = ks.length → ∃ zs, pick (us ++ ws) arr = some zs ∧ BindsTo s fd ⟨us, ks.zip ws⟩ (d.ps.zip zs)
theorem callF_len {K : PySem.W.Frag} {T : List Def} {W n f : Nat} {ws : List MV} {df : Def} {m : List Addr} {h : MH} {H : Hp} {Q : VK} (e : T[f]? = some df) (w : WP K (rV K) (callF T W n f ws h) m H Q) : ws.length = df.np := by
  cases n with
  | zero => exact False.elim w
  | succ n =>
    by_cases hl : ws.length = df.np
    · exact hl
    · exfalso
      have e2 : callF T W (n + 1) f ws = M.stk := by
        show (match T[f]? with
          | some d => _
          | none => _) = _
        rw [e]
        exact if_neg hl
      rw [e2] at w
      exact w
theorem callF_succ {T : List Def} {W n f : Nat} {ws : List MV} {df : Def} (e : T[f]? = some df) (hl : ws.length = df.np) : callF T W (n + 1) f ws = clV df.cl ((evSL (callF T W n) W df.body (ws.map some ++ List.replicate (df.ns - df.np) none)).bnd fun p => match p.2 with
    | .nx => .ret .non
    | .rt v => .ret v
    | _ => .stk) := by
  show (match T[f]? with
    | some d => _
    | none => _) = _
  rw [e]
  exact if_pos hl
theorem env_start {K : PySem.W.Frag} {m : List Addr} {H : Hp} {N : List Str} {ws : List MV} {vs : List V} (r : VRs K m H ws vs) : EnvR K m H (ws.map some ++ List.replicate (N.length - ws.length) none) (L2.start N vs) := by
  unfold L2.start
  have hl := r.length
  refine ⟨by simp [hl], fun i v e => ?_⟩
  by_cases hi : i < ws.length
  · rw [List.getElem?_append_left (by simpa using hi), List.getElem?_map] at e
    cases e1 : ws[i]? with
    | none => rw [e1] at e; cases e
    | some x =>
      rw [e1] at e
      cases e
      obtain ⟨y, e2, q⟩ := r.get e1
      refine ⟨y, ?_, q⟩
      rw [List.getElem?_append_left (by simpa [← hl] using hi), List.getElem?_map, e2]
      rfl
  · rw [List.getElem?_append_right (by simpa using hi), List.getElem?_replicate] at e
    split at e <;> cases e
theorem pick_rel {K : PySem.W.Frag} {m : List Addr} {H : Hp} {xs : List MV} {vs : List V} {us : List Value} (r : VRs K m H xs vs) (q : Vals vs us) : ∀ {arr : List Nat} {ys : List MV} {zs : List Value}, pick xs arr = some ys → pick us arr = some zs → ∃ ws, VRs K m H ys ws ∧ Vals ws zs
  | [], ys, zs, e1, e2 => by
    cases e1; cases e2
    exact ⟨[], by unfold VRs; rfl, .nil⟩
  | i :: t, ys, zs, e1, e2 => by
    unfold pick at e1 e2
    split at e1
    · rename_i x ys' h1 h2
      cases e1
      split at e2
      · rename_i u zs' h3 h4
        cases e2
        obtain ⟨v, h5, rv⟩ := r.get h1
        obtain ⟨u', h6, ru⟩ := q.get h5
        rw [h3] at h6
        cases h6
        obtain ⟨ws, r1, r2⟩ := pick_rel r q h2 h4
        exact ⟨v :: ws, by unfold VRs; exact ⟨v, ws, rfl, rv, r1⟩, .cons ru r2⟩
      · cases e2
    · cases e1
section
variable {B : TB} {T : List Def} {W : Nat} {Ns : List (List Str)} {P : Program} {w : World} {K : PySem.W.Frag} {mg : Str → Option Value} {base : Heap}
theorem FnG.callM {Y : Cx} {k : Nat} {a : Addr} {fd : FuncData} {ps : List Str} {g : List MV → M MV} (F : FnG Y.prog Y.w Y.K Y.mg Y.base k a fd ps g) (hr : Room (2 * k) Y.A) (hg : Y.A.guards = some []) (hb : ∀ (s : Shared) (us : List Value), us.length = ps.length → BindsTo s fd ⟨us, []⟩ (ps.zip us))
    (hlen : ∀ ws m h H Q, WP Y.K (rV Y.K) (g ws h) m H Q → ws.length = ps.length) : CallM Y a g := by
  intro pins s σ H xs us Q I r q
  have hl : us.length = ps.length := by
    obtain ⟨m, h, ws, S, rw', wp⟩ := q
    rw [← r.length, ← rw'.length]
    exact hlen _ _ _ _ _ wp
  refine wpAny_call (codeAny_mono (F Y.A Y.stack s H ⟨us, []⟩ us xs Q hr hg I.env0 (hb s us hl) r q) fun o s' ho => ?_)
  cases o with
  | error e => exact False.elim ho
  | ok fl =>
    cases fl with
    | ret u => exact I.after ho
    | next => exact False.elim ho
    | brk => exact False.elim ho
    | cont => exact False.elim ho
theorem FnG.callK {Y : Cx} {k n : Nat} {ks : List Str} {arr : List Nat} {a : Addr} {fd : FuncData} {ps : List Str} {g : List MV → M MV} (F : FnG Y.prog Y.w Y.K Y.mg Y.base k a fd ps g) (hr : Room (2 * k) Y.A) (hg : Y.A.guards = some [])
    (hb : ∀ (s : Shared) (us ws : List Value), us.length = n → ws.length = ks.length → ∃ zs, pick (us ++ ws) arr = some zs ∧ BindsTo s fd ⟨us, ks.zip ws⟩ (ps.zip zs)) : CallK Y a n ks arr g := by
  intro pins s σ H vs zs us ws Q I r1 r2 l1 l2 ⟨m, h, xs, ys, S, q1, q2, wp⟩
  obtain ⟨zz, e1, b⟩ := hb s us ws l1 l2
  obtain ⟨yy, e2, wp⟩ := wp_opt wp
  obtain ⟨vv, q3, r3⟩ := pick_rel (q1.append q2) (r1.append r2) e2 e1
  refine wpAny_call (codeAny_mono (F Y.A Y.stack s H ⟨us, ks.zip ws⟩ zz vv Q hr hg I.env0 b r3 ⟨m, h, yy, S, q3, wp⟩) fun o s' ho => ?_)
  cases o with
  | error e => exact False.elim ho
  | ok fl =>
    cases fl with
    | ret u => exact I.after ho
    | next => exact False.elim ho
    | brk => exact False.elim ho
    | cont => exact False.elim ho
theorem FnG.mkM {Y : Cx} {k : Nat} {c : Str} {a : Addr} {fd : FuncData} {ps : List Str} {g : List MV → M MV} (F : FnG Y.prog Y.w Y.K Y.mg Y.base k a fd ps g) (Mm : Mk Y.K (He.ga Y.K c) a) (hr : Room (2 * k + 1) Y.A) (hg : Y.A.guards = some []) (hb : ∀ (s : Shared) (us : List Value), us.length = ps.length → BindsTo s fd ⟨us, []⟩ (ps.zip us))
    (hlen : ∀ ws m h H Q, WP Y.K (rV Y.K) (g ws h) m H Q → ws.length = ps.length) : MkM Y c g := by
  intro pins s σ H vs us Q I r h
  have hq := h (s.heap.objs.size + 1) s.heap.objs.size (I.hok.fresh (Nat.le_succ _)) (I.hok.fresh (Nat.le_refl _)) (Nat.ne_of_lt (Nat.lt_succ_self _))
  have I2 := Inv.made (C := He.ga Y.K c) I
  have r2 : Vals (V.ref (s.heap.objs.size + 1) :: vs) (Value.ref (s.heap.objs.size + 1) :: us) := .cons rfl r
  have hl : (Value.ref (s.heap.objs.size + 1) :: us).length = ps.length := by
    obtain ⟨m, h, ws, S, rw', wp⟩ := hq
    rw [← r2.length, ← rw'.length]
    exact hlen _ _ _ _ _ wp
  refine wpAny_call (make_map (f := a) I.kIn Mm.makes Mm.init (beq_iff_eq.mp Mm.fn) (codeAny_mono (F _ Y.stack _ _ ⟨Value.ref (s.heap.objs.size + 1) :: us, []⟩ (Value.ref (s.heap.objs.size + 1) :: us) _ _ (hr.make (He.ga Y.K c) us []) hg
    (I2.env0.make (He.ga Y.K c) us []) (hb _ (Value.ref (s.heap.objs.size + 1) :: us) hl) r2 hq) fun r s' hq' => ?_))
  cases r with
  | error e => exact False.elim hq'
  | ok fl =>
    cases fl with
    | ret u =>
      obtain ⟨v, H', I3, rv, ev, q3⟩ := I2.after hq'
      subst ev
      exact ⟨rv, ⟨V.ref (s.heap.objs.size + 1), H', I3, rfl, q3⟩⟩
    | next => exact False.elim hq'
    | brk => exact False.elim hq'
    | cont => exact False.elim hq'
/-- the body of one def -/
theorem fn_step {n f : Nat} {d : FD} {df : Def} {N : List Str} {a : Addr} {fd : FuncData} (ok : chkF B N d df = true) (hT : T[f]? = some df) (FA : Facts B K mg) (sm : ∃ mm, base.Ns sysModules mm) (F : FunD K d.x d.q (defArgs d.st) (defBody d.st) (defScope d.st) [] [] a fd)
    (hB : ∀ (f : Nat) (d : FD), B.fns[f]? = some d → ∃ df : Def, T[f]? = some df ∧ df.np = d.ps.length)
    (ih : ∀ (f : Nat) (d : FD) (a : Addr) (fd : FuncData), B.fns[f]? = some d → FunD K d.x d.q (defArgs d.st) (defBody d.st) (defScope d.st) [] [] a fd → FnG P w K mg base n a fd d.ps (callF T W n f)) : FnG P w K mg base (n + 1) a fd d.ps (callF T W (n + 1) f) := by
  obtain ⟨ok, c4⟩ := bt ok
  obtain ⟨ok, c3⟩ := bt ok
  obtain ⟨c1, c2⟩ := bt ok
  have SC := scope_ok c3
  have np := of_decide_eq_true c1
  have ns := of_decide_eq_true c2
  obtain ⟨oc, od, dV, kV, doc, pm, an, cdv, ct, osl, rfl, lk, hcd, _, _⟩ := F.ex
  intro A outer s H args us vs Q room hgd ev hb rv ⟨m, h, ws, S, rw', wp⟩
  have lw := callF_len hT wp
  have lv : vs.length = d.ps.length := by rw [← rw'.length, lw, np]
  have kin : K.In s.heap := ev.mod.kin.keeps fun q u z => (ev.bs q u z).1
  have kinds : ∀ z ∈ d.ps.zip us, (defScope d.st).names.lookup z.1 = some .local ∨ ((defScope d.st).names.lookup z.1 = some .cell ∧ ((cellsFrom (s.heap.objs.size + 1) (defScope d.st).names []).lookup z.1).isSome = true) := by
    rintro ⟨x, v⟩ hz
    rcases SC.par x (List.of_mem_zip hz).1 with z | z
    · exact .inl z
    · exact .inr ⟨z, PySem.W.cellsFrom_some _ _ _ (.inl z)⟩
  refine codeAny_call_function room.depth (kin _ _ lk) rfl SC.co SC.gen rfl (PySem.W.codeRec_of kin hcd) (hb _ _ _ _ (wpAny_newFunctionEnv_cells SC.kind kinds fun env he s1 ic => ?_))
  subst he
  refine ⟨(ev.mod.nolimit.keeps fun q u z => (ev.bs q u z).1).keeps ic.toInCall.keep, codeAny_func ?_⟩
  have room2 : Room (2 * n + 1) (A.deeper (envOfC d.q (defScope d.st) s.heap.objs.size a cdv)) := Room.deeper (k := 2 * n + 1) room _
  have room' : Room (2 * n) (A.deeper (envOfC d.q (defScope d.st) s.heap.objs.size a cdv)) := room2.mono (Nat.le_succ _)
  have G : GS B (callF T W n) N (defScope d.st) (cxOf CX0 P w K mg base N d.q (defScope d.st) a cdv A outer s H E0) := {
    g := {
      hN := rfl
      nd := SC.nd
      hsc := rfl
      calm := rfl
      gd := hgd
      sm := sm
      hu := by
        have z := room'.un
        show (A.deeper (envOfC d.q (defScope d.st) s.heap.objs.size a cdv)).units + 65 < cLine
        omega
      hfb := fun _ _ => rfl
      con := FA.con
      fun_ := fun f' d' hd hc => by
        obtain ⟨fd', e1, e2, e3, e4⟩ := FA.fns f' d' hd
        have F' := ih f' d' _ fd' hd e2
        obtain ⟨df', t1, t2⟩ := hB f' d' hd
        refine ⟨_, e1 hc, e2.kp, fun Y sY => ?_, fun n' ks arr hk Y sY => ?_⟩
        · obtain ⟨h1, h2, h3, h4, h5, h6⟩ := sY
          refine FnG.callM (k := n) (fd := fd') (ps := d'.ps) ?_ (by rw [h6]; exact room') (by rw [h6]; exact hgd) e3 fun ws m h H Q wp => by rw [callF_len t1 wp, t2]
          rw [h1, h2, h3, h4, h5]
          exact F'
        · obtain ⟨h1, h2, h3, h4, h5, h6⟩ := sY
          refine FnG.callK (k := n) (fd := fd') (ps := d'.ps) ?_ (by rw [h6]; exact room') (by rw [h6]; exact hgd) (e4 n' ks arr hk)
          rw [h1, h2, h3, h4, h5]
          exact F'
      blt := FA.blt
      cls := FA.cls
      fld := FA.fld
      cc := FA.cc
      mks := fun p hp => by
        obtain ⟨hm, d', hd, mk⟩ := FA.mks p hp
        obtain ⟨fd', e1, e2, e3, e4⟩ := FA.fns p.1 d' hd
        have F' := ih p.1 d' _ fd' hd e2
        obtain ⟨df', t1, t2⟩ := hB p.1 d' hd
        refine ⟨hm, mk.kp, fun Y sY => ?_⟩
        obtain ⟨h1, h2, h3, h4, h5, h6⟩ := sY
        refine FnG.mkM (k := n) (a := He.fAd K d'.at_) (fd := fd') (ps := d'.ps) ?_ (by rw [h3]; exact mk) (by rw [h6]; exact room2) (by rw [h6]; exact hgd) e3 fun ws m h H Q wp => by rw [callF_len t1 wp, t2]
        rw [h1, h2, h3, h4, h5]
        exact F'
      eqs := fun p hp => by
        obtain ⟨d', hd, f1, f2⟩ := FA.eqs p hp
        obtain ⟨fd', e1, e2, e3, e4⟩ := FA.fns p.1 d' hd
        have F' := ih p.1 d' _ fd' hd e2
        obtain ⟨df', t1, t2⟩ := hB p.1 d' hd
        refine ⟨_, f1, f2, fun Y sY => ?_⟩
        obtain ⟨h1, h2, h3, h4, h5, h6⟩ := sY
        refine FnG.callM (k := n) (fd := fd') (ps := d'.ps) ?_ (by rw [h6]; exact room') (by rw [h6]; exact hgd) e3 fun ws m h H Q wp => by rw [callF_len t1 wp, t2]
        rw [h1, h2, h3, h4, h5]
        exact F' }
    kind := SC.kind
    own := passes_of rfl }
  have body := qsl_all (B := B) (F := callF T W n) (W := W) (N := N) df.body G c4
  have I : Inv (cxOf CX0 P w K mg base N d.q (defScope d.st) a cdv A outer s H E0) [] (L2.start N vs) H s1 := inv_start SC room.hd ev lv rv ic
  rw [callF_succ hT lw] at wp
  have en := env_start (N := N) rw'
  have el : N.length - ws.length = df.ns - df.np := by rw [ns, lw]
  rw [el] at en
  have run := fun (Q' : VK) (wp : WP K (rV K) (((evSL (callF T W n) W df.body (ws.map some ++ List.replicate (df.ns - df.np) none)).bnd fun p => match p.2 with
    | .nx => .ret .non
    | .rt v => .ret v
    | _ => .stk) h) m H Q') => (show WS K (evSL (callF T W n) W df.body (ws.map some ++ List.replicate (df.ns - df.np) none) h) m H { nx := fun _ H' => Q' .non H', rt := Q' } from by
    unfold M.bnd at wp
    cases e : evSL (callF T W n) W df.body (ws.map some ++ List.replicate (df.ns - df.np) none) h with
    | ok p h' =>
      rw [e] at wp
      dsimp only at wp
      obtain ⟨ρ', fl⟩ := p
      intro m' H' σ' PP SS ee
      cases fl with
      | nx => exact wp m' H' .non PP SS vr_non
      | rt v => exact fun x rx => wp m' H' x PP SS rx
      | bk => exact False.elim wp
      | ct => exact False.elim wp
    | exc _ _ => rw [e] at wp; exact False.elim wp
    | stuck => rw [e] at wp; exact False.elim wp)
  have go := fun (Q' : VK) (wp : WP K (rV K) (((evSL (callF T W n) W df.body (ws.map some ++ List.replicate (df.ns - df.np) none)).bnd fun p => match p.2 with
    | .nx => .ret .non
    | .rt v => .ret v
    | _ => .stk) h) m H Q') (Fin : Flow → Shared → Prop) (k : ∀ (τ : L2.St) (H' : Hp) (v : V) (u : Value) (fl : Flow) (s' : Shared), (fl = .ret u ∨ (fl = .next ∧ u = .none)) → Inv (cxOf CX0 P w K mg base N d.q (defScope d.st) a cdv A outer s H E0) [] τ H' s' → L2.RelV v u → Q' v H' → Fin fl s') =>
    wpAny_mono (body.run [] s1 (L2.start N vs) H _ I ⟨m, h, _, S, en, run Q' wp⟩) (fun fl s' hs => (show Fin fl s' from by
      cases fl with
      | next =>
        obtain ⟨τ, H', J, q⟩ := hs
        exact k τ H' .non .none .next s' (.inr ⟨rfl, rfl⟩) J rfl q
      | ret u =>
        obtain ⟨v, τ, H', J, r, q⟩ := hs
        exact k τ H' v u (.ret u) s' (.inl rfl) J r q
      | brk =>
        obtain ⟨_, _, _, q⟩ := hs
        exact False.elim q
      | cont =>
        obtain ⟨_, _, _, q⟩ := hs
        exact False.elim q)) fun e s' hs => hs
  have fin : ∀ {τ : L2.St} {H' : Hp} {v : V} {u : Value} {s' : Shared}, Inv (cxOf CX0 P w K mg base N d.q (defScope d.st) a cdv A outer s H E0) [] τ H' s' → L2.RelV v u → Q v H' → CE outer P w H s Q u s' := fun J r q => ⟨_, _, J.os, J.bare, J.base, J.hok, r, q⟩
  cases hcl : df.cl with
  | false =>
    rw [hcl] at wp
    refine go Q wp _ fun τ H' v u fl s' e J r q => ?_
    rcases e with rfl | ⟨rfl, rfl⟩
    · exact fin J r q
    · exact fin J r q
  | true =>
    rw [hcl] at wp
    have wp : WP K (rV K) (bvV ((evSL (callF T W n) W df.body (ws.map some ++ List.replicate (df.ns - df.np) none)).bnd fun p => match p.2 with
      | .nx => .ret .non
      | .rt v => .ret v
      | _ => .stk) h) m H Q := wp
    obtain ⟨v, h2, e⟩ := val_ok wp
    refine go (fun x H1 => ∃ m1, Post K m H m1 H1 ∧ Sim K m1 h2 H1 ∧ VR K m1 H1 v x) (by rw [e]; exact fun m1 H1 x P1 S1 r => ⟨m1, P1, S1, r⟩) _ fun τ H' x u fl s' e' J r q => ?_
    obtain ⟨m1, P1, S1, rr⟩ := q
    obtain ⟨ps, nd, lk', finq⟩ := wp_val S wp e P1 S1 rr
    obtain ⟨H2, J2, L⟩ := lock_all ps nd J lk'
    rcases e' with rfl | ⟨rfl, rfl⟩
    · exact fin J2 r (finq H2 L)
    · exact fin J2 r (finq H2 L)
/-- every def of the table, at every level -/
theorem fn_all (hB : ∀ (f : Nat) (d : FD), B.fns[f]? = some d → ∃ (df : Def) (N : List Str), T[f]? = some df ∧ chkF B N d df = true) (FA : Facts B K mg) (sm : ∃ mm, base.Ns sysModules mm) : ∀ (n f : Nat) (d : FD) (a : Addr) (fd : FuncData), B.fns[f]? = some d → FunD K d.x d.q (defArgs d.st) (defBody d.st) (defScope d.st) [] [] a fd → FnG P w K mg base n a fd d.ps (callF T W n f)
  | 0, f, d, a, fd, hd, F => fun A outer s H args us vs Q room hgd ev hb rv ⟨m, h, ws, S, rw', wp⟩ => False.elim wp
  | n + 1, f, d, a, fd, hd, F => by
    obtain ⟨df, N, h1, h2⟩ := hB f d hd
    exact fn_step h2 h1 FA sm F (fun f d hd => by
      obtain ⟨df, N, h1, h2⟩ := hB f d hd
      obtain ⟨h2, _⟩ := bt h2
      obtain ⟨h2, _⟩ := bt h2
      exact ⟨df, h1, of_decide_eq_true (bt h2).1⟩) (fun f d a fd hd F => fn_all hB FA sm n f d a fd hd F)
end
end MP
/-! MP: a law's end. -/
namespace MP
open PySem PySem.Spec PyProof.Rows L2
/-- the script alone is told: frozen at a, or not at all -/
structure Told (K : PySem.W.Frag) (P : Program) (w : World) (t : Shared) (H : Hp) (a : Addr) (ns : List Int) : Prop where
  all : ∀ q, H q = none ∨ (q = a ∧ ∃ u xs, H q = some (.frz u (.lst xs)))
  ro : RoL K H a (ns.map V.int)
  ok : HOk P w H t.heap
  own : H a ≠ none → K.lookup a = none
theorem Told.eq {K : PySem.W.Frag} {P : Program} {w : World} {t : Shared} {H : Hp} {a : Addr} {ns : List Int} (D : Told K P w t H a ns) {q : Addr} (h : H q ≠ none) : q = a := (D.all q).elim (fun z => absurd z h) fun z => z.1
theorem vrs_of_ints {K : PySem.W.Frag} {m : List Addr} {H : Hp} : ∀ ns : List Int, VRs K m H (ns.map MV.int) (ns.map V.int)
  | [] => by show VRs K m H [] []; unfold VRs; rfl
  | i :: r => by
    show VRs K m H (.int i :: r.map MV.int) (.int i :: r.map V.int)
    unfold VRs
    exact ⟨_, _, rfl, vr_int i, vrs_of_ints r⟩
section
variable {P : Program} {w : World} {K : PySem.W.Frag} {mg mb : Str → Option Value} {k : Nat} {f a : Addr} {fd : FuncData} {x : Str} {g : List MV → M MV} {t : Shared} {vs : List Value} {ns : List Int}
theorem law_told {H : Hp} (D : Told K P w t H a ns) (kin : K.In t.heap) (hmg : t.heap.Ns mainGlobals mg) (hmb : t.heap.Ns builtinsNs mb) (hbt : ∀ z : Str, z ≠ "__name__" → mb z = bootBuiltins z) (hli : t.heap.NoLimit) (hsm : ∃ mm, t.heap.Ns sysModules mm) (hge : t.gens = #[])
    (ha : t.heap.get? a = some { cls := .type "list", data := .seq vs.toArray }) (room : Room (2 * k) callerA) (F : ∀ base : Heap, K.In base → base.Ns mainGlobals mg → (∃ mm, base.Ns sysModules mm) → FnG P w K mg base k f fd [x] g) (hbi : ∀ (s : Shared) (u : Value), BindsTo s fd ⟨[u], []⟩ [(x, u)])
    (hres : ∃ h', g [.ro (ns.map MV.int)] [] = .ok (.bl true) h') : codeAny (model P w) callerA (.call (.ref f) ⟨[.ref a], []⟩) (fun r s' => r = .ok (.ret (.bool true)) ∧ OldK t.heap s'.heap ∧ s'.os = t.os ∧ AllBare s'.gens) t := by
  -- a dict is not the script
  have free : ∀ {q : Addr} {o : Obj} {es : Array DictEntry} {n : Nat}, t.heap.get? q = some o → o.data = .dict es n → H q = none := by
    intro q o es n e d
    rcases D.all q with z | ⟨z, _⟩
    · exact z
    · subst z
      rw [ha] at e
      cases e
      cases d
  have space : ∀ {q : Addr} {m : Str → Option Value}, t.heap.Ns q m → (hidT t.heap H).Ns q m := by
    rintro q m ⟨o, es, n, e, d, r⟩
    exact ⟨o, es, n, hidT_get e (free e d), d, r⟩
  have kb : K.In (hidT t.heap H) := by
    intro q o e
    refine hidT_get (kin q o e) (Classical.byContradiction fun z => ?_)
    have eq := D.eq z
    subst eq
    rw [D.own z] at e
    cases e
  have md : Mod K mg (hidT t.heap H) := by
    obtain ⟨mc, l1, l2⟩ := hli
    exact ⟨kb, space hmg, ⟨mb, space hmb, hbt⟩, ⟨mc, space l1, l2⟩⟩
  have sm : ∃ mm, (hidT t.heap H).Ns sysModules mm := by
    obtain ⟨mm, z⟩ := hsm
    exact ⟨mm, space z⟩
  have ev : Env0 P w K mg (hidT t.heap H) callerA [] t H := {
    frames := rfl
    mod := md
    bs := fun _ _ e => of_hidT e
    bsz := Nat.le_of_eq (hidT_size t.heap H)
    funs := trivial
    frf := fun q hq => by cases (show q ∈ ([] : List Addr) from hq)
    hok := D.ok
    bare := .of_eq hge }
  have rf : rF K g [V.ref a] H (fun v _ => v = .bl true) := by
    obtain ⟨h', e⟩ := hres
    refine ⟨[], [], [.ro (ns.map MV.int)], ⟨rfl, List.nodup_nil, fun l b o e => by simp at e⟩, VRs.one (by unfold VR; exact ⟨a, _, rfl, D.ro, vrs_of_ints ns⟩), ?_⟩
    rw [e]
    exact fun m' H' v PP SS r => vr_bl' r
  refine codeAny_mono (F _ kb (space hmg) sm callerA [] t H ⟨[.ref a], []⟩ [.ref a] [.ref a] _ room rfl ev (hbi t (.ref a)) (.cons rfl .nil) rf) fun o t' ho => ?_
  cases o with
  | error e => exact False.elim ho
  | ok fl =>
    cases fl with
    | ret u =>
      obtain ⟨v, H', os, bare, un, ok', rv, rfl⟩ := ho
      obtain rfl : u = Value.bool true := rv
      refine ⟨rfl, OldK.of_keep fun q o e => ?_, os, bare⟩
      rcases D.all q with z | ⟨_, u, xs, z⟩
      · exact un.keep q o e z (fun y => by cases (show q ∈ ([] : List Addr) from y)) List.not_mem_nil
      · obtain ⟨e1, _⟩ := D.ok q _ z
        obtain ⟨e2, _⟩ := ok' q _ (un.frzs q u _ z)
        rw [e] at e1
        cases e1
        exact e2
    | next => exact False.elim ho
    | brk => exact False.elim ho
    | cont => exact False.elim ho
theorem told_of (kin : K.In t.heap) (ha : t.heap.get? a = some { cls := .type "list", data := .seq vs.toArray }) (hi : IntsAre vs ns) (hl : ns.length ≤ sizeLine) : ∃ H, Told K P w t H a ns := by
  have rv := vals_ints hi
  cases hk : K.lookup a with
  | some o =>
    have e := kin a o hk
    rw [ha] at e
    cases e
    exact ⟨fun _ => none, fun _ => .inl rfl, .inr ⟨vs, _, hk, by rw [hi.length]; exact hl, rv⟩, (fun q u z => by cases (show (none : Option HO) = some u from z)), fun z => absurd rfl z⟩
  | none =>
    refine ⟨fun q => if q = a then some (.frz { cls := .type "list", data := .seq vs.toArray } (.lst (ns.map V.int))) else none, fun q => ?_, .inl ⟨{ cls := .type "list", data := .seq vs.toArray }, if_pos rfl⟩, fun q u z => ?_, fun _ => hk⟩
    · by_cases e : q = a
      · exact .inr ⟨e, _, _, if_pos e⟩
      · exact .inl (if_neg e)
    · by_cases e : q = a
      · have z2 := (if_pos e).symm.trans z
        cases z2
        subst e
        exact ⟨ha, by rw [List.length_map]; exact hl, vs, _, rv, ha⟩
      · cases (if_neg e).symm.trans z
end
/-- what a law's walk wants: the module's facts, the terms' answer -/
theorem walk_mp {l : PySem.W.OpenLaw} {n k : Nat} {q : Program} {loose : List Str} {XP : (Str → Option Value) → Heap → Prop} {YP : World → Heap → Prop} {d : DefRec} {B : TB} {T : List Def} {W i : Nat} {D : FD} {x : Str}
    (hn : l.most = some n) (hn2 : n ≤ sizeLine) (hdf : d.params.defaults = []) (room : Room (2 * k) callerA) (hno : importsNone q = true) (hD : B.fns[i]? = some D) (hx : D.ps = [x]) (hname : D.x = d.name) (hDc : D.c = none)
    (hB : ∀ (f : Nat) (d : FD), B.fns[f]? = some d → ∃ (df : Def) (N : List Str), T[f]? = some df ∧ chkF B N d df = true)
    (F : ∀ (w : World) (mg : Str → Option Value) (h : Heap), YP w h → h.Ns mainGlobals mg → ∃ K : PySem.W.Frag, K.In h ∧ Facts B K mg)
    (hres : ∀ ns : List Int, ns.length ≤ n → ∃ h', callF T W k i [.ro (ns.map MV.int)] [] = .ok (.bl true) h') : PySem.W.WalkO q loose XP YP l.row.toRowW d [] (fun f vs => PySem.call f vs) := by
  refine Att.attach_call hn hdf fun w s₀ s₁ mg mb fa o pm cd doc a vs ns G Y ho hd hcd hmg hobj hints hlen hg => ?_
  obtain ⟨K, kin, FA⟩ := F w mg _ Y G.T.g
  obtain ⟨fd, e1, e2, e3, _⟩ := FA.fns i D hD
  have e1 := e1 hDc
  rw [hname, hmg] at e1
  have e1 := Value.ref.inj (Option.some.inj e1)
  rw [← e1] at e2
  obtain ⟨H, told⟩ := told_of (P := l.prog) (w := w) kin hobj hints (Nat.le_trans hlen hn2)
  obtain ⟨mm, hmm, _⟩ := (G.T.seer hno).mods
  have F2 : ∀ base : Heap, K.In base → base.Ns mainGlobals mg → (∃ mm, base.Ns sysModules mm) → FnG l.prog w K mg base k fa fd [x] (callF T W k i) := fun base _ _ sm => by
    have r := fn_all (P := l.prog) (w := w) (W := W) hB FA sm k i D fa fd hD e2
    rw [hx] at r
    exact r
  refine law_told told kin G.T.g G.T.b G.T.builtins G.T.nolimit ⟨mm, hmm⟩ hg hobj room F2 (fun s u => ?_) (hres ns hlen)
  have b := e3 s [u] (by rw [hx]; rfl)
  rw [hx] at b
  exact b
end MP
/-! MP: the head's facts for a table. -/
namespace MP
open PySem PySem.Spec PyProof.Rows L2
def conF (p : Str × MV) : List He.Fa := match p.2 with
  | .int i => [.int p.1 i]
  | .str s => [.str p.1 s]
  | _ => []
def conB (p : Str × MV) : Bool := match p.2 with
  | .int _ => true
  | .str _ => true
  | _ => false
/-- a def's facts -/
def defF (d : FD) : List He.Fa := match d.c with
  | none => [.glo d.x]
  | some c => [.meth c d.x, .glo c]
def faOf (B : TB) : List He.Fa := B.fns.flatMap defF ++ (B.bs.map He.Fa.free ++ (B.cs.flatMap conF ++ (B.cl.flatMap (fun c => [He.Fa.cls c, .glo c]) ++ (B.fl.flatMap (fun p => [He.Fa.cls p.1, .noat p.1 p.2]) ++ (B.cc.map (fun p => He.Fa.glo p.1) ++ B.mks.flatMap (fun p => [He.Fa.mkr p.2, .glo p.2]))))))
def fnDs (B : TB) : List He.DefD := B.fns.map fun d => ⟨d.at_, d.x, d.q, defArgs d.st, defBody d.st, defScope d.st, [], []⟩
/-! ### more facts of the heap -/
open PySem.W (nsIn findIn specialIn takesIn mroIn kitOne readsIn findCls) in
def clB (K : PySem.W.Frag) (c : Str) : Bool := He.eqO (findIn K (.ref (He.ga K c)) "__class__") (some (some (.builtin "object.__class__"))) && He.eqO (specialIn K (.builtin "object.__class__") "__get__") (some (some (.builtin "getset_descriptor.__get__"))) &&
  decide (takesIn K (.builtin "object.__class__") = some true) && decide (mroIn K (He.ga K c) (.type "object") = some true) && tyL.all fun n => decide (kitOne K (.type n) (.ref (He.ga K c)) = some false)
def ccB (K : PySem.W.Frag) (p : Str × Str × MV) : Bool := PySem.W.readsIn K (He.ga K p.1) (.type "type") && He.eqO (PySem.W.specialIn K (.ref (He.ga K p.1)) "__getattribute__") (some (some (.builtin "type.__getattribute__"))) &&
  match PySem.W.findCls K (.ref (He.ga K p.1)) (.type "type") p.2.1, p.2.2 with
  | some (.val (.int i _)), .int j => decide (i = j)
  | _, _ => false
def exB (B : TB) (K : PySem.W.Frag) : Bool := B.cl.all (clB K) && B.cc.all (ccB K)
def mksB (B : TB) : Bool := B.mks.all fun p => match B.fns[p.1]? with
  | some d => decide (d.c = some p.2) && decide (d.x = "__init__")
  | none => false
def eqsB (B : TB) : Bool := B.eqs.all fun p => match B.fns[p.1]? with
  | some d => decide (d.c = some p.2) && decide (d.x = "__eq__")
  | none => false
/-- the head's facts with a Bool of one's own -/
def obsE (n : Nat) (fa : List He.Fa) (fn : List He.DefD) (ex : PySem.W.Frag → Bool) (g : Addr → Option Obj) : He.AlD × Bool := (He.obsD fa fn (He.frG g (cStatics :: He.asD g n)), ex (He.frG g (cStatics :: He.asD g n)))
def hookE (n : Nat) (fa : List He.Fa) (fn : List He.DefD) (ex : PySem.W.Frag → Bool) : PySem.W.Hook where
  α := He.AlD × Bool
  obs := fun s => obsE n fa fn ex s.heap.get?
  val := fun _ => (He.valD fn, true)
  says := fun _ h => ∃ K : PySem.W.Frag, K.In h ∧ He.SaysD fa fn K ∧ ex K = true
  of := fun _ _ e => ⟨_, He.frG_in, congrArg (fun z : He.AlD × Bool => z.1) e, congrArg (fun z : He.AlD × Bool => z.2) e⟩
  keeps := fun _ _ _ ⟨K, hK, c⟩ k => ⟨K, PySem.W.Frag.In.keeps hK k, c⟩
theorem obsE_eq {n : Nat} {fa : List He.Fa} {fn : List He.DefD} {ex : PySem.W.Frag → Bool} {g : Addr → Option Obj} {s : Shared} (h : ∀ a, g a = s.heap.get? a) : obsE n fa fn ex g = (hookE n fa fn ex).obs s := by
  have e : g = s.heap.get? := funext h
  rw [e] <;> rfl
def chkAll (B : TB) : List FD → List Def → List (List Str) → Bool
  | [], _, _ => true
  | d :: ds, t :: ts, n :: ns => chkF B n d t && chkAll B ds ts ns
  | _ :: _, _, _ => false
theorem chkAll_at {B : TB} : ∀ {ds : List FD} {ts : List Def} {ns : List (List Str)}, chkAll B ds ts ns = true → ∀ (f : Nat) (d : FD), ds[f]? = some d → ∃ (df : Def) (N : List Str), ts[f]? = some df ∧ chkF B N d df = true
  | [], _, _, _, f, d, e => by simp at e
  | x :: ds, [], _, h, _, _, _ => by cases h
  | x :: ds, _ :: _, [], h, _, _, _ => by cases h
  | x :: ds, t :: ts, n :: ns, h, f, d, e => by
    obtain ⟨h1, h2⟩ := bt (show (chkF B n x t && chkAll B ds ts ns) = true from h)
    cases f with
    | zero =>
      simp at e
      subst e
      exact ⟨t, n, rfl, h1⟩
    | succ f => exact chkAll_at h2 f d (by simpa using e)
/-- how a def's arguments are bound -/
def BindH (d : FD) : Prop := ∀ (kV doc pm : Value) (an : Option Addr) (cdv ct : Value) (us : List Value), us.length = d.ps.length → bindArgs (PySem.W.fnOf d.x d.q (defArgs d.st) (defBody d.st) (defScope d.st) .none kV doc pm an cdv ct) ⟨us, []⟩ = pure (d.ps.zip us)
def BindK (d : FD) (n : Nat) (ks : List Str) (arr : List Nat) : Prop := ∀ (kV doc pm : Value) (an : Option Addr) (cdv ct : Value) (us ws : List Value), us.length = n → ws.length = ks.length → ∃ zs, pick (us ++ ws) arr = some zs ∧ bindArgs (PySem.W.fnOf d.x d.q (defArgs d.st) (defBody d.st) (defScope d.st) .none kV doc pm an cdv ct) ⟨us, ks.zip ws⟩ = pure (d.ps.zip zs)
theorem con_ok {K : PySem.W.Frag} {h : Heap} {mg : Str → Option Value} (kin : K.In h) (G : h.Ns mainGlobals mg) {p : Str × MV} (hb : conB p = true) (c : ∀ f ∈ conF p, f.ok K = true) : ConOk K mg p.1 p.2 := by
  obtain ⟨x, v⟩ := p
  cases v with
  | int i =>
    obtain ⟨t, e⟩ := He.int_ok kin G (c _ (List.mem_singleton.mpr rfl))
    exact ⟨_, .int i, e, ⟨t, rfl⟩, fun _ _ => vr_int i⟩
  | str s =>
    obtain ⟨t, e⟩ := He.str_ok kin G (c _ (List.mem_singleton.mpr rfl))
    exact ⟨_, .str s, e, ⟨t, rfl⟩, fun _ _ => vr_str s⟩
  | _ => cases hb
theorem cl_ok {K : PySem.W.Frag} {c : Str} (h1 : Cls K (He.ga K c)) (h : clB K c = true) : ClI K c := by
  unfold clB at h
  obtain ⟨h, h6⟩ := bt h
  obtain ⟨h, h5⟩ := bt h
  obtain ⟨h, h4⟩ := bt h
  obtain ⟨h2, h3⟩ := bt h
  exact ⟨h1, He.eqO_ok h2, He.eqO_ok h3, of_decide_eq_true h4, of_decide_eq_true h5, fun n hn => of_decide_eq_true (List.all_eq_true.mp h6 n hn)⟩
theorem cc_ok {K : PySem.W.Frag} {p : Str × Str × MV} (h : ccB K p = true) : CcOk K p.1 p.2.1 p.2.2 := by
  unfold ccB at h
  obtain ⟨h, h3⟩ := bt h
  obtain ⟨h1, h2⟩ := bt h
  split at h3
  · rename_i i t j e1 e2
    have e := of_decide_eq_true h3
    subst e
    rw [e2]
    exact ⟨_, _, .int i, ⟨h1, He.eqO_ok h2⟩, ⟨e1, ⟨_, rfl⟩⟩, fun _ _ => vr_int i⟩
  · cases h3
theorem facts_of {B : TB} {K : PySem.W.Frag} {h : Heap} {mg : Str → Option Value} (kin : K.In h) (G : h.Ns mainGlobals mg) (c : He.SaysD (faOf B) (fnDs B) K) (ex : exB B K = true) (hc : B.cs.all conB = true) (hmk : mksB B = true) (heq : eqsB B = true) (hb : ∀ d ∈ B.fns, BindH d) (hk : ∀ f d n ks arr, B.fns[f]? = some d → (f, n, ks, arr) ∈ B.ks → BindK d n ks arr) : Facts B K mg := by
  have all : ∀ f ∈ faOf B, f.ok K = true := fun f hf => by
    obtain ⟨i, e⟩ := List.getElem?_of_mem hf
    exact c.fact i e
  obtain ⟨ex1, ex2⟩ := bt ex
  have inD : ∀ d ∈ B.fns, ∀ f ∈ defF d, f.ok K = true := fun d hd f hf => all f (by
    unfold faOf
    exact List.mem_append_left _ (List.mem_flatMap.mpr ⟨d, hd, hf⟩))
  refine {
    con := fun p hp => con_ok kin G (List.all_eq_true.mp hc p hp) fun f hf => all f ?_
    blt := fun b hb => He.free_ok kin G (all _ ?_)
    cls := fun x hx => ⟨cl_ok (He.cls_ok (all (.cls x) ?_)) (List.all_eq_true.mp ex1 x hx), He.glo_ok kin G (all (.glo x) ?_)⟩
    fld := fun p hp => ⟨He.cls_ok (all (.cls p.1) ?_), He.noat_ok (all (.noat p.1 p.2) ?_)⟩
    cc := fun p hp => ⟨He.glo_ok kin G (all (.glo p.1) ?_), cc_ok (List.all_eq_true.mp ex2 p hp)⟩
    mks := fun p hp => ⟨He.glo_ok kin G (all (.glo p.2) ?_), ?_⟩
    eqs := fun p hp => ?_
    fns := fun f d hd => ?_ }
  · unfold faOf
    exact List.mem_append_right _ (List.mem_append_right _ (List.mem_append_left _ (List.mem_flatMap.mpr ⟨p, hp, hf⟩)))
  · unfold faOf
    exact List.mem_append_right _ (List.mem_append_left _ (List.mem_map_of_mem hb))
  · unfold faOf
    exact List.mem_append_right _ (List.mem_append_right _ (List.mem_append_right _ (List.mem_append_left _ (List.mem_flatMap.mpr ⟨x, hx, by simp⟩))))
  · unfold faOf
    exact List.mem_append_right _ (List.mem_append_right _ (List.mem_append_right _ (List.mem_append_left _ (List.mem_flatMap.mpr ⟨x, hx, by simp⟩))))
  · unfold faOf
    exact List.mem_append_right _ (List.mem_append_right _ (List.mem_append_right _ (List.mem_append_right _ (List.mem_append_left _ (List.mem_flatMap.mpr ⟨p, hp, by simp⟩)))))
  · unfold faOf
    exact List.mem_append_right _ (List.mem_append_right _ (List.mem_append_right _ (List.mem_append_right _ (List.mem_append_left _ (List.mem_flatMap.mpr ⟨p, hp, by simp⟩)))))
  · unfold faOf
    exact List.mem_append_right _ (List.mem_append_right _ (List.mem_append_right _ (List.mem_append_right _ (List.mem_append_right _ (List.mem_append_left _ (List.mem_map.mpr ⟨p, hp, rfl⟩))))))
  · unfold faOf
    exact List.mem_append_right _ (List.mem_append_right _ (List.mem_append_right _ (List.mem_append_right _ (List.mem_append_right _ (List.mem_append_right _ (List.mem_flatMap.mpr ⟨p, hp, by simp⟩))))))
  · have z := List.all_eq_true.mp hmk p hp
    split at z
    · rename_i d hd
      obtain ⟨z1, z2⟩ := bt z
      have z1 := of_decide_eq_true z1
      have z2 := of_decide_eq_true z2
      refine ⟨d, hd, ?_⟩
      have m := He.mkr_ok (all (.mkr p.2) (by
        unfold faOf
        exact List.mem_append_right _ (List.mem_append_right _ (List.mem_append_right _ (List.mem_append_right _ (List.mem_append_right _ (List.mem_append_right _ (List.mem_flatMap.mpr ⟨p, hp, by simp⟩))))))))
      have e : He.fAd K d.at_ = He.ma K (He.ga K p.2) "__init__" := by
        unfold FD.at_
        rw [z1, z2]
        rfl
      rw [e]
      exact m
    · cases z
  · have z := List.all_eq_true.mp heq p hp
    split at z
    · rename_i d hd
      obtain ⟨z1, z2⟩ := bt z
      have z1 := of_decide_eq_true z1
      have z2 := of_decide_eq_true z2
      refine ⟨d, hd, ?_⟩
      have m := He.meth_ok (inD d (List.mem_of_getElem? hd) (.meth p.2 "__eq__") (by
        unfold defF
        rw [z1, z2]
        simp))
      have e : He.fAd K d.at_ = He.ma K (He.ga K p.2) "__eq__" := by
        unfold FD.at_
        rw [z1, z2]
        rfl
      rw [e]
      exact ⟨m.at_, m.fn⟩
    · cases z
  · have hm : d ∈ B.fns := List.mem_of_getElem? hd
    obtain ⟨fd, F⟩ := c.def_ f (d := ⟨d.at_, d.x, d.q, defArgs d.st, defBody d.st, defScope d.st, [], []⟩) (by
      unfold fnDs
      rw [List.getElem?_map, hd]
      rfl)
    refine ⟨fd, fun hn => ?_, F, fun s us hl => ?_, fun n ks arr hkk s us ws l1 l2 => ?_⟩
    · have e1 := He.glo_ok kin G (inD d hm (.glo d.x) (by
        unfold defF
        rw [hn]
        simp))
      have e : He.fAd K d.at_ = He.ga K d.x := by
        unfold FD.at_
        rw [hn]
        rfl
      rw [e]
      exact e1
    · obtain ⟨oc, od, dV, kV, doc, pm, an, cdv, ct, osl, e, lk, hcd, hD, _⟩ := F.ex
      rcases hD with ⟨_, z⟩ | ⟨z, _⟩
      · rw [e, z]
        exact BindsTo.of_eq (hb d hm kV doc pm an cdv ct us hl)
      · exact absurd rfl z
    · obtain ⟨oc, od, dV, kV, doc, pm, an, cdv, ct, osl, e, lk, hcd, hD, _⟩ := F.ex
      rcases hD with ⟨_, z⟩ | ⟨z, _⟩
      · obtain ⟨zs, p1, p2⟩ := hk f d n ks arr hd hkk kV doc pm an cdv ct us ws l1 l2
        rw [e, z]
        exact ⟨zs, p1, BindsTo.of_eq p2⟩
      · exact absurd rfl z
end MP
/-! MP: the head's facts over told addresses (no search for them in the kernel). -/
namespace MP
open PySem PySem.Spec PyProof.Rows L2
def obsL (as : List Addr) (fa : List He.Fa) (fn : List He.DefD) (ex : PySem.W.Frag → Bool) (g : Addr → Option Obj) : He.AlD × Bool := (He.obsD fa fn (He.frG g as), ex (He.frG g as))
def hookL (as : List Addr) (fa : List He.Fa) (fn : List He.DefD) (ex : PySem.W.Frag → Bool) : PySem.W.Hook where
  α := He.AlD × Bool
  obs := fun s => obsL as fa fn ex s.heap.get?
  val := fun _ => (He.valD fn, true)
  says := fun _ h => ∃ K : PySem.W.Frag, K.In h ∧ He.SaysD fa fn K ∧ ex K = true
  of := fun _ _ e => ⟨_, He.frG_in, congrArg (fun z : He.AlD × Bool => z.1) e, congrArg (fun z : He.AlD × Bool => z.2) e⟩
  keeps := fun _ _ _ ⟨K, hK, c⟩ k => ⟨K, PySem.W.Frag.In.keeps hK k, c⟩
theorem obsL_eq {as : List Addr} {fa : List He.Fa} {fn : List He.DefD} {ex : PySem.W.Frag → Bool} {g : Addr → Option Obj} {s : Shared} (h : ∀ a, g a = s.heap.get? a) : obsL as fa fn ex g = (hookL as fa fn ex).obs s := by
  have e : g = s.heap.get? := funext h
  rw [e] <;> rfl
end MP
namespace LawT
open PySem MP
def d_is_list : Def := { cl := true, np := 1, ns := 1, body := (.cons (.ret (.isi (.var 0) [.list, .tuple])) .nil) }
def d_is_name : Def := { cl := true, np := 1, ns := 2, body := (.cons (.ifs (.bop false (.cons (.not (.isi (.var 0) [.str])) (.cons (.not (.chain .le .le (.lit (.int 1)) (.bi .len (.cons (.var 0) .nil)) (.glo (Str.ofString "MOST_SIGNS") (.int 6)))) .nil))) (.cons (.ret (.lit (.bl false))) .nil) .nil) (.cons (.ret (.bi .all (.cons (.val (.lc (.cmp .isin (.var 1) (.glo (Str.ofString "LETTERS") (.str (Str.ofString "abcdefghijklmnopqrstuvwxyz")))) (.nm 1) (.vl (.var 0)) .no [1])) .nil))) .nil)) }
def d_is_deed : Def := { cl := true, np := 1, ns := 1, body := (.cons (.ifs (.bop false (.cons (.not (.isi (.var 0) [.tuple])) (.cons (.cmp .ne (.bi .len (.cons (.var 0) .nil)) (.lit (.int 3))) (.cons (.not (.isi (.idx (.var 0) (.lit (.int 0))) [.str])) (.cons (.cmp .notin (.idx (.var 0) (.lit (.int 0))) (.tup (.cons (.glo (Str.ofString "SAY") (.str (Str.ofString "say"))) (.cons (.glo (Str.ofString "GET") (.str (Str.ofString "get"))) .nil)))) .nil))))) (.cons (.ret (.lit (.bl false))) .nil) .nil) (.cons (.ret (.bop true (.cons (.call 1 (.cons (.idx (.var 0) (.lit (.int 1))) .nil)) (.cons (.call 1 (.cons (.idx (.var 0) (.lit (.int 2))) .nil)) .nil)))) .nil)) }
def d_is_row : Def := { cl := true, np := 3, ns := 4, body := (.cons (.ret (.bop true (.cons (.call 0 (.cons (.var 2) .nil)) (.cons (.bi .all (.cons (.val (.lc (.bop true (.cons (.call 2 (.cons (.var 3) .nil)) (.cons (.cmp .isin (.idx (.var 3) (.lit (.int 1))) (.var 0)) (.cons (.cmp .ne (.idx (.var 3) (.lit (.int 1))) (.var 1)) .nil)))) (.nm 3) (.vl (.var 2)) .no [3])) .nil)) .nil)))) .nil) }
def d_are_rows : Def := { cl := true, np := 1, ns := 4, body := (.cons (.ifs (.bop false (.cons (.not (.isi (.var 0) [.dict])) (.cons (.cmp .eq (.bi .len (.cons (.var 0) .nil)) (.lit (.int 0))) (.cons (.not (.bi .all (.cons (.val (.lc (.call 1 (.cons (.var 2) .nil)) (.nm 2) (.vl (.var 0)) .no [2])) .nil))) .nil)))) (.cons (.ret (.lit (.bl false))) .nil) .nil) (.cons (.asg (.nm 1) (.val (.bi .list (.cons (.var 0) .nil)))) (.cons (.ret (.bi .all (.cons (.val (.lc (.call 3 (.cons (.var 1) (.cons (.var 2) (.cons (.var 3) .nil)))) (.tp (.cons (.nm 2) (.cons (.nm 3) .nil))) (.its (.var 0)) .no [2, 3])) .nil))) .nil))) }
def d_kept_rows : Def := { cl := true, np := 1, ns := 2, body := (.cons (.ret (.val (.dc false (.var 1) (.bi .tuple (.cons (.idx (.var 0) (.var 1)) .nil)) (.nm 1) (.vl (.val (.bi .sorted (.cons (.var 0) .nil)))) .no [1]))) .nil) }
def d_places_of : Def := { cl := true, np := 4, ns := 6, body := (.cons (.ret (.val (.lc (.var 4) (.tp (.cons (.nm 4) (.cons (.nm 5) .nil))) (.en (.idx (.var 0) (.var 1))) (.so (.cmp .eq (.val (.slc (.var 5) .no (.so (.lit (.int 2))))) (.tup (.cons (.var 2) (.cons (.var 3) .nil))))) [4, 5]))) .nil) }
def d_said : Def := { cl := true, np := 3, ns := 4, body := (.cons (.ret (.bi .tuple (.cons (.val (.lc (.idx (.idx (.idx (.var 0) (.var 1)) (.var 3)) (.lit (.int 2))) (.nm 3) (.vl (.call 6 (.cons (.var 0) (.cons (.var 1) (.cons (.glo (Str.ofString "SAY") (.str (Str.ofString "say"))) (.cons (.var 2) .nil)))))) .no [3])) .nil))) .nil) }
def d_got : Def := { cl := true, np := 3, ns := 4, body := (.cons (.ret (.bi .tuple (.cons (.val (.lc (.idx (.idx (.idx (.var 0) (.var 2)) (.var 3)) (.lit (.int 2))) (.nm 3) (.vl (.call 6 (.cons (.var 0) (.cons (.var 2) (.cons (.glo (Str.ofString "GET") (.str (Str.ofString "get"))) (.cons (.var 1) .nil)))))) .no [3])) .nil))) .nil) }
def d_unheard : Def := { cl := true, np := 2, ns := 6, body := (.cons (.fors (.nm 2) (.vl (.var 0)) (.cons (.fors (.nm 3) (.vl (.var 0)) (.cons (.par 4 5 (.call 7 (.cons (.var 0) (.cons (.var 2) (.cons (.var 3) .nil)))) (.call 8 (.cons (.var 0) (.cons (.var 2) (.cons (.var 3) .nil))))) (.cons (.ifs (.cmp .ne (.var 5) (.ife (.var 1) (.val (.slc (.var 4) .no (.so (.bi .len (.cons (.var 5) .nil))))) (.var 4))) (.cons (.ret (.tup (.cons (.var 2) (.cons (.var 3) .nil)))) .nil) .nil) .nil))) .nil)) (.cons (.ret (.lit .non)) .nil)) }
def d_says_of_gets : Def := { cl := true, np := 1, ns := 7, body := (.cons (.asg (.nm 1) .dctT) (.cons (.fors (.nm 2) (.vl (.var 0)) (.cons (.fors (.nm 3) (.vl (.var 0)) (.cons (.asg (.nm 4) (.call 6 (.cons (.var 0) (.cons (.var 2) (.cons (.glo (Str.ofString "SAY") (.str (Str.ofString "say"))) (.cons (.var 3) .nil)))))) (.cons (.fors (.tp (.cons (.nm 5) (.cons (.nm 6) .nil))) (.en (.call 6 (.cons (.var 0) (.cons (.var 3) (.cons (.glo (Str.ofString "GET") (.str (Str.ofString "get"))) (.cons (.var 2) .nil)))))) (.cons (.asg (.sb (.var 1) (.tup (.cons (.var 3) (.cons (.var 6) .nil)))) (.tup (.cons (.var 2) (.cons (.idx (.var 4) (.var 5)) .nil)))) .nil)) .nil))) .nil)) (.cons (.ret (.var 1)) .nil))) }
def d_done_counts : Def := { cl := true, np := 2, ns := 5, body := (.cons (.asg (.nm 2) (.dct .nil)) (.cons (.fors (.nm 3) (.vl (.var 0)) (.cons (.asg (.sb (.var 2) (.var 3)) (.lit (.int 0))) .nil)) (.cons (.asg (.nm 4) (.lit (.bl true))) (.cons (.whl (.var 4) (.cons (.asg (.nm 4) (.lit (.bl false))) (.cons (.fors (.nm 3) (.vl (.var 0)) (.cons (.whl (.bop true (.cons (.cmp .lt (.idx (.var 2) (.var 3)) (.bi .len (.cons (.idx (.var 0) (.var 3)) .nil))) (.cons (.call 12 (.cons (.var 2) (.cons (.var 1) (.cons (.tup (.cons (.var 3) (.cons (.idx (.var 2) (.var 3)) .nil))) .nil)))) .nil))) (.cons (.asg (.sb (.var 2) (.var 3)) (.bin .add (.idx (.var 2) (.var 3)) (.lit (.int 1)))) (.cons (.asg (.nm 4) (.lit (.bl true))) .nil))) .nil)) .nil))) (.cons (.ret (.var 2)) .nil))))) }
def d_is_free : Def := { cl := true, np := 3, ns := 5, body := (.cons (.ifs (.cmp .notin (.var 2) (.var 1)) (.cons (.ret (.lit (.bl true))) .nil) .nil) (.cons (.asg (.tp (.cons (.nm 3) (.cons (.nm 4) .nil))) (.idx (.var 1) (.var 2))) (.cons (.ret (.cmp .lt (.var 4) (.idx (.var 0) (.var 3)))) .nil))) }
def d_goals_of : Def := { cl := true, np := 3, ns := 6, body := (.cons (.asg (.tp (.cons (.nm 4) (.cons (.nm 5) .nil))) (.var 2)) (.cons (.asg (.nm 3) (.ife (.cmp .lt (.bin .add (.var 5) (.lit (.int 1))) (.bi .len (.cons (.idx (.var 0) (.var 4)) .nil))) (.val (.lst (.cons (.tup (.cons (.var 4) (.cons (.bin .add (.var 5) (.lit (.int 1))) .nil))) .nil))) (.val (.lst .nil)))) (.cons (.ret (.val (.bin .add (.var 3) (.ife (.cmp .isin (.var 2) (.var 1)) (.val (.lst (.cons (.idx (.var 1) (.var 2)) .nil))) (.val (.lst .nil)))))) .nil))) }
def d_comes_back : Def := { cl := true, np := 3, ns := 7, body := (.cons (.asg (.nm 3) .dctT) (.cons (.asg (.nm 4) (.lst (.cons (.var 2) .nil))) (.cons (.whl (.cmp .ne (.var 4) (.val (.lst .nil))) (.cons (.asg (.nm 5) (.mth .pop (.var 4) .nil)) (.cons (.fors (.nm 6) (.vl (.call 13 (.cons (.var 0) (.cons (.var 1) (.cons (.var 5) .nil))))) (.cons (.ifs (.cmp .notin (.var 6) (.var 3)) (.cons (.asg (.sb (.var 3) (.var 6)) (.lit (.bl true))) (.cons (.ex (.mth .append (.var 4) (.cons (.var 6) .nil))) .nil)) .nil) .nil)) .nil))) (.cons (.ret (.cmp .isin (.var 2) (.var 3))) .nil)))) }
def d_turning : Def := { cl := true, np := 1, ns := 9, body := (.cons (.asg (.nm 1) (.call 10 (.cons (.var 0) .nil))) (.cons (.asg (.nm 2) (.call 11 (.cons (.var 0) (.cons (.var 1) .nil)))) (.cons (.asg (.nm 3) (.dc true (.var 8) (.var 7) (.tp (.cons (.nm 7) (.cons (.nm 8) .nil))) (.its (.var 1)) .no [7, 8])) (.cons (.fors (.tp (.cons (.nm 4) (.cons (.nm 5) .nil))) (.its (.var 0)) (.cons (.fors (.nm 6) (.rg2 (.idx (.var 2) (.var 4)) (.bi .len (.cons (.var 5) .nil))) (.cons (.ifs (.call 14 (.cons (.var 0) (.cons (.var 3) (.cons (.tup (.cons (.var 4) (.cons (.var 6) .nil))) .nil)))) (.cons (.ret (.tup (.cons (.var 4) (.cons (.var 6) .nil)))) .nil) .nil) .nil)) .nil)) (.cons (.ret (.lit .non)) .nil))))) }
def d_Picture___init__ : Def := { cl := false, np := 2, ns := 2, body := (.cons (.ifs (.iso (.var 1) (Str.ofString "Whole")) (.cons (.setf (Str.ofString "Picture") (.var 0) (Str.ofString "own_rows") (.fld (.var 1) (Str.ofString "Whole") (Str.ofString "own_rows"))) .nil) (.cons (.setf (Str.ofString "Picture") (.var 0) (Str.ofString "own_rows") (.call 20 (.cons (.var 1) .nil))) .nil)) .nil) }
def d_Picture___eq__ : Def := { cl := true, np := 2, ns := 2, body := (.cons (.ret (.bop true (.cons (.iso (.var 1) (Str.ofString "Picture")) (.cons (.cmp .eq (.fld (.var 0) (Str.ofString "Picture") (Str.ofString "own_rows")) (.fld (.var 1) (Str.ofString "Picture") (Str.ofString "own_rows"))) .nil)))) .nil) }
def d_letters_of : Def := { cl := true, np := 1, ns := 5, body := (.cons (.asg (.nm 1) (.lst .nil)) (.cons (.fors (.nm 2) (.vl (.var 0)) (.cons (.fors (.nm 3) (.vl (.var 0)) (.cons (.ex (.mth .extend (.var 1) (.cons (.val (.lc (.tup (.cons (.var 2) (.cons (.var 3) (.cons (.var 4) .nil)))) (.nm 4) (.rg1 (.bi .len (.cons (.call 7 (.cons (.var 0) (.cons (.var 2) (.cons (.var 3) .nil)))) .nil))) .no [4])) .nil))) .nil)) .nil)) (.cons (.ret (.var 1)) .nil))) }
def d_want_few_letters : Def := { cl := true, np := 1, ns := 1, body := (.cons (.ifs (.cmp .gt (.var 0) (.con (Str.ofString "Picture") (Str.ofString "MOST_LETTERS") (.int 16))) (.cons .bad .nil) .nil) .nil) }
def d_checked_rows : Def := { cl := true, np := 1, ns := 6, body := (.cons (.ifs (.not (.call 4 (.cons (.var 0) .nil))) (.cons .bad .nil) .nil) (.cons (.asg (.nm 1) (.call 5 (.cons (.var 0) .nil))) (.cons (.par 3 2 (.call 9 (.cons (.var 1) (.cons (.lit (.bl false)) .nil))) (.lit .non)) (.cons (.ifs (.isK true (.var 3) .non) (.cons (.asg (.tp (.cons (.nm 4) (.cons (.nm 5) .nil))) (.var 3)) (.cons .bad .nil)) .nil) (.cons (.asg (.nm 2) (.call 15 (.cons (.var 1) .nil))) (.cons (.ifs (.isK true (.var 2) .non) (.cons .bad .nil) .nil) (.cons (.ifs (.cmp .gt (.bi .len (.cons (.var 1) .nil)) (.con (Str.ofString "Picture") (Str.ofString "MOST_HANDS") (.int 4))) (.cons .bad .nil) .nil) (.cons (.ex (.call 19 (.cons (.bi .len (.cons (.call 18 (.cons (.var 1) .nil)) .nil)) .nil))) (.cons (.ret (.var 1)) .nil))))))))) }
def d_is_going : Def := { cl := true, np := 4, ns := 5, body := (.cons (.asg (.nm 4) (.tup (.cons (.var 3) (.cons (.idx (.var 2) (.var 3)) .nil)))) (.cons (.ifs (.cmp .eq (.idx (.var 4) (.lit (.int 1))) (.bi .len (.cons (.idx (.var 0) (.var 3)) .nil))) (.cons (.ret (.lit (.bl false))) .nil) .nil) (.cons (.ret (.bop false (.cons (.cmp .notin (.var 4) (.var 1)) (.cons (.cmp .lt (.idx (.idx (.var 1) (.var 4)) (.lit (.int 1))) (.idx (.var 2) (.idx (.idx (.var 1) (.var 4)) (.lit (.int 0))))) .nil)))) .nil))) }
def d_going : Def := { cl := true, np := 3, ns := 5, body := (.cons (.asg (.nm 3) (.val (.dz (.var 0) (.var 2)))) (.cons (.ret (.val (.lc (.var 4) (.nm 4) (.vl (.var 0)) (.so (.call 21 (.cons (.var 0) (.cons (.var 1) (.cons (.var 3) (.cons (.var 4) .nil)))))) [4]))) .nil)) }
def d_with_one : Def := { cl := true, np := 3, ns := 5, body := (.cons (.ret (.bi .tuple (.cons (.val (.lc (.bin .add (.var 4) (.bi .int (.cons (.cmp .eq (.var 3) (.var 2)) .nil))) (.tp (.cons (.nm 3) (.cons (.nm 4) .nil))) (.zp (.var 0) (.var 1)) .no [3, 4])) .nil))) .nil) }
def d_empty_cut : Def := { cl := true, np := 1, ns := 2, body := (.cons (.ret (.bi .tuple (.cons (.val (.lc (.lit (.int 0)) (.nm 1) (.vl (.fld (.var 0) (Str.ofString "Picture") (Str.ofString "own_rows"))) .no [1])) .nil))) .nil) }
def d_full_cut : Def := { cl := true, np := 1, ns := 2, body := (.cons (.ret (.bi .tuple (.cons (.val (.lc (.bi .len (.cons (.var 1) .nil)) (.nm 1) (.vas (.fld (.var 0) (Str.ofString "Picture") (Str.ofString "own_rows"))) .no [1])) .nil))) .nil) }
def d_passed : Def := { cl := true, np := 2, ns := 6, body := (.cons (.par3 3 4 5 (.fld (.var 0) (Str.ofString "Picture") (Str.ofString "own_rows")) (.call 10 (.cons (.fld (.var 0) (Str.ofString "Picture") (Str.ofString "own_rows")) .nil)) (.lst (.cons (.call 24 (.cons (.var 0) .nil)) .nil))) (.cons (.ifs (.not (.isi (.var 1) [.list, .tuple])) (.cons (.ret (.lit .non)) .nil) .nil) (.cons (.fors (.nm 2) (.vl (.var 1)) (.cons (.ifs (.bop false (.cons (.not (.isi (.var 2) [.str])) (.cons (.cmp .notin (.var 2) (.call 22 (.cons (.var 3) (.cons (.var 4) (.cons (.idx (.var 5) (.neg (.lit (.int 1)))) .nil))))) .nil))) (.cons (.ret (.lit .non)) .nil) .nil) (.cons (.ex (.mth .append (.var 5) (.cons (.call 23 (.cons (.var 3) (.cons (.idx (.var 5) (.neg (.lit (.int 1)))) (.cons (.var 2) .nil)))) .nil))) .nil))) (.cons (.ret (.ife (.cmp .eq (.idx (.var 5) (.neg (.lit (.int 1)))) (.call 25 (.cons (.var 0) .nil))) (.var 5) (.lit .non))) .nil)))) }
def d_is_run : Def := { cl := true, np := 2, ns := 2, body := (.cons (.ret (.isK true (.call 26 (.cons (.var 0) (.cons (.var 1) .nil))) .non)) .nil) }
def d_want_run : Def := { cl := true, np := 2, ns := 3, body := (.cons (.asg (.nm 2) (.call 26 (.cons (.var 0) (.cons (.var 1) .nil)))) (.cons (.ifs (.isK false (.var 2) .non) (.cons .bad .nil) .nil) (.cons (.ret (.var 2)) .nil))) }
def d_loads_of : Def := { cl := true, np := 1, ns := 5, body := (.cons (.asg (.nm 1) (.lst .nil)) (.cons (.fors (.nm 2) (.vas (.fld (.var 0) (Str.ofString "Picture") (Str.ofString "own_rows"))) (.cons (.asg (.nm 3) (.lst (.cons (.lit (.int 0)) .nil))) (.cons (.fors (.nm 4) (.vl (.var 2)) (.cons (.ex (.mth .append (.var 3) (.cons (.bin .add (.idx (.var 3) (.neg (.lit (.int 1)))) (.ife (.cmp .eq (.idx (.var 4) (.lit (.int 0))) (.lit (.str (Str.ofString "say")))) (.lit (.int 1)) (.neg (.lit (.int 1))))) .nil))) .nil)) (.cons (.ex (.mth .append (.var 1) (.cons (.var 3) .nil))) .nil)))) (.cons (.ret (.var 1)) .nil))) }
def d_load_at : Def := { cl := true, np := 2, ns := 4, body := (.cons (.ret (.bi .sum (.cons (.val (.lc (.idx (.var 2) (.var 3)) (.tp (.cons (.nm 2) (.cons (.nm 3) .nil))) (.zp (.var 0) (.var 1)) .no [2, 3])) .nil))) .nil) }
def d_room_of : Def := { cl := true, np := 2, ns := 4, body := (.cons (.asg (.nm 2) (.call 29 (.cons (.var 0) .nil))) (.cons (.ret (.bi .maxL (.cons (.val (.lc (.call 30 (.cons (.var 2) (.cons (.var 3) .nil))) (.nm 3) (.vl (.call 28 (.cons (.var 0) (.cons (.var 1) .nil)))) .no [3])) .nil))) .nil)) }
def d__law_pot : Def := { cl := false, np := 2, ns := 3, body := (.cons (.asg (.nm 2) (.bin .add (.bin .mul (.lit (.int 211)) (.var 1)) (.lit (.int 31)))) (.cons (.ifs (.cmp .lt (.var 1) (.bi .len (.cons (.var 0) .nil))) (.cons (.asg (.nm 2) (.bi .abs (.cons (.idx (.var 0) (.var 1)) .nil))) .nil) .nil) (.cons (.ret (.lst (.cons (.bi .max (.cons (.lit (.int 0)) (.cons (.bin .sub (.var 2) (.bin .pow (.lit (.int 10)) (.lit (.int 18)))) .nil))) (.cons (.bin .add (.bin .mod (.bi .int (.cons (.bin .add (.bin .add (.bin .mul (.bin .mod (.bi .int (.cons (.var 2) .nil)) (.lit (.int 2147483587))) (.lit (.int 48271))) (.bin .mul (.lit (.int 9176)) (.var 1))) (.lit (.int 4421))) .nil)) (.lit (.int 2147483629))) (.lit (.int 1))) .nil)))) .nil))) }
def d__law_draw : Def := { cl := true, np := 2, ns := 3, body := (.cons (.ifs (.cmp .gt (.idx (.var 0) (.lit (.int 0))) (.lit (.int 0))) (.cons (.asg (.tp (.cons (.sb (.var 0) (.lit (.int 0))) (.cons (.nm 2) .nil))) (.bi .divmod (.cons (.idx (.var 0) (.lit (.int 0))) (.cons (.var 1) .nil)))) (.cons (.ret (.var 2)) .nil)) .nil) (.cons (.asg (.sb (.var 0) (.lit (.int 1))) (.bin .mod (.bi .int (.cons (.bin .add (.bin .mul (.idx (.var 0) (.lit (.int 1))) (.lit (.int 48271))) (.lit (.int 11213))) .nil)) (.lit (.int 2147483629)))) (.cons (.ret (.bin .mod (.bi .int (.cons (.bin .fdiv (.bin .mod (.bi .int (.cons (.bin .mul (.idx (.var 0) (.lit (.int 1))) (.idx (.var 0) (.lit (.int 1)))) .nil)) (.lit (.int 2147483549))) (.lit (.int 13))) .nil)) (.var 1))) .nil))) }
def d__law_pick : Def := { cl := true, np := 2, ns := 2, body := (.cons (.ret (.idx (.var 1) (.call 33 (.cons (.var 0) (.cons (.bi .len (.cons (.var 1) .nil)) .nil))))) .nil) }
def d__law_names : Def := { cl := true, np := 2, ns := 5, body := (.cons (.par 3 4 (.lst (.cons (.lit (.str (Str.ofString "a"))) (.cons (.lit (.str (Str.ofString "b"))) (.cons (.lit (.str (Str.ofString "ab"))) (.cons (.lit (.str (Str.ofString "ba"))) (.cons (.lit (.str (Str.ofString "z"))) (.cons (.lit (.str (Str.ofString "end"))) (.cons (.lit (.str (Str.ofString "say"))) (.cons (.lit (.str (Str.ofString "get"))) (.cons (.lit (.str (Str.ofString "zzzzzz"))) (.cons (.lit (.str (Str.ofString "go"))) .nil))))))))))) (.lst .nil)) (.cons (.fors (.nm 2) (.rg1 (.var 1)) (.cons (.ex (.mth .append (.var 4) (.cons (.mth .popAt (.var 3) (.cons (.call 33 (.cons (.var 0) (.cons (.bi .len (.cons (.var 3) .nil)) .nil))) .nil)) .nil))) .nil)) (.cons (.ret (.val (.bi .sorted (.cons (.var 4) .nil)))) .nil))) }
def d__law_rows : Def := { cl := true, np := 3, ns := 13, body := (.cons (.par3 4 5 6 (.bi .dict (.cons (.lc (.tup (.cons (.var 12) (.cons (.lst .nil) .nil))) (.nm 12) (.vl (.var 1)) .no [12]) .nil)) (.lst .nil) (.ife (.cmp .gt (.bi .len (.cons (.var 1) .nil)) (.lit (.int 1))) (.var 2) (.lit (.int 0)))) (.cons (.asg (.nm 3) (.bin .add (.lit (.int 1)) (.call 33 (.cons (.var 0) (.cons (.lit (.int 3)) .nil))))) (.cons (.whl (.bop false (.cons (.cmp .gt (.var 6) (.lit (.int 0))) (.cons (.cmp .ne (.var 5) (.val (.lst .nil))) .nil))) (.cons (.ifs (.bop true (.cons (.cmp .gt (.var 6) (.lit (.int 0))) (.cons (.bop false (.cons (.cmp .eq (.var 5) (.val (.lst .nil))) (.cons (.cmp .lt (.call 33 (.cons (.var 0) (.cons (.lit (.int 4)) .nil))) (.var 3)) .nil))) .nil))) (.cons (.asg (.tp (.cons (.nm 10) (.cons (.nm 11) .nil))) (.tup (.cons (.call 34 (.cons (.var 0) (.cons (.var 1) .nil))) (.cons (.call 34 (.cons (.var 0) (.cons (.val (.lst (.cons (.lit (.str (Str.ofString "x"))) (.cons (.lit (.str (Str.ofString "y"))) (.cons (.lit (.str (Str.ofString "x"))) (.cons (.lit (.str (Str.ofString "end"))) (.cons (.lit (.str (Str.ofString "a"))) .nil))))))) .nil))) .nil)))) (.cons (.asg (.nm 7) (.call 34 (.cons (.var 0) (.cons (.val (.lc (.var 12) (.nm 12) (.vl (.var 1)) (.so (.cmp .ne (.var 12) (.var 10))) [12])) .nil)))) (.cons (.ex (.mth .append (.idx (.var 4) (.var 10)) (.cons (.tup (.cons (.lit (.str (Str.ofString "say"))) (.cons (.var 7) (.cons (.var 11) .nil)))) .nil))) (.cons (.ex (.mth .append (.var 5) (.cons (.tup (.cons (.var 10) (.cons (.var 7) (.cons (.var 11) .nil)))) .nil))) (.cons (.aug true 6 (.lit (.int 1))) .nil))))) (.cons (.asg (.nm 8) (.lc (.val (.slc (.var 9) .no (.so (.lit (.int 2))))) (.nm 9) (.vl (.var 5)) .no [9])) (.cons (.asg (.tp (.cons (.nm 10) (.cons (.nm 7) .nil))) (.call 34 (.cons (.var 0) (.cons (.var 8) .nil)))) (.cons (.asg (.nm 9) (.mth .popAt (.var 5) (.cons (.mth .index (.var 8) (.cons (.tup (.cons (.var 10) (.cons (.var 7) .nil))) .nil)) .nil))) (.cons (.ex (.mth .append (.idx (.var 4) (.var 7)) (.cons (.tup (.cons (.lit (.str (Str.ofString "get"))) (.cons (.var 10) (.cons (.idx (.var 9) (.lit (.int 2))) .nil)))) .nil))) .nil))))) .nil)) (.cons (.ret (.var 4)) .nil)))) }
def d__law_goes : Def := { cl := true, np := 3, ns := 8, body := (.cons (.par 5 6 (.idx (.var 0) (.var 2)) (.mth .count (.var 1) (.cons (.var 2) .nil))) (.cons (.ifs (.bop false (.cons (.cmp .eq (.var 6) (.bi .len (.cons (.var 5) .nil))) (.cons (.cmp .eq (.idx (.idx (.var 5) (.var 6)) (.lit (.int 0))) (.lit (.str (Str.ofString "say")))) .nil))) (.cons (.ret (.cmp .lt (.var 6) (.bi .len (.cons (.var 5) .nil)))) .nil) .nil) (.cons (.asg (.nm 3) (.idx (.idx (.var 5) (.var 6)) (.lit (.int 1)))) (.cons (.asg (.nm 4) (.bi .len (.cons (.val (.lc (.var 7) (.nm 7) (.vl (.val (.slc (.var 5) .no (.so (.var 6))))) (.so (.cmp .eq (.val (.slc (.var 7) .no (.so (.lit (.int 2))))) (.tup (.cons (.lit (.str (Str.ofString "get"))) (.cons (.var 3) .nil))))) [7])) .nil))) (.cons (.ret (.cmp .gt (.bi .len (.cons (.val (.lc (.var 7) (.nm 7) (.vl (.val (.slc (.idx (.var 0) (.var 3)) .no (.so (.mth .count (.var 1) (.cons (.var 3) .nil)))))) (.so (.cmp .eq (.val (.slc (.var 7) .no (.so (.lit (.int 2))))) (.tup (.cons (.lit (.str (Str.ofString "say"))) (.cons (.var 2) .nil))))) [7])) .nil)) (.var 4))) .nil))))) }
def d__law_passed : Def := { cl := true, np := 2, ns := 4, body := (.cons (.ret (.val (.lc (.bi .tuple (.cons (.val (.lc (.mth .count (.val (.slc (.var 1) .no (.so (.var 2)))) (.cons (.var 3) .nil)) (.nm 3) (.vl (.val (.bi .sorted (.cons (.var 0) .nil)))) .no [3])) .nil)) (.nm 2) (.rg1 (.bin .add (.bi .len (.cons (.var 1) .nil)) (.lit (.int 1)))) .no [2]))) .nil) }
def d__law_load : Def := { cl := true, np := 2, ns := 6, body := (.cons (.asg (.nm 2) (.lit (.int 0))) (.cons (.fors (.tp (.cons (.nm 3) (.cons (.nm 4) .nil))) (.zp (.val (.bi .sorted (.cons (.var 0) .nil))) (.var 1)) (.cons (.aug false 2 (.bi .sum (.cons (.val (.lc (.ife (.cmp .eq (.idx (.var 5) (.lit (.int 0))) (.lit (.str (Str.ofString "say")))) (.lit (.int 1)) (.neg (.lit (.int 1)))) (.nm 5) (.vl (.val (.slc (.idx (.var 0) (.var 3)) .no (.so (.var 4))))) .no [5])) .nil))) .nil)) (.cons (.ret (.var 2)) .nil))) }
def d__law_is_run : Def := { cl := true, np := 2, ns := 4, body := (.cons (.ifs (.bop false (.cons (.bi .any (.cons (.val (.lc (.cmp .ne (.mth .count (.var 1) (.cons (.var 3) .nil)) (.bi .len (.cons (.idx (.var 0) (.var 3)) .nil))) (.nm 3) (.vl (.var 0)) .no [3])) .nil)) (.cons (.not (.bi .all (.cons (.val (.lc (.cmp .isin (.var 3) (.var 0)) (.nm 3) (.vl (.var 1)) .no [3])) .nil))) .nil))) (.cons (.ret (.lit (.bl false))) .nil) .nil) (.cons (.ret (.bi .all (.cons (.val (.lc (.call 37 (.cons (.var 0) (.cons (.val (.slc (.var 1) .no (.so (.var 2)))) (.cons (.idx (.var 1) (.var 2)) .nil)))) (.nm 2) (.rg1 (.bi .len (.cons (.var 1) .nil))) .no [2])) .nil))) .nil)) }
def d__law_run : Def := { cl := true, np := 2, ns := 6, body := (.cons (.asg (.tp (.cons (.nm 2) (.cons (.nm 3) .nil))) (.tup (.cons (.lst .nil) (.cons (.bi .sum (.cons (.val (.lc (.bi .len (.cons (.var 4) .nil)) (.nm 4) (.vas (.var 1)) .no [4])) .nil)) .nil)))) (.cons (.whl (.cmp .lt (.bi .len (.cons (.var 2) .nil)) (.var 3)) (.cons (.ex (.mth .append (.var 2) (.cons (.call 34 (.cons (.var 0) (.cons (.val (.lc (.var 5) (.nm 5) (.vl (.val (.bi .sorted (.cons (.var 1) .nil)))) (.so (.call 37 (.cons (.var 1) (.cons (.var 2) (.cons (.var 5) .nil))))) [5])) .nil))) .nil))) .nil)) (.cons (.ret (.var 2)) .nil))) }
def d__law_bent : Def := { cl := true, np := 3, ns := 8, body := (.cons (.par 5 6 (.call 33 (.cons (.var 0) (.cons (.lit (.int 7)) .nil))) (.call 33 (.cons (.var 0) (.cons (.bin .add (.bi .len (.cons (.var 2) .nil)) (.lit (.int 1))) .nil)))) (.cons (.ifs (.cmp .eq (.var 5) (.lit (.int 0))) (.cons (.ret (.val (.bin .add (.val (.bin .add (.val (.bin .add (.val (.slc (.var 2) .no (.so (.var 6)))) (.val (.slc (.var 2) (.so (.bin .add (.var 6) (.lit (.int 1)))) (.so (.bin .add (.var 6) (.lit (.int 2)))))))) (.val (.slc (.var 2) (.so (.var 6)) (.so (.bin .add (.var 6) (.lit (.int 1)))))))) (.val (.slc (.var 2) (.so (.bin .add (.var 6) (.lit (.int 2)))) .no))))) .nil) .nil) (.cons (.ifs (.cmp .eq (.var 5) (.lit (.int 1))) (.cons (.ret (.val (.bin .add (.val (.slc (.var 2) .no (.so (.var 6)))) (.val (.slc (.var 2) (.so (.bin .add (.var 6) (.lit (.int 1)))) .no))))) .nil) .nil) (.cons (.ifs (.cmp .eq (.var 5) (.lit (.int 2))) (.cons (.ret (.val (.bin .add (.val (.bin .add (.val (.slc (.var 2) .no (.so (.var 6)))) (.val (.lst (.cons (.call 34 (.cons (.var 0) (.cons (.val (.bi .sorted (.cons (.var 1) .nil))) .nil))) .nil))))) (.val (.slc (.var 2) (.so (.var 6)) .no))))) .nil) .nil) (.cons (.ifs (.cmp .eq (.var 5) (.lit (.int 3))) (.cons (.ret (.val (.bin .add (.val (.bin .add (.val (.slc (.var 2) .no (.so (.var 6)))) (.val (.lst (.cons (.call 34 (.cons (.var 0) (.cons (.val (.bi .sorted (.cons (.var 1) .nil))) .nil))) .nil))))) (.val (.slc (.var 2) (.so (.bin .add (.var 6) (.lit (.int 1)))) .no))))) .nil) .nil) (.cons (.ifs (.cmp .eq (.var 5) (.lit (.int 4))) (.cons (.ret (.val (.rev (.var 2)))) .nil) .nil) (.cons (.ifs (.cmp .eq (.var 5) (.lit (.int 5))) (.cons (.ret (.val (.bi .sorted (.cons (.var 2) .nil)))) .nil) .nil) (.cons (.asg (.nm 3) (.bi .list (.cons (.var 2) .nil))) (.cons (.asg (.nm 4) (.ife (.cmp .lt (.var 6) (.bi .len (.cons (.var 3) .nil))) (.mth .popAt (.var 3) (.cons (.var 6) .nil)) (.lit .non))) (.cons (.ex (.mth .insert (.var 3) (.cons (.call 33 (.cons (.var 0) (.cons (.bin .add (.bi .len (.cons (.var 3) .nil)) (.lit (.int 1))) .nil))) (.cons (.var 4) .nil)))) (.cons (.ret (.val (.lc (.var 7) (.nm 7) (.vl (.var 3)) (.so (.isK true (.var 7) .non)) [7]))) .nil))))))))))) }
def d__law_judged : Def := { cl := true, np := 3, ns := 8, body := (.cons (.par 5 6 (.call 40 (.cons (.var 1) (.cons (.var 2) .nil))) (.bi .repr (.cons (.var 2) .nil))) (.cons (.asg (.nm 3) (.val (.lst (.cons (.call 27 (.cons (.var 0) (.cons (.var 2) .nil))) (.cons (.callk 27 .nil (.cons (.bi .tuple (.cons (.var 2) .nil)) (.cons (.var 0) .nil)) [1, 0]) (.cons (.call 27 (.cons (.var 0) (.cons (.var 2) .nil))) .nil)))))) (.cons (.ifs (.bop false (.cons (.cmp .ne (.bi .repr (.cons (.var 3) .nil)) (.bi .repr (.cons (.val (.bin .mul (.val (.lst (.cons (.var 5) .nil))) (.lit (.int 3)))) .nil))) (.cons (.cmp .ne (.bi .repr (.cons (.var 2) .nil)) (.var 6)) .nil))) (.cons (.ret (.lit (.bl false))) .nil) .nil) (.cons (.ifs (.not (.var 5)) (.cons (.ret (.lit (.bl true))) .nil) .nil) (.cons (.asg (.nm 4) (.bi .maxL (.cons (.val (.lc (.call 39 (.cons (.var 1) (.cons (.var 7) .nil))) (.nm 7) (.vl (.call 38 (.cons (.var 1) (.cons (.var 2) .nil)))) .no [7])) .nil))) (.cons (.ret (.cmp .eq (.bi .repr (.cons (.val (.lst (.cons (.call 31 (.cons (.var 0) (.cons (.var 2) .nil))) (.cons (.callk 31 .nil (.cons (.bi .tuple (.cons (.var 2) .nil)) (.cons (.var 0) .nil)) [1, 0]) .nil)))) .nil)) (.bi .repr (.cons (.val (.lst (.cons (.var 4) (.cons (.var 4) .nil)))) .nil)))) .nil)))))) }
def d__law_right : Def := { cl := true, np := 1, ns := 7, body := (.cons (.asg (.nm 1) (.call 35 (.cons (.var 0) (.cons (.bin .add (.lit (.int 1)) (.call 33 (.cons (.var 0) (.cons (.lit (.int 4)) .nil)))) .nil)))) (.cons (.asg (.nm 2) (.call 36 (.cons (.var 0) (.cons (.var 1) (.cons (.call 33 (.cons (.var 0) (.cons (.lit (.int 9)) .nil))) .nil))))) (.cons (.asg (.nm 3) (.mk (Str.ofString "Picture") 16 (.cons (.var 2) .nil))) (.cons (.fors (.nm 4) (.rg1 (.lit (.int 6))) (.cons (.asg (.nm 5) (.call 41 (.cons (.var 0) (.cons (.var 2) .nil)))) (.cons (.ifs (.not (.call 43 (.cons (.var 3) (.cons (.var 2) (.cons (.var 5) .nil))))) (.cons (.ret (.lit (.bl false))) .nil) .nil) (.cons (.fors (.nm 6) (.rg1 (.lit (.int 6))) (.cons (.ifs (.not (.call 43 (.cons (.var 3) (.cons (.var 2) (.cons (.call 42 (.cons (.var 0) (.cons (.var 2) (.cons (.var 5) .nil)))) .nil))))) (.cons (.ret (.lit (.bl false))) .nil) .nil) .nil)) .nil)))) (.cons (.ret (.bop true (.cons (.call 43 (.cons (.var 3) (.cons (.var 2) (.cons (.val (.lst .nil)) .nil)))) (.cons (.eqo 17 (Str.ofString "Picture") (.var 3) (.mk (Str.ofString "Picture") 16 (.cons (.var 2) .nil))) .nil)))) .nil))))) }
def d_law : Def := { cl := true, np := 1, ns := 2, body := (.cons (.ret (.bi .all (.cons (.val (.lc (.call 44 (.cons (.call 32 (.cons (.var 0) (.cons (.var 1) .nil))) .nil)) (.nm 1) (.rg1 (.bi .max (.cons (.lit (.int 1)) (.cons (.bi .min (.cons (.lit (.int 5)) (.cons (.bi .len (.cons (.var 0) .nil)) .nil))) .nil)))) .no [1])) .nil))) .nil) }
def T : List Def := [d_is_list, d_is_name, d_is_deed, d_is_row, d_are_rows, d_kept_rows, d_places_of, d_said, d_got, d_unheard, d_says_of_gets, d_done_counts, d_is_free, d_goals_of, d_comes_back, d_turning, d_Picture___init__, d_Picture___eq__, d_letters_of, d_want_few_letters, d_checked_rows, d_is_going, d_going, d_with_one, d_empty_cut, d_full_cut, d_passed, d_is_run, d_want_run, d_loads_of, d_load_at, d_room_of, d__law_pot, d__law_draw, d__law_pick, d__law_names, d__law_rows, d__law_goes, d__law_passed, d__law_load, d__law_is_run, d__law_run, d__law_bent, d__law_judged, d__law_right, d_law]
def lf : Nat := 45
end LawT
namespace LawT
open PySem PySem.Spec PyProof.Rows L2 MP
def top (i : Nat) : Stmt := (PySem.Challenge.pw_forcedbook_k22_runs_judged).main.body.getD i (.Pass ⟨0, 0, 0, 0⟩)
def sub (i j : Nat) : Stmt := match top i with
  | .ClassDef _ _ _ b .. => b.getD j (.Pass ⟨0, 0, 0, 0⟩)
  | s => s
def n0 : List Str := ["value"]
def n1 : List Str := ["value", "sign"]
def n2 : List Str := ["value"]
def n3 : List Str := ["hands", "hand", "value", "deed"]
def n4 : List Str := ["value", "hands", "hand", "row"]
def n5 : List Str := ["value", "hand"]
def n6 : List Str := ["rows", "hand", "kind", "other", "place", "deed"]
def n7 : List Str := ["rows", "one", "other", "place"]
def n8 : List Str := ["rows", "one", "other", "place"]
def n9 : List Str := ["rows", "is_stand", "one", "other", "words", "heard"]
def n10 : List Str := ["rows", "found", "one", "other", "said_at", "number", "place"]
def n11 : List Str := ["rows", "says", "counts", "hand", "is_going"]
def n12 : List Str := ["counts", "says", "spot", "hand", "place"]
def n13 : List Str := ["rows", "gets", "spot", "further", "hand", "place"]
def n14 : List Str := ["rows", "gets", "spot", "found", "waiting", "here", "goal"]
def n15 : List Str := ["rows", "says", "counts", "gets", "hand", "row", "place", "got_at", "said_at"]
def n16 : List Str := ["self", "rows"]
def n17 : List Str := ["self", "other"]
def n18 : List Str := ["rows", "found", "one", "other", "number"]
def n19 : List Str := ["many"]
def n20 : List Str := ["value", "rows", "spot", "pair", "one", "other"]
def n21 : List Str := ["rows", "needed", "counts", "hand", "spot"]
def n22 : List Str := ["rows", "needed", "cut", "counts", "hand"]
def n23 : List Str := ["rows", "cut", "hand", "one", "count"]
def n24 : List Str := ["picture", "hand"]
def n25 : List Str := ["picture", "row"]
def n26 : List Str := ["picture", "value", "hand", "rows", "needed", "cuts"]
def n27 : List Str := ["picture", "value"]
def n28 : List Str := ["picture", "run", "cuts"]
def n29 : List Str := ["picture", "found", "row", "loads", "deed"]
def n30 : List Str := ["loads", "cut", "own", "count"]
def n31 : List Str := ["picture", "run", "loads", "cut"]
def n32 : List Str := ["_law_script", "_law_k", "_law_start"]
def n33 : List Str := ["_law_pot_here", "_law_many", "_law_digit"]
def n34 : List Str := ["_law_pot_here", "_law_some"]
def n35 : List Str := ["_law_pot_here", "_law_many", "_law_turn", "_law_rest", "_law_found"]
def n36 : List Str := ["_law_pot_here", "_law_names_here", "_law_many", "_law_eager", "_law_rows_here", "_law_waiting", "_law_left", "_law_other", "_law_pairs", "_law_letter", "_law_one", "_law_word", "_law_hand"]
def n37 : List Str := ["_law_rows_here", "_law_run_here", "_law_hand", "_law_other", "_law_had", "_law_row", "_law_at", "_law_deed"]
def n38 : List Str := ["_law_rows_here", "_law_run_here", "_law_many", "_law_hand"]
def n39 : List Str := ["_law_rows_here", "_law_cut", "_law_found", "_law_hand", "_law_many", "_law_deed"]
def n40 : List Str := ["_law_rows_here", "_law_some", "_law_many", "_law_hand"]
def n41 : List Str := ["_law_pot_here", "_law_rows_here", "_law_found", "_law_many", "_law_row", "_law_hand"]
def n42 : List Str := ["_law_pot_here", "_law_rows_here", "_law_run_here", "_law_rest", "_law_one", "_law_road", "_law_at", "_law_hand"]
def n43 : List Str := ["_law_made", "_law_rows_here", "_law_some", "_law_answers", "_law_most", "_law_due", "_law_shown", "_law_cut"]
def n44 : List Str := ["_law_pot_here", "_law_names_here", "_law_rows_here", "_law_made", "_law_turn", "_law_run_here", "_law_bend"]
def n45 : List Str := ["_law_script", "_law_k"]
abbrev f0 : FD := ⟨("is_list" : Str), ["value"], top 6, none, "is_list"⟩
abbrev f1 : FD := ⟨("is_name" : Str), ["value"], top 9, none, "is_name"⟩
abbrev f2 : FD := ⟨("is_deed" : Str), ["value"], top 10, none, "is_deed"⟩
abbrev f3 : FD := ⟨("is_row" : Str), ["hands", "hand", "value"], top 27, none, "is_row"⟩
abbrev f4 : FD := ⟨("are_rows" : Str), ["value"], top 28, none, "are_rows"⟩
abbrev f5 : FD := ⟨("kept_rows" : Str), ["value"], top 29, none, "kept_rows"⟩
abbrev f6 : FD := ⟨("places_of" : Str), ["rows", "hand", "kind", "other"], top 30, none, "places_of"⟩
abbrev f7 : FD := ⟨("said" : Str), ["rows", "one", "other"], top 31, none, "said"⟩
abbrev f8 : FD := ⟨("got" : Str), ["rows", "one", "other"], top 32, none, "got"⟩
abbrev f9 : FD := ⟨("unheard" : Str), ["rows", "is_stand"], top 33, none, "unheard"⟩
abbrev f10 : FD := ⟨("says_of_gets" : Str), ["rows"], top 34, none, "says_of_gets"⟩
abbrev f11 : FD := ⟨("done_counts" : Str), ["rows", "says"], top 35, none, "done_counts"⟩
abbrev f12 : FD := ⟨("is_free" : Str), ["counts", "says", "spot"], top 36, none, "is_free"⟩
abbrev f13 : FD := ⟨("goals_of" : Str), ["rows", "gets", "spot"], top 37, none, "goals_of"⟩
abbrev f14 : FD := ⟨("comes_back" : Str), ["rows", "gets", "spot"], top 38, none, "comes_back"⟩
abbrev f15 : FD := ⟨("turning" : Str), ["rows"], top 39, none, "turning"⟩
abbrev f16 : FD := ⟨("__init__" : Str), ["self", "rows"], sub 44 2, (some "Picture"), "Picture.__init__"⟩
abbrev f17 : FD := ⟨("__eq__" : Str), ["self", "other"], sub 44 20, (some "Picture"), "Picture.__eq__"⟩
abbrev f18 : FD := ⟨("letters_of" : Str), ["rows"], top 45, none, "letters_of"⟩
abbrev f19 : FD := ⟨("want_few_letters" : Str), ["many"], top 46, none, "want_few_letters"⟩
abbrev f20 : FD := ⟨("checked_rows" : Str), ["value"], top 47, none, "checked_rows"⟩
abbrev f21 : FD := ⟨("is_going" : Str), ["rows", "needed", "counts", "hand"], top 54, none, "is_going"⟩
abbrev f22 : FD := ⟨("going" : Str), ["rows", "needed", "cut"], top 55, none, "going"⟩
abbrev f23 : FD := ⟨("with_one" : Str), ["rows", "cut", "hand"], top 56, none, "with_one"⟩
abbrev f24 : FD := ⟨("empty_cut" : Str), ["picture"], top 57, none, "empty_cut"⟩
abbrev f25 : FD := ⟨("full_cut" : Str), ["picture"], top 58, none, "full_cut"⟩
abbrev f26 : FD := ⟨("passed" : Str), ["picture", "value"], top 59, none, "passed"⟩
abbrev f27 : FD := ⟨("is_run" : Str), ["picture", "value"], top 60, none, "is_run"⟩
abbrev f28 : FD := ⟨("want_run" : Str), ["picture", "run"], top 61, none, "want_run"⟩
abbrev f29 : FD := ⟨("loads_of" : Str), ["picture"], top 63, none, "loads_of"⟩
abbrev f30 : FD := ⟨("load_at" : Str), ["loads", "cut"], top 64, none, "load_at"⟩
abbrev f31 : FD := ⟨("room_of" : Str), ["picture", "run"], top 65, none, "room_of"⟩
abbrev f32 : FD := ⟨("_law_pot" : Str), ["_law_script", "_law_k"], top 67, none, "_law_pot"⟩
abbrev f33 : FD := ⟨("_law_draw" : Str), ["_law_pot_here", "_law_many"], top 68, none, "_law_draw"⟩
abbrev f34 : FD := ⟨("_law_pick" : Str), ["_law_pot_here", "_law_some"], top 69, none, "_law_pick"⟩
abbrev f35 : FD := ⟨("_law_names" : Str), ["_law_pot_here", "_law_many"], top 70, none, "_law_names"⟩
abbrev f36 : FD := ⟨("_law_rows" : Str), ["_law_pot_here", "_law_names_here", "_law_many"], top 71, none, "_law_rows"⟩
abbrev f37 : FD := ⟨("_law_goes" : Str), ["_law_rows_here", "_law_run_here", "_law_hand"], top 72, none, "_law_goes"⟩
abbrev f38 : FD := ⟨("_law_passed" : Str), ["_law_rows_here", "_law_run_here"], top 73, none, "_law_passed"⟩
abbrev f39 : FD := ⟨("_law_load" : Str), ["_law_rows_here", "_law_cut"], top 74, none, "_law_load"⟩
abbrev f40 : FD := ⟨("_law_is_run" : Str), ["_law_rows_here", "_law_some"], top 75, none, "_law_is_run"⟩
abbrev f41 : FD := ⟨("_law_run" : Str), ["_law_pot_here", "_law_rows_here"], top 76, none, "_law_run"⟩
abbrev f42 : FD := ⟨("_law_bent" : Str), ["_law_pot_here", "_law_rows_here", "_law_run_here"], top 77, none, "_law_bent"⟩
abbrev f43 : FD := ⟨("_law_judged" : Str), ["_law_made", "_law_rows_here", "_law_some"], top 78, none, "_law_judged"⟩
abbrev f44 : FD := ⟨("_law_right" : Str), ["_law_pot_here"], top 79, none, "_law_right"⟩
abbrev f45 : FD := ⟨("law" : Str), ["_law_script"], top 80, none, "law"⟩
def fns : List FD := [f0, f1, f2, f3, f4, f5, f6, f7, f8, f9, f10, f11, f12, f13, f14, f15, f16, f17, f18, f19, f20, f21, f22, f23, f24, f25, f26, f27, f28, f29, f30, f31, f32, f33, f34, f35, f36, f37, f38, f39, f40, f41, f42, f43, f44, f45]
def Ns : List (List Str) := [n0, n1, n2, n3, n4, n5, n6, n7, n8, n9, n10, n11, n12, n13, n14, n15, n16, n17, n18, n19, n20, n21, n22, n23, n24, n25, n26, n27, n28, n29, n30, n31, n32, n33, n34, n35, n36, n37, n38, n39, n40, n41, n42, n43, n44, n45]
def cs : List (Str × MV) := [("GET", .str (Str.ofString "get")), ("LETTERS", .str (Str.ofString "abcdefghijklmnopqrstuvwxyz")), ("MOST_SIGNS", .int 6), ("SAY", .str (Str.ofString "say"))]
def bs : List Str := ["abs", "all", "any", "dict", "divmod", "enumerate", "int", "isinstance", "len", "list", "max", "min", "range", "repr", "sorted", "str", "sum", "tuple", "zip"]
def ks : List (Nat × Nat × List Str × List Nat) := [(27, 0, ["value", "picture"], [1, 0]), (31, 0, ["run", "picture"], [1, 0])]
def cl : List Str := ["Picture", "Whole"]
def fl : List (Str × Str) := [("Picture", "own_rows"), ("Whole", "own_rows")]
def cc : List (Str × Str × MV) := [("Picture", "MOST_HANDS", (.int 4)), ("Picture", "MOST_LETTERS", (.int 16))]
def mks : List (Nat × Str) := [(16, "Picture")]
def eqs : List (Nat × Str) := [(17, "Picture")]
def B : TB := ⟨fns, cs, bs, ks, cl, fl, cc, mks, eqs⟩
theorem chk : chkAll B B.fns T Ns = true := by decide +kernel
theorem b0 : BindH f0 := fun _ _ _ _ _ _ us hl => match us, hl with
  | [_], _ => rfl
theorem b1 : BindH f1 := fun _ _ _ _ _ _ us hl => match us, hl with
  | [_], _ => rfl
theorem b2 : BindH f2 := fun _ _ _ _ _ _ us hl => match us, hl with
  | [_], _ => rfl
theorem b3 : BindH f3 := fun _ _ _ _ _ _ us hl => match us, hl with
  | [_, _, _], _ => rfl
theorem b4 : BindH f4 := fun _ _ _ _ _ _ us hl => match us, hl with
  | [_], _ => rfl
theorem b5 : BindH f5 := fun _ _ _ _ _ _ us hl => match us, hl with
  | [_], _ => rfl
theorem b6 : BindH f6 := fun _ _ _ _ _ _ us hl => match us, hl with
  | [_, _, _, _], _ => rfl
theorem b7 : BindH f7 := fun _ _ _ _ _ _ us hl => match us, hl with
  | [_, _, _], _ => rfl
theorem b8 : BindH f8 := fun _ _ _ _ _ _ us hl => match us, hl with
  | [_, _, _], _ => rfl
theorem b9 : BindH f9 := fun _ _ _ _ _ _ us hl => match us, hl with
  | [_, _], _ => rfl
theorem b10 : BindH f10 := fun _ _ _ _ _ _ us hl => match us, hl with
  | [_], _ => rfl
theorem b11 : BindH f11 := fun _ _ _ _ _ _ us hl => match us, hl with
  | [_, _], _ => rfl
theorem b12 : BindH f12 := fun _ _ _ _ _ _ us hl => match us, hl with
  | [_, _, _], _ => rfl
theorem b13 : BindH f13 := fun _ _ _ _ _ _ us hl => match us, hl with
  | [_, _, _], _ => rfl
theorem b14 : BindH f14 := fun _ _ _ _ _ _ us hl => match us, hl with
  | [_, _, _], _ => rfl
theorem b15 : BindH f15 := fun _ _ _ _ _ _ us hl => match us, hl with
  | [_], _ => rfl
theorem b16 : BindH f16 := fun _ _ _ _ _ _ us hl => match us, hl with
  | [_, _], _ => rfl
theorem b17 : BindH f17 := fun _ _ _ _ _ _ us hl => match us, hl with
  | [_, _], _ => rfl
theorem b18 : BindH f18 := fun _ _ _ _ _ _ us hl => match us, hl with
  | [_], _ => rfl
theorem b19 : BindH f19 := fun _ _ _ _ _ _ us hl => match us, hl with
  | [_], _ => rfl
theorem b20 : BindH f20 := fun _ _ _ _ _ _ us hl => match us, hl with
  | [_], _ => rfl
theorem b21 : BindH f21 := fun _ _ _ _ _ _ us hl => match us, hl with
  | [_, _, _, _], _ => rfl
theorem b22 : BindH f22 := fun _ _ _ _ _ _ us hl => match us, hl with
  | [_, _, _], _ => rfl
theorem b23 : BindH f23 := fun _ _ _ _ _ _ us hl => match us, hl with
  | [_, _, _], _ => rfl
theorem b24 : BindH f24 := fun _ _ _ _ _ _ us hl => match us, hl with
  | [_], _ => rfl
theorem b25 : BindH f25 := fun _ _ _ _ _ _ us hl => match us, hl with
  | [_], _ => rfl
theorem b26 : BindH f26 := fun _ _ _ _ _ _ us hl => match us, hl with
  | [_, _], _ => rfl
theorem b27 : BindH f27 := fun _ _ _ _ _ _ us hl => match us, hl with
  | [_, _], _ => rfl
theorem b28 : BindH f28 := fun _ _ _ _ _ _ us hl => match us, hl with
  | [_, _], _ => rfl
theorem b29 : BindH f29 := fun _ _ _ _ _ _ us hl => match us, hl with
  | [_], _ => rfl
theorem b30 : BindH f30 := fun _ _ _ _ _ _ us hl => match us, hl with
  | [_, _], _ => rfl
theorem b31 : BindH f31 := fun _ _ _ _ _ _ us hl => match us, hl with
  | [_, _], _ => rfl
theorem b32 : BindH f32 := fun _ _ _ _ _ _ us hl => match us, hl with
  | [_, _], _ => rfl
theorem b33 : BindH f33 := fun _ _ _ _ _ _ us hl => match us, hl with
  | [_, _], _ => rfl
theorem b34 : BindH f34 := fun _ _ _ _ _ _ us hl => match us, hl with
  | [_, _], _ => rfl
theorem b35 : BindH f35 := fun _ _ _ _ _ _ us hl => match us, hl with
  | [_, _], _ => rfl
theorem b36 : BindH f36 := fun _ _ _ _ _ _ us hl => match us, hl with
  | [_, _, _], _ => rfl
theorem b37 : BindH f37 := fun _ _ _ _ _ _ us hl => match us, hl with
  | [_, _, _], _ => rfl
theorem b38 : BindH f38 := fun _ _ _ _ _ _ us hl => match us, hl with
  | [_, _], _ => rfl
theorem b39 : BindH f39 := fun _ _ _ _ _ _ us hl => match us, hl with
  | [_, _], _ => rfl
theorem b40 : BindH f40 := fun _ _ _ _ _ _ us hl => match us, hl with
  | [_, _], _ => rfl
theorem b41 : BindH f41 := fun _ _ _ _ _ _ us hl => match us, hl with
  | [_, _], _ => rfl
theorem b42 : BindH f42 := fun _ _ _ _ _ _ us hl => match us, hl with
  | [_, _, _], _ => rfl
theorem b43 : BindH f43 := fun _ _ _ _ _ _ us hl => match us, hl with
  | [_, _, _], _ => rfl
theorem b44 : BindH f44 := fun _ _ _ _ _ _ us hl => match us, hl with
  | [_], _ => rfl
theorem b45 : BindH f45 := fun _ _ _ _ _ _ us hl => match us, hl with
  | [_], _ => rfl
theorem bH : ∀ d ∈ B.fns, BindH d := List.forall_mem_cons.mpr ⟨b0, List.forall_mem_cons.mpr ⟨b1, List.forall_mem_cons.mpr ⟨b2, List.forall_mem_cons.mpr ⟨b3, List.forall_mem_cons.mpr ⟨b4, List.forall_mem_cons.mpr ⟨b5, List.forall_mem_cons.mpr ⟨b6, List.forall_mem_cons.mpr ⟨b7, List.forall_mem_cons.mpr ⟨b8, List.forall_mem_cons.mpr ⟨b9, List.forall_mem_cons.mpr ⟨b10, List.forall_mem_cons.mpr ⟨b11, List.forall_mem_cons.mpr ⟨b12, List.forall_mem_cons.mpr ⟨b13, List.forall_mem_cons.mpr ⟨b14, List.forall_mem_cons.mpr ⟨b15, List.forall_mem_cons.mpr ⟨b16, List.forall_mem_cons.mpr ⟨b17, List.forall_mem_cons.mpr ⟨b18, List.forall_mem_cons.mpr ⟨b19, List.forall_mem_cons.mpr ⟨b20, List.forall_mem_cons.mpr ⟨b21, List.forall_mem_cons.mpr ⟨b22, List.forall_mem_cons.mpr ⟨b23, List.forall_mem_cons.mpr ⟨b24, List.forall_mem_cons.mpr ⟨b25, List.forall_mem_cons.mpr ⟨b26, List.forall_mem_cons.mpr ⟨b27, List.forall_mem_cons.mpr ⟨b28, List.forall_mem_cons.mpr ⟨b29, List.forall_mem_cons.mpr ⟨b30, List.forall_mem_cons.mpr ⟨b31, List.forall_mem_cons.mpr ⟨b32, List.forall_mem_cons.mpr ⟨b33, List.forall_mem_cons.mpr ⟨b34, List.forall_mem_cons.mpr ⟨b35, List.forall_mem_cons.mpr ⟨b36, List.forall_mem_cons.mpr ⟨b37, List.forall_mem_cons.mpr ⟨b38, List.forall_mem_cons.mpr ⟨b39, List.forall_mem_cons.mpr ⟨b40, List.forall_mem_cons.mpr ⟨b41, List.forall_mem_cons.mpr ⟨b42, List.forall_mem_cons.mpr ⟨b43, List.forall_mem_cons.mpr ⟨b44, List.forall_mem_cons.mpr ⟨b45, fun _ h => nomatch h⟩⟩⟩⟩⟩⟩⟩⟩⟩⟩⟩⟩⟩⟩⟩⟩⟩⟩⟩⟩⟩⟩⟩⟩⟩⟩⟩⟩⟩⟩⟩⟩⟩⟩⟩⟩⟩⟩⟩⟩⟩⟩⟩⟩⟩⟩
theorem k0 : BindK f27 0 ["value", "picture"] [1, 0] := fun _ _ _ _ _ _ us ws h1 h2 => match us, ws, h1, h2 with
  | [], [y0, y1], _, _ => ⟨[y1, y0], rfl, rfl⟩
theorem k1 : BindK f31 0 ["run", "picture"] [1, 0] := fun _ _ _ _ _ _ us ws h1 h2 => match us, ws, h1, h2 with
  | [], [y0, y1], _, _ => ⟨[y1, y0], rfl, rfl⟩
theorem bK : ∀ q ∈ B.ks, ∃ d, B.fns[q.1]? = some d ∧ BindK d q.2.1 q.2.2.1 q.2.2.2 := List.forall_mem_cons.mpr ⟨⟨f27, rfl, k0⟩, List.forall_mem_cons.mpr ⟨⟨f31, rfl, k1⟩, fun _ h => nomatch h⟩⟩
def lo0 : List PySem.Str := ["_wall", "LETTERS", "MOST_SIGNS", "SAY", "GET", "is_list", "is_integer", "is_count", "is_name", "is_deed", "PictureError", "InvalidRows", "InvalidHands", "InvalidRun", "MissingError", "UnknownHand", "UnknownSpot", "UnknownLetter", "StateError", "Unheard", "ComesRound", "OtherHands", "LimitError", "TooMany", "is_row", "are_rows", "kept_rows", "places_of", "said", "got"]
def lo1 : List PySem.Str := ["unheard", "says_of_gets", "done_counts", "is_free", "goals_of", "comes_back", "turning", "want_hand", "want_hands", "want_same_hands", "Whole", "Picture", "letters_of", "want_few_letters", "checked_rows", "picture_of", "is_letter", "want_letter", "is_spot", "want_spot", "is_going", "going", "with_one", "empty_cut", "full_cut", "passed", "is_run", "want_run", "loads_of", "load_at"]
def lo2 : List PySem.Str := ["room_of", "_law_pot", "_law_draw", "_law_pick", "_law_names", "_law_rows", "_law_goes", "_law_passed", "_law_load", "_law_is_run", "_law_run", "_law_bent", "_law_judged", "_law_right"]
def loose : List PySem.Str := lo0 ++ lo1 ++ lo2
abbrev R : PySem.W.OpenRow := PySem.W.OpenLaw.row PySem.Challenge.rw_forcedbook_k22_runs_judged
def as : List PySem.Addr := 3 :: PySem.cStatics :: [6, 4, 21, 28, 35, 42, 47, 54, 64, 84, 103, 122, 134, 154, 173, 192, 204, 224, 243, 262, 274, 294, 301, 306, 311, 316, 321, 326, 333, 340, 347, 354, 361, 368, 373, 380, 387, 394, 411, 559, 568, 575, 582, 589, 596, 603, 610, 617, 624, 629, 634, 639, 644, 651, 658, 665, 672, 677, 682, 689, 696, 703, 710, 715, 720, 725, 730, 735, 740, 745, 750, 757, 762, 0, 20, 27, 34, 41, 46, 53, 63, 83, 102, 121, 133, 153, 172, 191, 203, 223, 242, 261, 273, 293, 300, 305, 310, 315, 320, 325, 332, 339, 346, 353, 360, 367, 372, 379, 386, 393, 410, 558, 567, 574, 581, 588, 595, 602, 609, 616, 623, 628, 633, 638, 643, 650, 657, 664, 671, 676, 681, 688, 695, 702, 709, 714, 719, 724, 729, 734, 739, 744, 749, 756, 761, 15, 16, 17, 18, 19, 22, 23, 24, 25, 26, 29, 30, 31, 32, 33, 36, 37, 38, 39, 40, 43, 44, 45, 48, 49, 50, 51, 52, 62, 65, 81, 82, 100, 101, 119, 120, 132, 135, 151, 152, 170, 171, 189, 190, 202, 205, 221, 222, 240, 241, 259, 260, 272, 275, 291, 292, 297, 298, 299, 302, 303, 304, 307, 308, 309, 312, 313, 314, 317, 318, 319, 322, 323, 324, 327, 328, 329, 330, 331, 334, 335, 336, 337, 338, 341, 342, 343, 344, 345, 348, 349, 350, 351, 352, 355, 356, 357, 358, 359, 362, 363, 364, 365, 366, 369, 370, 371, 374, 375, 376, 377, 378, 381, 382, 383, 384, 385, 388, 389, 390, 391, 392, 408, 409, 412, 413, 429, 436, 441, 448, 455, 462, 469, 476, 483, 490, 495, 502, 509, 516, 523, 530, 537, 542, 549, 556, 557, 560, 561, 564, 565, 566, 569, 570, 571, 572, 573, 576, 577, 578, 579, 580, 583, 584, 585, 586, 587, 590, 591, 592, 593, 594, 597, 598, 599, 600, 601, 604, 605, 606, 607, 608, 611, 612, 613, 614, 615, 618, 619, 620, 621, 622, 625, 626, 627, 630, 631, 632, 635, 636, 637, 640, 641, 642, 645, 646, 647, 648, 649, 652, 653, 654, 655, 656, 659, 660, 661, 662, 663, 666, 667, 668, 669, 670, 673, 674, 675, 678, 679, 680, 683, 684, 685, 686, 687, 690, 691, 692, 693, 694, 697, 698, 699, 700, 701, 704, 705, 706, 707, 708, 711, 712, 713, 716, 717, 718, 721, 722, 723, 726, 727, 728, 731, 732, 733, 736, 737, 738, 741, 742, 743, 746, 747, 748, 751, 752, 753, 754, 755, 758, 759, 760, 80, 99, 118, 150, 169, 188, 220, 239, 258, 290, 407, 428, 435, 440, 447, 454, 461, 468, 475, 482, 489, 494, 501, 508, 515, 522, 529, 536, 541, 548, 555]
abbrev hk : PySem.W.Hook := hookL as (faOf B) (fnDs B) (exB B)
def ob (s : PySem.W.SharedT) : He.AlD × Bool := obsL as (faOf B) (fnDs B) (exB B) (HandSHeadRun.getT s)
theorem ob_eq (s : PySem.W.SharedT) : ob s = hk.obs s.abs := obsL_eq (HandSHeadRun.getT_eq s)
theorem run (w : World) : HandSHeadRun.RunEq R (PySem.W.view R.prog [80]) hk ob 30000 loose w := by
  intro os
  kernel_rfl
def li : Nat := 80
end LawT
/-! MP: its meaning, step by step, with no program in sight. -/
namespace MPV
open PySem hiding Env
open MP
def Ev {α : Type} (x : M α) (h : MH) (Q : α → MH → Prop) : Prop := match x h with
  | .ok a h' => Q a h'
  | _ => False
section
variable {α β : Type} {h : MH}
theorem ev_of {x : M α} {Q : α → MH → Prop} {a : α} {h' : MH} (e : x h = .ok a h') (q : Q a h') : Ev x h Q := by
  unfold Ev
  rw [e]
  exact q
theorem ev_to {x : M α} {Q : α → MH → Prop} (e : Ev x h Q) : ∃ a h', x h = .ok a h' ∧ Q a h' := by
  unfold Ev at e
  cases z : x h with
  | ok a h' => rw [z] at e; exact ⟨a, h', rfl, e⟩
  | exc _ _ => rw [z] at e; exact e.elim
  | stuck => rw [z] at e; exact e.elim
theorem Ev.mono {x : M α} {Q Q' : α → MH → Prop} (e : Ev x h Q) (k : ∀ a h', Q a h' → Q' a h') : Ev x h Q' := by
  obtain ⟨a, h', z, q⟩ := ev_to e
  exact ev_of z (k _ _ q)
theorem ev_ret (a : α) (Q : α → MH → Prop) : Ev (M.ret a) h Q = Q a h := rfl
theorem ev_stk (Q : α → MH → Prop) : Ev (M.stk) h Q = False := rfl
theorem ev_bnd (x : M α) (f : α → M β) (Q : β → MH → Prop) : Ev (x.bnd f) h Q = Ev x h fun a h' => Ev (f a) h' Q := by
  unfold Ev M.bnd
  cases x h <;> rfl
theorem ev_alloc (o : MO) (Q : MV → MH → Prop) : Ev (M.alloc o) h Q = Q (.ref h.length) (h ++ [o]) := rfl
theorem ev_some (a : α) (Q : α → MH → Prop) : Ev (M.opt (some a)) h Q = Q a h := rfl
theorem ev_chk (Q : Unit → MH → Prop) : Ev (M.chk true) h Q = Q () h := rfl
theorem ev_ite (c : Prop) [Decidable c] (x y : M α) (Q : α → MH → Prop) : Ev (if c then x else y) h Q = if c then Ev x h Q else Ev y h Q := by
  by_cases z : c <;> simp [z]
end
/-- behind a statement -/
def afterS (k : Env → M (Env × Fl)) (p : Env × Fl) : M (Env × Fl) := match p.2 with
  | .nx => k p.1
  | f => .ret (p.1, f)
theorem after_nx (k : Env → M (Env × Fl)) (ρ : Env) : afterS k (ρ, .nx) = k ρ := rfl
theorem after_rt (k : Env → M (Env × Fl)) (ρ : Env) (v : MV) : afterS k (ρ, .rt v) = .ret (ρ, .rt v) := rfl
section
variable (F : Nat → List MV → M MV) (W : Nat)
theorem e_var (i : Nat) (ρ : Env) : evE F W (.var i) ρ = match ρ[i]? with
    | some (some v) => M.ret v
    | _ => M.stk := rfl
theorem e_lit (v : MV) (ρ : Env) : evE F W (.lit v) ρ = M.ret v := rfl
theorem e_glo (x : Str) (v : MV) (ρ : Env) : evE F W (.glo x v) ρ = M.ret v := rfl
theorem e_tup (es : EL) (ρ : Env) : evE F W (.tup es) ρ = (evEL F W es ρ).bnd tupV := rfl
theorem e_lst (es : EL) (ρ : Env) : evE F W (.lst es) ρ = (evEL F W es ρ).bnd lstV := rfl
theorem e_dct (es : EL) (ρ : Env) : evE F W (.dct es) ρ = (evEL F W es ρ).bnd dctV := rfl
theorem e_bin (o : Bop) (a b : E) (ρ : Env) : evE F W (.bin o a b) ρ = (evE F W a ρ).bnd fun x => (evE F W b ρ).bnd fun y => binV o x y := rfl
theorem e_neg (a : E) (ρ : Env) : evE F W (.neg a) ρ = (evE F W a ρ).bnd negV := rfl
theorem e_cmp (o : Cop) (a b : E) (ρ : Env) : evE F W (.cmp o a b) ρ = (evE F W a ρ).bnd fun x => (evE F W b ρ).bnd fun y => (cmpV o x y).bnd fun k => .ret (.bl k) := rfl
theorem e_chain (o p : Cop) (a b c : E) (ρ : Env) : evE F W (.chain o p a b c) ρ = (evE F W a ρ).bnd fun x => (evE F W b ρ).bnd fun y => (cmpV o x y).bnd fun k => if k then (evE F W c ρ).bnd fun z => (cmpV p y z).bnd fun k => .ret (.bl k) else .ret (.bl false) := rfl
theorem e_isK (ng : Bool) (a : E) (v : MV) (ρ : Env) : evE F W (.isK ng a v) ρ = (evE F W a ρ).bnd fun x => (isKV x v).bnd fun k => .ret (.bl (if ng then !k else k)) := rfl
theorem e_bop (d : Bool) (es : EL) (ρ : Env) : evE F W (.bop d es) ρ = evB F W d es ρ := rfl
theorem e_not (a : E) (ρ : Env) : evE F W (.not a) ρ = (evE F W a ρ).bnd notV := rfl
theorem e_ife (t a b : E) (ρ : Env) : evE F W (.ife t a b) ρ = (evT F W t ρ).bnd fun k => if k then evE F W a ρ else evE F W b ρ := rfl
theorem e_call (f : Nat) (es : EL) (ρ : Env) : evE F W (.call f es) ρ = (evEL F W es ρ).bnd fun xs => F f xs := rfl
theorem e_callk (f : Nat) (es kes : EL) (arr : List Nat) (ρ : Env) : evE F W (.callk f es kes arr) ρ = (evEL F W es ρ).bnd fun xs => (evEL F W kes ρ).bnd fun ys => (M.opt (pick (xs ++ ys) arr)).bnd fun zs => F f zs := rfl
theorem e_bi (b : Bi) (es : EL) (ρ : Env) : evE F W (.bi b es) ρ = (evEL F W es ρ).bnd fun xs => biV b xs := rfl
theorem e_isi (a : E) (ts : List Ty) (ρ : Env) : evE F W (.isi a ts) ρ = (evE F W a ρ).bnd fun x => (isisV x ts).bnd fun k => .ret (.bl k) := rfl
theorem e_mth (m : Mt) (o : E) (es : EL) (ρ : Env) : evE F W (.mth m o es) ρ = (evE F W o ρ).bnd fun x => (rcvV m x).bnd fun _ => (evEL F W es ρ).bnd fun xs => mtV m x xs := rfl
theorem e_idx (a b : E) (ρ : Env) : evE F W (.idx a b) ρ = (evE F W a ρ).bnd fun x => (evE F W b ρ).bnd fun y => idxV x y := rfl
theorem e_slc (a : E) (lo hi : EO) (ρ : Env) : evE F W (.slc a lo hi) ρ = (evE F W a ρ).bnd fun x => (evO F W lo ρ).bnd fun l => (evO F W hi ρ).bnd fun u => slcV x l u := rfl
theorem e_lc (e : E) (t : Tg) (it : Ir) (cs : EO) (own : List Nat) (ρ : Env) : evE F W (.lc e t it cs own) ρ = (evIt F W it ρ).bnd fun J => (lcLoop (lcStep (asgT F W t) (evC F W cs) (evE F W e) (wipeE ρ own)) J W 0 []).bnd fun ys => M.alloc (.lst ys) := rfl
theorem e_val (e : E) (ρ : Env) : evE F W (.val e) ρ = bvV (evE F W e ρ) := rfl
theorem e_fld (e : E) (c f : Str) (ρ : Env) : evE F W (.fld e c f) ρ = (evE F W e ρ).bnd (fldV c f) := rfl
theorem e_con (c f : Str) (v : MV) (ρ : Env) : evE F W (.con c f v) ρ = M.ret v := rfl
theorem e_mk (c : Str) (f : Nat) (es : EL) (ρ : Env) : evE F W (.mk c f es) ρ = (evEL F W es ρ).bnd fun xs => mkV c (F f) xs := rfl
theorem e_iso (a : E) (c : Str) (ρ : Env) : evE F W (.iso a c) ρ = (evE F W a ρ).bnd fun x => (isoV c x).bnd fun k => .ret (.bl k) := rfl
theorem e_dctT (ρ : Env) : evE F W .dctT ρ = M.alloc (.dct true []) := rfl
theorem e_rev (a : E) (ρ : Env) : evE F W (.rev a) ρ = (evE F W a ρ).bnd revV := rfl
theorem e_eqo (f : Nat) (c : Str) (a b : E) (ρ : Env) : evE F W (.eqo f c a b) ρ = (evE F W a ρ).bnd fun x => (evE F W b ρ).bnd fun y => (eqoV c (F f) x y).bnd fun k => .ret (.bl k) := rfl
theorem e_dc (t : Bool) (k v : E) (g : Tg) (it : Ir) (cs : EO) (own : List Nat) (ρ : Env) : evE F W (.dc t k v g it cs own) ρ = (evIt F W it ρ).bnd fun J => (dcLoop t (dcStep (asgT F W g) (evC F W cs) (evE F W k) (evE F W v) (wipeE ρ own)) J W 0 []).bnd fun ys => M.alloc (.dct t ys) := rfl
theorem e_dz (a b : E) (ρ : Env) : evE F W (.dz a b) ρ = (evE F W a ρ).bnd fun x => (evE F W b ρ).bnd fun y => dzV x y := rfl
theorem t_iso (a : E) (c : Str) (ρ : Env) : evT F W (.iso a c) ρ = (evE F W a ρ).bnd fun x => isoV c x := rfl
theorem t_eqo (f : Nat) (c : Str) (a b : E) (ρ : Env) : evT F W (.eqo f c a b) ρ = (evE F W a ρ).bnd fun x => (evE F W b ρ).bnd fun y => eqoV c (F f) x y := rfl
theorem i_en (a : E) (ρ : Env) : evIt F W (.en a) ρ = (evE F W a ρ).bnd enV := rfl
theorem i_its (a : E) (ρ : Env) : evIt F W (.its a) ρ = (evE F W a ρ).bnd itsV := rfl
theorem i_vas (a : E) (ρ : Env) : evIt F W (.vas a) ρ = (evE F W a ρ).bnd vasV := rfl
theorem i_zp (a b : E) (ρ : Env) : evIt F W (.zp a b) ρ = (evE F W a ρ).bnd fun x => (evE F W b ρ).bnd fun y => zpV x y := rfl
theorem s_setf (c : Str) (o : E) (f : Str) (e : E) (ρ : Env) : evS F W (.setf c o f e) ρ = (evE F W e ρ).bnd fun x => (evE F W o ρ).bnd fun y => (setfV c f y x).bnd fun _ => .ret (ρ, .nx) := rfl
theorem s_aug (sb : Bool) (i : Nat) (e : E) (ρ : Env) : evS F W (.aug sb i e) ρ = (evE F W (.var i) ρ).bnd fun x => (evE F W e ρ).bnd fun y => (augV sb x y).bnd fun z => .ret (ρ.set i (some z), .nx) := rfl
theorem s_par3 (i j k : Nat) (a b c : E) (ρ : Env) : evS F W (.par3 i j k a b c) ρ = (evE F W a ρ).bnd fun x => (evE F W b ρ).bnd fun y => (evE F W c ρ).bnd fun z => .ret (((ρ.set i (some x)).set j (some y)).set k (some z), .nx) := rfl
theorem s_brk (ρ : Env) : evS F W .brk ρ = M.ret (ρ, .bk) := rfl
theorem s_cnt (ρ : Env) : evS F W .cnt ρ = M.ret (ρ, .ct) := rfl
theorem el_nil (ρ : Env) : evEL F W .nil ρ = M.ret [] := rfl
theorem el_cons (e : E) (r : EL) (ρ : Env) : evEL F W (.cons e r) ρ = (evE F W e ρ).bnd fun x => (evEL F W r ρ).bnd fun xs => .ret (x :: xs) := rfl
theorem eb_one (d : Bool) (e : E) (ρ : Env) : evB F W d (.cons e .nil) ρ = evE F W e ρ := rfl
theorem eb_cons (d : Bool) (e e2 : E) (r : EL) (ρ : Env) : evB F W d (.cons e (.cons e2 r)) ρ = (evE F W e ρ).bnd fun x => bopV d (evB F W d (.cons e2 r) ρ) x := rfl
theorem eo_no (ρ : Env) : evO F W .no ρ = M.ret none := rfl
theorem eo_so (e : E) (ρ : Env) : evO F W (.so e) ρ = (evE F W e ρ).bnd intO := rfl
theorem ec_no (ρ : Env) : evC F W .no ρ = M.ret true := rfl
theorem ec_so (e : E) (ρ : Env) : evC F W (.so e) ρ = evT F W e ρ := rfl
theorem t_bop (d : Bool) (es : EL) (ρ : Env) : evT F W (.bop d es) ρ = evBT F W d es ρ := rfl
theorem t_not (a : E) (ρ : Env) : evT F W (.not a) ρ = (evT F W a ρ).bnd fun k => .ret (!k) := rfl
theorem t_var (i : Nat) (ρ : Env) : evT F W (.var i) ρ = (match ρ[i]? with
    | some (some v) => M.ret v
    | _ => M.stk).bnd truV := rfl
theorem t_cmp (o : Cop) (a b : E) (ρ : Env) : evT F W (.cmp o a b) ρ = (evE F W a ρ).bnd fun x => (evE F W b ρ).bnd fun y => cmpV o x y := rfl
theorem t_chain (o p : Cop) (a b c : E) (ρ : Env) : evT F W (.chain o p a b c) ρ = (evE F W a ρ).bnd fun x => (evE F W b ρ).bnd fun y => (cmpV o x y).bnd fun k => if k then (evE F W c ρ).bnd fun z => cmpV p y z else .ret false := rfl
theorem t_isK (ng : Bool) (a : E) (v : MV) (ρ : Env) : evT F W (.isK ng a v) ρ = (evE F W a ρ).bnd fun x => (isKV x v).bnd fun k => .ret (if ng then !k else k) := rfl
theorem t_call (f : Nat) (es : EL) (ρ : Env) : evT F W (.call f es) ρ = (evEL F W es ρ).bnd fun xs => (F f xs).bnd truV := rfl
theorem t_bi (b : Bi) (es : EL) (ρ : Env) : evT F W (.bi b es) ρ = (evEL F W es ρ).bnd fun xs => (biV b xs).bnd truV := rfl
theorem t_isi (a : E) (ts : List Ty) (ρ : Env) : evT F W (.isi a ts) ρ = (evE F W a ρ).bnd fun x => isisV x ts := rfl
theorem t_idx (a b : E) (ρ : Env) : evT F W (.idx a b) ρ = (evE F W a ρ).bnd fun x => (evE F W b ρ).bnd fun y => (idxV x y).bnd truV := rfl
theorem bt_one (d : Bool) (e : E) (ρ : Env) : evBT F W d (.cons e .nil) ρ = evT F W e ρ := rfl
theorem bt_cons (d : Bool) (e e2 : E) (r : EL) (ρ : Env) : evBT F W d (.cons e (.cons e2 r)) ρ = (evT F W e ρ).bnd fun k => if k == d then evBT F W d (.cons e2 r) ρ else .ret k := rfl
theorem g_nm (i : Nat) (v : MV) (ρ : Env) : asgT F W (.nm i) v ρ = M.ret (ρ.set i (some v)) := rfl
theorem g_tp (ts : TgL) (xs : List MV) (ρ : Env) : asgT F W (.tp ts) (.tup xs) ρ = asgL F W ts xs ρ := rfl
theorem g_sb (o i : E) (v : MV) (ρ : Env) : asgT F W (.sb o i) v ρ = (evE F W o ρ).bnd fun x => (evE F W i ρ).bnd fun y => (setV x y v).bnd fun _ => .ret ρ := rfl
theorem gl_nil (ρ : Env) : asgL F W .nil [] ρ = M.ret ρ := rfl
theorem gl_cons (t : Tg) (r : TgL) (x : MV) (xs : List MV) (ρ : Env) : asgL F W (.cons t r) (x :: xs) ρ = (asgT F W t x ρ).bnd fun ρ' => asgL F W r xs ρ' := rfl
theorem i_vl (e : E) (ρ : Env) : evIt F W (.vl e) ρ = (evE F W e ρ).bnd itV := rfl
theorem i_rg1 (a : E) (ρ : Env) : evIt F W (.rg1 a) ρ = (evE F W a ρ).bnd rg1V := rfl
theorem i_rg2 (a b : E) (ρ : Env) : evIt F W (.rg2 a b) ρ = (evE F W a ρ).bnd fun x => (evE F W b ρ).bnd fun y => rg2V x y := rfl
theorem s_asg (t : Tg) (e : E) (ρ : Env) : evS F W (.asg t e) ρ = (evE F W e ρ).bnd fun x => (asgT F W t x ρ).bnd fun ρ' => .ret (ρ', .nx) := rfl
theorem s_par (i j : Nat) (a b : E) (ρ : Env) : evS F W (.par i j a b) ρ = (evE F W a ρ).bnd fun x => (evE F W b ρ).bnd fun y => .ret ((ρ.set i (some x)).set j (some y), .nx) := rfl
theorem s_ex (e : E) (ρ : Env) : evS F W (.ex e) ρ = (evE F W e ρ).bnd fun _ => .ret (ρ, .nx) := rfl
theorem s_ret (e : E) (ρ : Env) : evS F W (.ret e) ρ = (evE F W e ρ).bnd fun x => .ret (ρ, .rt x) := rfl
theorem s_retN (ρ : Env) : evS F W .retN ρ = M.ret (ρ, .rt .non) := rfl
theorem s_ifs (c : E) (a b : SL) (ρ : Env) : evS F W (.ifs c a b) ρ = (evT F W c ρ).bnd fun k => if k then evSL F W a ρ else evSL F W b ρ := rfl
theorem s_fors (t : Tg) (it : Ir) (b : SL) (ρ : Env) : evS F W (.fors t it b) ρ = (evIt F W it ρ).bnd fun J => forLoop (asgT F W t) (evSL F W b) J W 0 ρ := rfl
theorem s_whl (c : E) (b : SL) (ρ : Env) : evS F W (.whl c b) ρ = whlLoop (evT F W c) (evSL F W b) W ρ := rfl
theorem s_pas (ρ : Env) : evS F W .pas ρ = M.ret (ρ, .nx) := rfl
theorem sl_nil (ρ : Env) : evSL F W .nil ρ = M.ret (ρ, .nx) := rfl
theorem sl_cons (s : S) (r : SL) (ρ : Env) : evSL F W (.cons s r) ρ = (evS F W s ρ).bnd fun p => afterS (evSL F W r) p := rfl
end
end MPV
/-! MP: terms without places, by equations: a pure term is M.ret of its value. -/
namespace MPV
open PySem hiding Env
open MP
theorem b00 : (false == false) = true := rfl
theorem b01 : (false == true) = false := rfl
theorem b10 : (true == false) = false := rfl
theorem b11 : (true == true) = true := rfl
theorem w_nil (ρ : Env) : wipeE ρ [] = ρ := rfl
theorem w_cons (ρ : Env) (v : Nat) (vs : List Nat) : wipeE ρ (v :: vs) = (wipeE ρ vs).set v none := rfl
theorem r_bnd {α β : Type} (a : α) (f : α → M β) : (M.ret a).bnd f = f a := rfl
theorem r_opt {α : Type} (a : α) : M.opt (some a) = M.ret a := rfl
theorem noRef_byV {h : MH} {n : Nat} {v : MV} (k : noRef v = true) : ∀ j : Nat, byV h n j v = some v
  | 0 => by unfold byV; rw [if_pos k]
  | j + 1 => by unfold byV; rw [if_pos k]
theorem cln_refl (h : MH) : Cln h h := ⟨Nat.le_refl _, fun _ _ => .inl rfl⟩
/-- the heap grows -/
def Gr (h h' : MH) : Prop := h.length ≤ h'.length ∧ ∀ i : Nat, i < h.length → h'[i]? = h[i]?
theorem Gr.refl (h : MH) : Gr h h := ⟨Nat.le_refl _, fun _ _ => rfl⟩
theorem Gr.trans {a b c : MH} (h : Gr a b) (k : Gr b c) : Gr a c := ⟨Nat.le_trans h.1 k.1, fun i hi => (k.2 i (Nat.lt_of_lt_of_le hi h.1)).trans (h.2 i hi)⟩
theorem Gr.app (h t : MH) : Gr h (h ++ t) := ⟨by simp, fun i hi => List.getElem?_append_left hi⟩
theorem Gr.set {h h' : MH} (g : Gr h h') {l : Nat} (hl : h.length ≤ l) (o : MO) : Gr h (h'.set l o) := ⟨by simpa using g.1, fun i hi => by rw [List.getElem?_set_ne (by omega)]; exact g.2 i hi⟩
theorem Gr.cln {h h' : MH} (g : Gr h h') : Cln h h' := ⟨g.1, fun i hi => .inl (g.2 i hi)⟩
theorem Gr.take {h h' : MH} (g : Gr h h') : h'.take h.length = h := by
  apply List.ext_getElem?
  intro i
  by_cases hi : i < h.length
  · rw [List.getElem?_take_of_lt hi]
    exact g.2 i hi
  · rw [List.getElem?_eq_none (l := h) (by omega), List.getElem?_eq_none (by rw [List.length_take]; omega)]
/-- a value told with a heap that only grows -/
theorem bv_ok {f : M MV} {h h2 : MH} {v w : MV} (e : f h = .ok v h2) (g : Gr h h2) (b : byV h2 h.length 60 v = some w) : bvV f h = .ok w h := by
  unfold bvV
  rw [e]
  dsimp only
  rw [if_pos g.cln, b]
  dsimp only
  rw [g.take]
theorem bv_ret {v : MV} (k : noRef v = true) : bvV (M.ret v) = M.ret v := by
  funext h
  exact bv_ok rfl (Gr.refl h) (noRef_byV k 60)
theorem bv_eq {f : M MV} {w : MV} (k : ∀ h, ∃ v h2, f h = .ok v h2 ∧ Gr h h2 ∧ byV h2 h.length 60 v = some w) : bvV f = M.ret w := by
  funext h
  obtain ⟨v, h2, e, g, b⟩ := k h
  exact bv_ok e g b
theorem app_self' {h : MH} {o : MO} : (h ++ [o])[h.length]? = some o := by
  rw [List.getElem?_append_right (Nat.le_refl _), Nat.sub_self]
  rfl
theorem mapO_byV {h : MH} {n j : Nat} : ∀ {xs : List MV}, noRefs xs = true → mapO (byV h n j) xs = some xs
  | [], _ => rfl
  | x :: r, k => by
    unfold noRefs at k
    obtain ⟨h1, h2⟩ := Bool.and_eq_true_iff.mp k
    unfold mapO
    rw [noRef_byV h1, mapO_byV h2]
theorem byV_lst {h : MH} {n l j : Nat} {xs : List MV} (hl : n ≤ l) (e : h[l]? = some (.lst xs)) (k : noRefs xs = true) : byV h n (j + 1) (.ref l) = some (.ro xs) := by
  have e0 : byV h n (j + 1) (.ref l) = if noRef (.ref l) then some (.ref l) else if n ≤ l then (match h[l]? with
      | some (.lst xs) => (mapO (byV h n j) xs).map .ro
      | some (.dct t kvs) => if noRefs (kvs.map (·.1)) then (mapO (byV h n j) (kvs.map (·.2))).map (.rod t (kvs.map (·.1))) else none
      | _ => none) else none := rfl
  rw [e0, if_neg (by unfold noRef; exact Bool.false_ne_true), if_pos hl, e]
  dsimp only
  rw [mapO_byV k]
  rfl
theorem byV_dct {h : MH} {n l j : Nat} {t : Bool} {kvs : List (MV × MV)} (hl : n ≤ l) (e : h[l]? = some (.dct t kvs)) (k : noRefs (kvs.map (·.1)) = true) (k2 : noRefs (kvs.map (·.2)) = true) : byV h n (j + 1) (.ref l) = some (.rod t (kvs.map (·.1)) (kvs.map (·.2))) := by
  have e0 : byV h n (j + 1) (.ref l) = if noRef (.ref l) then some (.ref l) else if n ≤ l then (match h[l]? with
      | some (.lst xs) => (mapO (byV h n j) xs).map .ro
      | some (.dct t kvs) => if noRefs (kvs.map (·.1)) then (mapO (byV h n j) (kvs.map (·.2))).map (.rod t (kvs.map (·.1))) else none
      | _ => none) else none := rfl
  rw [e0, if_neg (by unfold noRef; exact Bool.false_ne_true), if_pos hl, e]
  dsimp only
  rw [if_pos k, mapO_byV k2]
  rfl
theorem bv_lst {xs : List MV} (k : noRefs xs = true) : bvV (M.alloc (.lst xs)) = M.ret (.ro xs) :=
  bv_eq fun h => ⟨.ref h.length, h ++ [.lst xs], rfl, Gr.app _ _, byV_lst (Nat.le_refl _) app_self' k⟩
theorem bv_dct {t : Bool} {kvs : List (MV × MV)} (k : noRefs (kvs.map (·.1)) = true) (k2 : noRefs (kvs.map (·.2)) = true) : bvV (M.alloc (.dct t kvs)) = M.ret (.rod t (kvs.map (·.1)) (kvs.map (·.2))) :=
  bv_eq fun h => ⟨.ref h.length, h ++ [.dct t kvs], rfl, Gr.app _ _, byV_dct (Nat.le_refl _) app_self' k k2⟩
/-! ### calls -/
theorem call_eq {T : List Def} {W n f : Nat} {ws : List MV} {df : Def} (e : T[f]? = some df) (hl : ws.length = df.np) : callF T W (n + 1) f ws = clV df.cl ((evSL (callF T W n) W df.body (ws.map some ++ List.replicate (df.ns - df.np) none)).bnd fun p => match p.2 with
    | .nx => .ret .non
    | .rt v => .ret v
    | _ => .stk) := by
  show (match T[f]? with
    | some d => _
    | none => _) = _
  rw [e]
  exact if_pos hl
/-- a body's end -/
def retP (p : Env × Fl) : M MV := match p.2 with
  | .nx => .ret .non
  | .rt v => .ret v
  | _ => .stk
theorem retP_nx (ρ : Env) : retP (ρ, .nx) = M.ret .non := rfl
theorem retP_rt (ρ : Env) (v : MV) : retP (ρ, .rt v) = M.ret v := rfl
/-- a pure def by its body -/
theorem call_ret {T : List Def} {W n f : Nat} {ws : List MV} {df : Def} {v : MV} (e : T[f]? = some df) (hl : ws.length = df.np) (k : noRef v = true)
    (b : (evSL (callF T W n) W df.body (ws.map some ++ List.replicate (df.ns - df.np) none)).bnd retP = M.ret v) : callF T W (n + 1) f ws = M.ret v := by
  rw [call_eq e hl]
  show clV df.cl ((evSL (callF T W n) W df.body (ws.map some ++ List.replicate (df.ns - df.np) none)).bnd retP) = _
  rw [b]
  cases df.cl with
  | false => rfl
  | true => exact bv_ret k
/-! ### comprehensions, loops over fixed items -/
theorem lcLoop_vs {α : Type} {enc : α → MV} {step : MV → M (Option MV)} {xs : List α} {g : α → Option MV} (hs : ∀ x ∈ xs, step (enc x) = M.ret (g x)) (hlen : xs.length ≤ 1000000) : ∀ (μ i : Nat) (acc : List MV), xs.length < i + μ → i ≤ xs.length → acc.length ≤ i → lcLoop step (.vs (xs.map enc)) μ i acc = M.ret (acc ++ (xs.drop i).filterMap g) := by
  intro μ
  induction μ with
  | zero => intro i acc h1 h2; omega
  | succ μ ih =>
    intro i acc h1 h2 h3
    funext h
    have e : lcLoop step (.vs (xs.map enc)) (μ + 1) i acc h = match some (xs.map enc)[i]? with
      | none => .stuck
      | some none => .ok acc h
      | some (some x) => ((step x).bnd fun o => match o with
        | some y => if fitsL acc.length then lcLoop step (.vs (xs.map enc)) μ (i + 1) (acc ++ [y]) else .stk
        | none => lcLoop step (.vs (xs.map enc)) μ (i + 1) acc) h := rfl
    rw [e, List.getElem?_map]
    cases e2 : xs[i]? with
    | none =>
      have := List.getElem?_eq_none_iff.mp e2
      rw [List.drop_of_length_le this]
      show Res.ok acc h = .ok (acc ++ []) h
      rw [List.append_nil]
    | some x =>
      have hl := (List.getElem?_eq_some_iff.mp e2).1
      have hx : xs[i] = x := (List.getElem?_eq_some_iff.mp e2).2
      dsimp only [Option.map]
      rw [hs x (hx ▸ List.getElem_mem hl), r_bnd, List.drop_eq_getElem_cons hl, hx, List.filterMap_cons]
      cases g x with
      | none => exact congrFun (ih (i + 1) acc (by omega) (by omega) (by omega)) h
      | some y =>
        have hf : fitsL acc.length = true := by
          unfold fitsL
          exact decide_eq_true (by rw [show sizeLine = 16777216 from rfl]; omega)
        dsimp only
        rw [if_pos hf, ih (i + 1) (acc ++ [y]) (by omega) (by omega) (by rw [List.length_append]; show acc.length + 1 ≤ _; omega), List.append_assoc]
        rfl
theorem lc_vs {α : Type} {enc : α → MV} {step : MV → M (Option MV)} {xs : List α} {g : α → Option MV} {W : Nat} (hs : ∀ x ∈ xs, step (enc x) = M.ret (g x)) (hW : xs.length < W) (hlen : xs.length ≤ 1000000) : lcLoop step (.vs (xs.map enc)) W 0 [] = M.ret (xs.filterMap g) := by
  rw [lcLoop_vs hs hlen W 0 [] (by omega) (Nat.zero_le _) (Nat.le_refl _)]
  rfl
theorem lcv_vs {α : Type} {enc : α → MV} {step : MV → M (Option MV)} {xs : List α} {g : α → Option MV} {W : Nat} (hs : ∀ x ∈ xs, step (enc x) = M.ret (g x)) (hW : xs.length < W) (hlen : xs.length ≤ 1000000) (k : noRefs (xs.filterMap g) = true) : bvV ((lcLoop step (.vs (xs.map enc)) W 0 []).bnd fun ys => M.alloc (.lst ys)) = M.ret (.ro (xs.filterMap g)) := by
  rw [lc_vs hs hW hlen]
  exact bv_lst k
/-- a turn of a comprehension, with no test -/
theorem step_map {fg : MV → Env → M Env} {fe : Env → M MV} {ρ ρ' : Env} {x y : MV} (h1 : fg x ρ = M.ret ρ') (h2 : fe ρ' = M.ret y) : lcStep fg (fun _ => M.ret true) fe ρ x = M.ret (some y) := by
  unfold lcStep
  rw [h1]
  show (if true = true then (fe ρ').bnd fun y => M.ret (some y) else M.ret none) = _
  rw [if_pos rfl, h2]
  rfl
theorem step_test {fg : MV → Env → M Env} {ft : Env → M Bool} {fe : Env → M MV} {ρ ρ' : Env} {x y : MV} {b : Bool} (h1 : fg x ρ = M.ret ρ') (h2 : ft ρ' = M.ret b) (h3 : b = true → fe ρ' = M.ret y) : lcStep fg ft fe ρ x = M.ret (if b then some y else none) := by
  unfold lcStep
  rw [h1]
  show ((ft ρ').bnd fun k => if k then (fe ρ').bnd fun y => M.ret (some y) else M.ret none) = _
  rw [h2]
  cases b with
  | false => rfl
  | true =>
    show (if true = true then (fe ρ').bnd fun y => M.ret (some y) else M.ret none) = _
    rw [if_pos rfl, h3 rfl]
    rfl
/-! the comprehensions one meets, by value -/
theorem filterMap_some {α : Type} {f : α → MV} : ∀ xs : List α, xs.filterMap (fun x => some (f x)) = xs.map f
  | [] => rfl
  | x :: r => by rw [List.filterMap_cons]; exact congrArg (f x :: ·) (filterMap_some r)
theorem filterMap_if {α : Type} {p : α → Bool} {f : α → MV} : ∀ xs : List α, xs.filterMap (fun x => if p x then some (f x) else none) = (xs.filter p).map f
  | [] => rfl
  | x :: r => by
    rw [List.filterMap_cons, List.filter_cons]
    cases p x with
    | true => exact congrArg (f x :: ·) (filterMap_if r)
    | false => exact filterMap_if r
theorem noRefs_map {α : Type} {f : α → MV} : ∀ {xs : List α}, (∀ x ∈ xs, noRef (f x) = true) → noRefs (xs.map f) = true
  | [], _ => rfl
  | x :: r, k => by
    show (noRef (f x) && noRefs (r.map f)) = true
    rw [k x List.mem_cons_self, noRefs_map fun y hy => k y (List.mem_cons_of_mem _ hy)]
    rfl
/-- [f(x) for x in xs] -/
theorem lc_map {α : Type} (enc : α → MV) {step : MV → M (Option MV)} {xs : List α} (f : α → MV) {W : Nat} (hW : xs.length < W) (hlen : xs.length ≤ 1000000) (hn : ∀ x ∈ xs, noRef (f x) = true) (hs : ∀ x ∈ xs, step (enc x) = M.ret (some (f x))) : bvV ((lcLoop step (.vs (xs.map enc)) W 0 []).bnd fun ys => M.alloc (.lst ys)) = M.ret (.ro (xs.map f)) := by
  have z := lcv_vs (enc := enc) (g := fun x => some (f x)) hs hW hlen (by rw [filterMap_some]; exact noRefs_map hn)
  rw [filterMap_some] at z
  exact z
/-- [f(x) for x in xs if p(x)] -/
theorem lc_filter {α : Type} (enc : α → MV) {step : MV → M (Option MV)} {xs : List α} (p : α → Bool) (f : α → MV) {W : Nat} (hW : xs.length < W) (hlen : xs.length ≤ 1000000) (hn : ∀ x ∈ xs, noRef (f x) = true) (hs : ∀ x ∈ xs, step (enc x) = M.ret (if p x then some (f x) else none)) : bvV ((lcLoop step (.vs (xs.map enc)) W 0 []).bnd fun ys => M.alloc (.lst ys)) = M.ret (.ro ((xs.filter p).map f)) := by
  have z := lcv_vs (enc := enc) (g := fun x => if p x then some (f x) else none) hs hW hlen (by rw [filterMap_if]; exact noRefs_map fun x hx => hn x (List.mem_filter.mp hx).1)
  rw [filterMap_if] at z
  exact z
theorem allBls_map {α : Type} {p : α → Bool} : ∀ xs : List α, allBls (xs.map fun x => .bl (p x)) = some (xs.map p)
  | [] => rfl
  | x :: r => by
    show (allBls (r.map fun x => .bl (p x))).map (p x :: ·) = _
    rw [allBls_map r]
    rfl
theorem allInts_map {α : Type} {p : α → Int} : ∀ xs : List α, allInts (xs.map fun x => .int (p x)) = some (xs.map p)
  | [] => rfl
  | x :: r => by
    show (allInts (r.map fun x => .int (p x))).map (p x :: ·) = _
    rw [allInts_map r]
    rfl
/-- a loop over fixed items whose turns are pure: it ends by a return, or goes on with the next -/
theorem forLoop_vs {asg : MV → Env → M Env} {body : Env → M (Env × Fl)} {xs : List MV} {Q : Env × Fl → Prop} (I : Nat → Env → Prop)
    (hs : ∀ i x ρ, xs[i]? = some x → I i ρ → ∃ ρ' p, asg x ρ = M.ret ρ' ∧ body ρ' = M.ret p ∧ (match p.2 with
      | .nx => I (i + 1) p.1
      | .ct => I (i + 1) p.1
      | .bk => Q (p.1, .nx)
      | .rt v => Q (p.1, .rt v))) (he : ∀ ρ, I xs.length ρ → Q (ρ, .nx)) : ∀ (μ i : Nat) (ρ : Env), xs.length < i + μ → i ≤ xs.length → I i ρ → ∃ p, forLoop asg body (.vs xs) μ i ρ = M.ret p ∧ Q p := by
  intro μ
  induction μ with
  | zero => intro i ρ h1 h2; omega
  | succ μ ih =>
    intro i ρ h1 h2 hi
    have e : forLoop asg body (.vs xs) (μ + 1) i ρ = fun h => match some xs[i]? with
      | none => .stuck
      | some none => .ok (ρ, .nx) h
      | some (some x) => ((asg x ρ).bnd fun ρ' => (body ρ').bnd fun p => match p.2 with
        | .nx => forLoop asg body (.vs xs) μ (i + 1) p.1
        | .ct => forLoop asg body (.vs xs) μ (i + 1) p.1
        | .bk => .ret (p.1, .nx)
        | .rt v => .ret (p.1, .rt v)) h := rfl
    cases e2 : xs[i]? with
    | none =>
      have := List.getElem?_eq_none_iff.mp e2
      have hh : i = xs.length := by omega
      subst hh
      exact ⟨(ρ, .nx), by rw [e, e2]; rfl, he ρ hi⟩
    | some x =>
      have hl := (List.getElem?_eq_some_iff.mp e2).1
      obtain ⟨ρ', p, h3, h4, q⟩ := hs i x ρ e2 hi
      rw [e2] at e
      have e3 : forLoop asg body (.vs xs) (μ + 1) i ρ = match p.2 with
        | .nx => forLoop asg body (.vs xs) μ (i + 1) p.1
        | .ct => forLoop asg body (.vs xs) μ (i + 1) p.1
        | .bk => .ret (p.1, .nx)
        | .rt v => .ret (p.1, .rt v) := by
        rw [e]
        funext h
        dsimp only
        rw [h3, r_bnd, h4, r_bnd]
      obtain ⟨ρ2, fl⟩ := p
      rw [e3]
      cases fl with
      | nx => exact ih (i + 1) ρ2 (by omega) (by omega) q
      | ct => exact ih (i + 1) ρ2 (by omega) (by omega) q
      | bk => exact ⟨_, rfl, q⟩
      | rt v => exact ⟨_, rfl, q⟩
/-! ### values -/
section
variable {a b : Int} {s t : Str} {k j : Bool} {xs ys : List MV} {x v : MV}
theorem q_add : binV .add (.int a) (.int b) = M.ret (.int (a + b)) := rfl
theorem q_sub : binV .sub (.int a) (.int b) = M.ret (.int (a - b)) := rfl
theorem q_mul : binV .mul (.int a) (.int b) = if small64 a || small64 b then M.ret (.int (a * b)) else M.stk := rfl
theorem q_fdiv : binV .fdiv (.int a) (.int b) = if okDiv b then M.ret (.int (a / b)) else M.stk := rfl
theorem q_mod : binV .mod (.int a) (.int b) = if 0 < b then M.ret (.int (a % b)) else M.stk := rfl
theorem q_addt : binV .add (.tup xs) (.tup ys) = if fits (xs.length + ys.length) then M.ret (.tup (xs ++ ys)) else M.stk := rfl
theorem q_neg : negV (.int a) = M.ret (.int (-a)) := rfl
theorem q_not : notV (.bl k) = M.ret (.bl (!k)) := rfl
theorem q_bop {d : Bool} {r : M MV} : bopV d r (.bl k) = if k == d then r else M.ret (.bl k) := rfl
theorem q_lt : cmpV .lt (.int a) (.int b) = M.ret (decide (a < b)) := rfl
theorem q_le : cmpV .le (.int a) (.int b) = M.ret (decide (a ≤ b)) := rfl
theorem q_gt : cmpV .gt (.int a) (.int b) = M.ret (decide (b < a)) := rfl
theorem q_ge : cmpV .ge (.int a) (.int b) = M.ret (decide (b ≤ a)) := rfl
theorem q_eqs : cmpV .eq (.str s) (.str t) = M.ret (s == t) := rfl
theorem q_nes : cmpV .ne (.str s) (.str t) = M.ret (!(s == t)) := rfl
theorem q_trub : truV (.bl k) = M.ret k := rfl
theorem q_int : biV .int [.int a] = M.ret (.int a) := rfl
theorem q_intb : biV .int [.bl k] = M.ret (.int (if k then 1 else 0)) := rfl
theorem q_abs : biV .abs [.int a] = M.ret (.int (if a < 0 then -a else a)) := rfl
theorem q_max : biV .max [.int a, .int b] = M.ret (.int (if b > a then b else a)) := rfl
theorem q_min : biV .min [.int a, .int b] = M.ret (.int (if b < a then b else a)) := rfl
theorem q_lens : biV .len [.str s] = if fits s.length then M.ret (.int s.length) else M.stk := by
  funext h
  show (if fits s.length then Res.ok (MV.int s.length) h else .stuck) = _
  cases fits s.length <;> rfl
theorem q_lent : biV .len [.tup xs] = M.ret (.int xs.length) := rfl
theorem q_lenr : biV .len [.ro xs] = M.ret (.int xs.length) := rfl
theorem q_idxt {i : Int} (e : L2.atI xs i = some x) : idxV (.tup xs) (.int i) = M.ret x := by
  funext h
  show (match L2.atI xs i with
    | some x => Res.ok x h
    | none => .stuck) = _
  rw [e]
  rfl
theorem q_idxr {i : Int} (e : L2.atI xs i = some x) : idxV (.ro xs) (.int i) = M.ret x := by
  funext h
  show (match L2.atI xs i with
    | some x => Res.ok x h
    | none => .stuck) = _
  rw [e]
  rfl
theorem q_idxd {w : Bool} {key : MV} {ks vs : List MV} (hb : keyB w key = true) (e : findM key (ks.zip vs) = some x) : idxV (.rod w ks vs) key = M.ret x := by
  funext h
  show dgetK w (ks.zip vs) key h = _
  unfold dgetK
  rw [if_pos hb, e]
theorem q_ind {w : Bool} {key : MV} {ks vs : List MV} (hb : keyB w key = true) : cmpV .isin key (.rod w ks vs) = M.ret (findM key (ks.zip vs)).isSome := by
  funext h
  show dinK w (ks.zip vs) key h = _
  unfold dinK
  rw [if_pos hb]
theorem q_nind {w : Bool} {key : MV} {ks vs : List MV} (hb : keyB w key = true) : cmpV .notin key (.rod w ks vs) = M.ret (!(findM key (ks.zip vs)).isSome) := by
  show (cmpV .isin key (.rod w ks vs)).bnd (fun b => M.ret (!b)) = _
  rw [q_ind hb]
  rfl
theorem q_at0 {α : Type} {x : α} {xs : List α} : L2.atI (x :: xs) 0 = some x := by
  unfold L2.atI L2.ixN
  rw [if_pos (Int.le_refl 0), if_pos (by simp)]
  rfl
theorem q_at1 {α : Type} {x y : α} {xs : List α} : L2.atI (x :: y :: xs) 1 = some y := by
  unfold L2.atI L2.ixN
  rw [if_pos (by decide), if_pos (by simp; omega)]
  rfl
theorem q_at2 {α : Type} {x y z : α} {xs : List α} : L2.atI (x :: y :: z :: xs) 2 = some z := by
  unfold L2.atI L2.ixN
  rw [if_pos (by decide), if_pos (by simp; omega)]
  rfl
theorem q_idxt0 : idxV (.tup (x :: xs)) (.int 0) = M.ret x := q_idxt q_at0
theorem q_idxt1 : idxV (.tup (x :: v :: xs)) (.int 1) = M.ret v := q_idxt q_at1
theorem q_idxt2 {y : MV} : idxV (.tup (x :: v :: y :: xs)) (.int 2) = M.ret y := q_idxt q_at2
theorem q_tup : tupV xs = if fits xs.length then M.ret (.tup xs) else M.stk := rfl
theorem q_isi1 {t : Ty} : isisV x [t] = isiV x t := by rfl
theorem q_isi2 {t u : Ty} : isisV x [t, u] = (isiV x t).bnd fun k => (isiV x u).bnd fun j => M.ret (k || j) := by rfl
theorem q_isK : isKV x v = M.ret (match x, v with
  | .non, .non => true
  | .bl a, .bl b => a == b
  | _, _ => false) := by
  unfold isKV
  cases x <;> cases v <;> rfl
theorem q_its : itV (.str s) = M.ret (.vs (s.cps.toList.map fun c => MV.str ⟨#[c]⟩)) := rfl
theorem q_itt : itV (.tup xs) = M.ret (.vs xs) := rfl
theorem q_itr : itV (.ro xs) = M.ret (.vs xs) := rfl
theorem q_itd {w : Bool} : itV (.rod w xs ys) = M.ret (.vs xs) := rfl
theorem q_rg1 : rg1V (.int a) = if smallR a then M.ret (.vs (rangeItems 0 a)) else M.stk := rfl
theorem q_rg2 : rg2V (.int a) (.int b) = if smallR a && smallR b then M.ret (.vs (rangeItems a b)) else M.stk := rfl
theorem q_intO : intO (.int a) = M.ret (some a) := rfl
theorem q_fld {c f : Str} {ns : List Str} {vs : List MV} (e : (ns.zip vs).lookup f = some x) : fldV c f (.obj c ns vs) = M.ret x := by
  show (if c = c then M.opt ((ns.zip vs).lookup f) else .stk) = _
  rw [if_pos rfl, e]
  rfl
theorem q_all {bs : List Bool} (e : allBls xs = some bs) : biV .all [.ro xs] = M.ret (.bl (bs.all id)) := by
  funext h
  show ((lstOf (.ro xs)).bnd fun xs => (M.opt (allBls xs)).bnd fun bs => M.ret (MV.bl (bs.all id))) h = _
  have z : lstOf (.ro xs) = M.ret xs := rfl
  rw [z, r_bnd, e]
  rfl
theorem q_any {bs : List Bool} (e : allBls xs = some bs) : biV .any [.ro xs] = M.ret (.bl (bs.any id)) := by
  funext h
  show ((lstOf (.ro xs)).bnd fun xs => (M.opt (allBls xs)).bnd fun bs => M.ret (MV.bl (bs.any id))) h = _
  have z : lstOf (.ro xs) = M.ret xs := rfl
  rw [z, r_bnd, e]
  rfl
theorem q_sum {is : List Int} (e : allInts xs = some is) : biV .sum [.ro xs] = M.ret (.int is.sum) := by
  funext h
  show ((lstOf (.ro xs)).bnd fun xs => (M.opt (allInts xs)).bnd fun is => M.ret (MV.int is.sum)) h = _
  have z : lstOf (.ro xs) = M.ret xs := rfl
  rw [z, r_bnd, e]
  rfl
theorem q_allm {α : Type} {xs : List α} {p : α → Bool} : biV .all [.ro (xs.map fun x => .bl (p x))] = M.ret (.bl (xs.all p)) := by
  rw [q_all (allBls_map xs), List.all_map]
  rfl
theorem q_anym {α : Type} {xs : List α} {p : α → Bool} : biV .any [.ro (xs.map fun x => .bl (p x))] = M.ret (.bl (xs.any p)) := by
  rw [q_any (allBls_map xs), List.any_map]
  rfl
theorem q_summ {α : Type} {xs : List α} {p : α → Int} : biV .sum [.ro (xs.map fun x => .int (p x))] = M.ret (.int (xs.map p).sum) := q_sum (allInts_map xs)
theorem q_inS : cmpV .isin (.str s) (.str t) = M.ret (!(Builtin.Str.occurrences t s 0 t.length 1).isEmpty) := rfl
theorem q_tupr : biV .tuple [.ro xs] = M.ret (.tup xs) := rfl
theorem q_tupt : biV .tuple [.tup xs] = M.ret (.tup xs) := rfl
theorem q_listv (k : noRefs xs = true) : bvV (biV .list [.ro xs]) = M.ret (.ro xs) := bv_lst k
end
end MPV
/-! MP: equality and membership of values without places. -/
namespace MPV
open PySem hiding Env
open MP
mutual
def dOf : MV → PyData
  | .int i => .int i
  | .str s => .str s
  | .tup xs => .tuple (dOfs xs)
  | .ro xs => .list (dOfs xs)
  | _ => .none
def dOfs : List MV → List PyData
  | [] => []
  | x :: r => dOf x :: dOfs r
end
mutual
/-- ints, texts, tuples and lists of such; n: their depth -/
def pl : Nat → MV → Bool
  | _, .int _ => true
  | _, .str s => PyData.canLay0 (.str s)
  | n + 1, .tup xs => pls n xs
  | n + 1, .ro xs => pls n xs
  | _, _ => false
def pls : Nat → List MV → Bool
  | _, [] => true
  | n, x :: r => pl n x && pls n r
end
theorem reify_int {h : MH} {n : Nat} {i : Int} : reify h n (.int i) = some (.int i) := by cases n <;> rfl
theorem reify_str {h : MH} {n : Nat} {s : Str} : reify h n (.str s) = some (.str s) := by cases n <;> rfl
theorem reifys_pl {h : MH} {n m : Nat} (ih : ∀ v, pl n v = true → reify h m v = some (dOf v)) : ∀ xs, pls n xs = true → mapO (reify h m) xs = some (dOfs xs)
  | [], _ => rfl
  | x :: r, k => by
    obtain ⟨h1, h2⟩ := Bool.and_eq_true_iff.mp (show (pl n x && pls n r) = true by unfold pls at k; exact k)
    unfold mapO
    rw [ih x h1, reifys_pl ih r h2]
    rfl
theorem reify_pl {h : MH} : ∀ (n m : Nat) (v : MV), pl n v = true → n ≤ m → reify h m v = some (dOf v)
  | n, m, .int i, _, _ => by rw [reify_int]; rfl
  | n, m, .str s, _, _ => by rw [reify_str]; rfl
  | n + 1, m + 1, .tup xs, k, hl => by
    have k : pls n xs = true := by unfold pl at k; exact k
    show (mapO (reify h m) xs).map PyData.tuple = _
    rw [reifys_pl (fun v hv => reify_pl n m v hv (by omega)) xs k]
    rfl
  | n + 1, m + 1, .ro xs, k, hl => by
    have k : pls n xs = true := by unfold pl at k; exact k
    show (mapO (reify h m) xs).map PyData.list = _
    rw [reifys_pl (fun v hv => reify_pl n m v hv (by omega)) xs k]
    rfl
  | 0, m, .tup xs, k, hl => by unfold pl at k; cases k
  | 0, m, .ro xs, k, hl => by unfold pl at k; cases k
  | n + 1, 0, .tup xs, k, hl => absurd hl (by omega)
  | n + 1, 0, .ro xs, k, hl => absurd hl (by omega)
  | n, m, .non, k, hl => by cases n <;> (unfold pl at k; cases k)
  | n, m, .bl _, k, hl => by cases n <;> (unfold pl at k; cases k)
  | n, m, .ref _, k, hl => by cases n <;> (unfold pl at k; cases k)
  | n, m, .rod _ _ _, k, hl => by cases n <;> (unfold pl at k; cases k)
  | n, m, .obj _ _ _, k, hl => by cases n <;> (unfold pl at k; cases k)
theorem lay_pls {n : Nat} (ih : ∀ v, pl n v = true → (dOf v).canLay0 = true ∧ (dOf v).depth ≤ n) : ∀ xs, pls n xs = true → PyData.canLayAll0 (dOfs xs) = true ∧ PyData.depthAll (dOfs xs) ≤ n
  | [], _ => ⟨rfl, Nat.zero_le _⟩
  | x :: r, k => by
    obtain ⟨h1, h2⟩ := Bool.and_eq_true_iff.mp (show (pl n x && pls n r) = true by unfold pls at k; exact k)
    obtain ⟨a1, a2⟩ := ih x h1
    obtain ⟨b1, b2⟩ := lay_pls ih r h2
    refine ⟨?_, ?_⟩
    · show ((dOf x).canLay0 && PyData.canLayAll0 (dOfs r)) = true
      rw [a1, b1]
      rfl
    · show max (dOf x).depth (PyData.depthAll (dOfs r)) ≤ n
      exact Nat.max_le.mpr ⟨a2, b2⟩
theorem lay_pl : ∀ (n : Nat) (v : MV), pl n v = true → (dOf v).canLay0 = true ∧ (dOf v).depth ≤ n
  | n, .int i, _ => ⟨rfl, Nat.zero_le _⟩
  | n, .str s, k => ⟨by cases n <;> (unfold pl at k; exact k), Nat.zero_le _⟩
  | n + 1, .tup xs, k => by
    have k : pls n xs = true := by unfold pl at k; exact k
    obtain ⟨h1, h2⟩ := lay_pls (lay_pl n) xs k
    exact ⟨h1, by show PyData.depthAll (dOfs xs) + 1 ≤ n + 1; omega⟩
  | n + 1, .ro xs, k => by
    have k : pls n xs = true := by unfold pl at k; exact k
    obtain ⟨h1, h2⟩ := lay_pls (lay_pl n) xs k
    exact ⟨h1, by show PyData.depthAll (dOfs xs) + 1 ≤ n + 1; omega⟩
  | 0, .tup xs, k => by unfold pl at k; cases k
  | 0, .ro xs, k => by unfold pl at k; cases k
  | n, .non, k => by cases n <;> (unfold pl at k; cases k)
  | n, .bl _, k => by cases n <;> (unfold pl at k; cases k)
  | n, .ref _, k => by cases n <;> (unfold pl at k; cases k)
  | n, .rod _ _ _, k => by cases n <;> (unfold pl at k; cases k)
  | n, .obj _ _ _, k => by cases n <;> (unfold pl at k; cases k)
theorem shaped_pl {n : Nat} {v : MV} (h : pl n v = true) (hn : n ≤ 60) : SeqAt.shaped (dOf v) = true := by
  obtain ⟨h1, h2⟩ := lay_pl n v h
  unfold SeqAt.shaped
  rw [h1, decide_eq_true (by omega)]
  rfl
theorem pl_cases {n : Nat} {v : MV} (h : pl n v = true) : (∃ i, v = .int i) ∨ (∃ s, v = .str s) ∨ (∃ xs k, v = .tup xs ∧ n = k + 1 ∧ pls k xs = true) ∨ (∃ xs k, v = .ro xs ∧ n = k + 1 ∧ pls k xs = true) := by
  cases v with
  | int i => exact .inl ⟨i, rfl⟩
  | str s => exact .inr (.inl ⟨s, rfl⟩)
  | tup xs =>
    cases n with
    | zero => unfold pl at h; cases h
    | succ k => exact .inr (.inr (.inl ⟨xs, k, rfl, rfl, by unfold pl at h; exact h⟩))
  | ro xs =>
    cases n with
    | zero => unfold pl at h; cases h
    | succ k => exact .inr (.inr (.inr ⟨xs, k, rfl, rfl, by unfold pl at h; exact h⟩))
  | _ => cases n <;> (unfold pl at h; cases h)
theorem eqvs_pl {n m : Nat} (ih : ∀ v w, pl n v = true → pl m w = true → (PyData.eqv (dOf v) (dOf w) = true ↔ v = w)) : ∀ xs ys, pls n xs = true → pls m ys = true → (PyData.eqvAll (dOfs xs) (dOfs ys) = true ↔ xs = ys)
  | [], [], _, _ => ⟨fun _ => rfl, fun _ => rfl⟩
  | [], y :: ys, _, _ => ⟨(fun h => by cases h), (fun h => by cases h)⟩
  | x :: xs, [], _, _ => ⟨(fun h => by cases h), (fun h => by cases h)⟩
  | x :: xs, y :: ys, hx, hy => by
    obtain ⟨h1, h2⟩ := Bool.and_eq_true_iff.mp (show (pl n x && pls n xs) = true by unfold pls at hx; exact hx)
    obtain ⟨h3, h4⟩ := Bool.and_eq_true_iff.mp (show (pl m y && pls m ys) = true by unfold pls at hy; exact hy)
    show (PyData.eqv (dOf x) (dOf y) && PyData.eqvAll (dOfs xs) (dOfs ys)) = true ↔ _
    rw [Bool.and_eq_true_iff, ih x y h1 h3, eqvs_pl ih xs ys h2 h4]
    exact ⟨fun ⟨a, b⟩ => by rw [a, b], fun h => by cases h; exact ⟨rfl, rfl⟩⟩
theorem eqv_pl : ∀ (n m : Nat) (v w : MV), pl n v = true → pl m w = true → (PyData.eqv (dOf v) (dOf w) = true ↔ v = w) := by
  intro n
  induction n with
  | zero =>
    intro m v w hv hw
    rcases pl_cases hv with ⟨i, rfl⟩ | ⟨s, rfl⟩ | ⟨xs, k, rfl, e, _⟩ | ⟨xs, k, rfl, e, _⟩
    · rcases pl_cases hw with ⟨j, rfl⟩ | ⟨t, rfl⟩ | ⟨ys, k, rfl, _, _⟩ | ⟨ys, k, rfl, _, _⟩
      · show (i == j) = true ↔ _
        rw [beq_iff_eq]
        exact ⟨fun h => by rw [h], fun h => by cases h; rfl⟩
      all_goals exact ⟨(fun h => by cases h), (fun h => by cases h)⟩
    · rcases pl_cases hw with ⟨j, rfl⟩ | ⟨t, rfl⟩ | ⟨ys, k, rfl, _, _⟩ | ⟨ys, k, rfl, _, _⟩
      · exact ⟨(fun h => by cases h), (fun h => by cases h)⟩
      · show (s == t) = true ↔ _
        rw [beq_iff_eq]
        exact ⟨fun h => by rw [h], fun h => by cases h; rfl⟩
      all_goals exact ⟨(fun h => by cases h), (fun h => by cases h)⟩
    · omega
    · omega
  | succ n ih =>
    intro m v w hv hw
    rcases pl_cases hv with ⟨i, rfl⟩ | ⟨s, rfl⟩ | ⟨xs, k, rfl, e, hx⟩ | ⟨xs, k, rfl, e, hx⟩
    · rcases pl_cases hw with ⟨j, rfl⟩ | ⟨t, rfl⟩ | ⟨ys, k, rfl, _, _⟩ | ⟨ys, k, rfl, _, _⟩
      · show (i == j) = true ↔ _
        rw [beq_iff_eq]
        exact ⟨fun h => by rw [h], fun h => by cases h; rfl⟩
      all_goals exact ⟨(fun h => by cases h), (fun h => by cases h)⟩
    · rcases pl_cases hw with ⟨j, rfl⟩ | ⟨t, rfl⟩ | ⟨ys, k, rfl, _, _⟩ | ⟨ys, k, rfl, _, _⟩
      · exact ⟨(fun h => by cases h), (fun h => by cases h)⟩
      · show (s == t) = true ↔ _
        rw [beq_iff_eq]
        exact ⟨fun h => by rw [h], fun h => by cases h; rfl⟩
      all_goals exact ⟨(fun h => by cases h), (fun h => by cases h)⟩
    · have e : n = k := by omega
      subst e
      rcases pl_cases hw with ⟨j, rfl⟩ | ⟨t, rfl⟩ | ⟨ys, l, rfl, e2, hy⟩ | ⟨ys, l, rfl, _, _⟩
      · exact ⟨(fun h => by cases h), (fun h => by cases h)⟩
      · exact ⟨(fun h => by cases h), (fun h => by cases h)⟩
      · show PyData.eqvAll (dOfs xs) (dOfs ys) = true ↔ _
        rw [eqvs_pl (ih l) xs ys hx hy]
        exact ⟨fun h => by rw [h], fun h => by cases h; rfl⟩
      · exact ⟨(fun h => by cases h), (fun h => by cases h)⟩
    · have e : n = k := by omega
      subst e
      rcases pl_cases hw with ⟨j, rfl⟩ | ⟨t, rfl⟩ | ⟨ys, l, rfl, _, _⟩ | ⟨ys, l, rfl, e2, hy⟩
      · exact ⟨(fun h => by cases h), (fun h => by cases h)⟩
      · exact ⟨(fun h => by cases h), (fun h => by cases h)⟩
      · exact ⟨(fun h => by cases h), (fun h => by cases h)⟩
      · show PyData.eqvAll (dOfs xs) (dOfs ys) = true ↔ _
        rw [eqvs_pl (ih l) xs ys hx hy]
        exact ⟨fun h => by rw [h], fun h => by cases h; rfl⟩
theorem fits_lt {n : Nat} (h : n < 1000000) : fits n = true := by
  unfold fits
  exact decide_eq_true (by rw [show sizeLine = 16777216 from rfl]; omega)
theorem q_tup1 {a : MV} : tupV [a] = M.ret (.tup [a]) := by rw [q_tup, if_pos (fits_lt (by simp only [List.length_cons, List.length_nil]; omega))]
theorem q_tup2 {a b : MV} : tupV [a, b] = M.ret (.tup [a, b]) := by rw [q_tup, if_pos (fits_lt (by simp only [List.length_cons, List.length_nil]; omega))]
theorem q_tup3 {a b c : MV} : tupV [a, b, c] = M.ret (.tup [a, b, c]) := by rw [q_tup, if_pos (fits_lt (by simp only [List.length_cons, List.length_nil]; omega))]
/-! ### the comparisons -/
theorem eqD_pl {n m : Nat} {v w : MV} {b : Bool} (hv : pl n v = true) (hw : pl m w = true) (hn : n ≤ 60) (hm : m ≤ 60) (hb : b = true ↔ v = w) : eqD v w = M.ret b := by
  funext h
  unfold eqD
  rw [reify_pl n 60 v hv hn, reify_pl m 60 w hw hm]
  dsimp only
  rw [if_pos (by rw [shaped_pl hv hn, shaped_pl hw hm]; rfl)]
  have : PyData.eqv (dOf v) (dOf w) = b := by
    rw [Bool.eq_iff_iff, eqv_pl n m v w hv hw, hb]
  rw [this]
  rfl
theorem q_eqp {n m : Nat} {v w : MV} {b : Bool} (hv : pl n v = true) (hw : pl m w = true) (hn : n ≤ 60) (hm : m ≤ 60) (hb : b = true ↔ v = w) : cmpV .eq v w = M.ret b := by
  show eqV v w = _
  unfold eqV
  split
  · rename_i s t
    have : (s == t) = b := by
      rw [Bool.eq_iff_iff, hb, beq_iff_eq]
      exact ⟨fun h => by rw [h], fun h => by cases h; rfl⟩
    rw [this]
  · cases n <;> (unfold pl at hv; cases hv)
  · exact eqD_pl hv hw hn hm hb
theorem q_nep {n m : Nat} {v w : MV} {b : Bool} (hv : pl n v = true) (hw : pl m w = true) (hn : n ≤ 60) (hm : m ≤ 60) (hb : b = true ↔ v = w) : cmpV .ne v w = M.ret (!b) := by
  show (cmpV .eq v w).bnd (fun b => M.ret (!b)) = _
  rw [q_eqp hv hw hn hm hb]
  rfl
theorem q_nei {a b : Int} : cmpV .ne (.int a) (.int b) = M.ret (!decide (a = b)) := q_nep (n := 0) (m := 0) rfl rfl (by omega) (by omega) (by rw [decide_eq_true_eq]; exact ⟨fun h => by rw [h], fun h => by cases h; rfl⟩)
theorem q_eqi {a b : Int} : cmpV .eq (.int a) (.int b) = M.ret (decide (a = b)) := q_eqp (n := 0) (m := 0) rfl rfl (by omega) (by omega) (by rw [decide_eq_true_eq]; exact ⟨fun h => by rw [h], fun h => by cases h; rfl⟩)
theorem any_pl {n m : Nat} {v : MV} (hv : pl n v = true) : ∀ {ws : List MV}, pls m ws = true → (((dOfs ws).any fun z => PyData.eqv z (dOf v)) = true ↔ v ∈ ws)
  | [], _ => ⟨(fun h => by cases h), (fun h => by cases h)⟩
  | w :: ws, hw => by
    obtain ⟨h3, h4⟩ := Bool.and_eq_true_iff.mp (show (pl m w && pls m ws) = true by unfold pls at hw; exact hw)
    show (PyData.eqv (dOf w) (dOf v) || (dOfs ws).any fun z => PyData.eqv z (dOf v)) = true ↔ _
    rw [Bool.or_eq_true_iff, eqv_pl m n w v h3 hv, any_pl hv h4, List.mem_cons]
    exact ⟨fun h => h.imp Eq.symm id, fun h => h.imp Eq.symm id⟩
theorem q_inr {n m : Nat} {v : MV} {ws : List MV} {b : Bool} (hv : pl n v = true) (hw : pl (m + 1) (.ro ws) = true) (hn : n ≤ 60) (hm : m < 60) (hb : b = true ↔ v ∈ ws) : cmpV .isin v (.ro ws) = M.ret b := by
  funext h
  show isinL v (.ro ws) h = _
  unfold isinL
  dsimp only
  rw [reify_pl n 60 v hv hn, reify_pl (m + 1) 60 (.ro ws) hw (by omega)]
  have hs := shaped_pl hw (by omega)
  have e : dOf (.ro ws) = .list (dOfs ws) := rfl
  rw [e] at hs ⊢
  dsimp only
  rw [if_pos (by rw [shaped_pl hv hn, hs]; rfl)]
  have : ((dOfs ws).any fun z => PyData.eqv z (dOf v)) = b := by
    rw [Bool.eq_iff_iff, any_pl hv (m := m) (by unfold pl at hw; exact hw), hb]
  rw [this]
  rfl
theorem q_int_ {n m : Nat} {v : MV} {ws : List MV} {b : Bool} (hv : pl n v = true) (hw : pl (m + 1) (.tup ws) = true) (hn : n ≤ 60) (hm : m < 60) (hb : b = true ↔ v ∈ ws) : cmpV .isin v (.tup ws) = M.ret b := by
  funext h
  show isinL v (.tup ws) h = _
  unfold isinL
  dsimp only
  rw [reify_pl n 60 v hv hn, reify_pl (m + 1) 60 (.tup ws) hw (by omega)]
  have hs := shaped_pl hw (by omega)
  have e : dOf (.tup ws) = .tuple (dOfs ws) := rfl
  rw [e] at hs ⊢
  dsimp only
  rw [if_pos (by rw [shaped_pl hv hn, hs]; rfl)]
  have : ((dOfs ws).any fun z => PyData.eqv z (dOf v)) = b := by
    rw [Bool.eq_iff_iff, any_pl hv (m := m) (by unfold pl at hw; exact hw), hb]
  rw [this]
  rfl
theorem q_notin {v w : MV} {b : Bool} (h : cmpV .isin v w = M.ret b) : cmpV .notin v w = M.ret (!b) := by
  show (cmpV .isin v w).bnd (fun b => M.ret (!b)) = _
  rw [h]
  rfl
/-! ### locked dicts over a list -/
theorem zip_self {α β γ : Type} (e : α → β) (f : α → γ) : ∀ ns : List α, (ns.map e).zip (ns.map f) = ns.map fun a => (e a, f a)
  | [] => rfl
  | a :: r => by
    show (e a, f a) :: (r.map e).zip (r.map f) = _
    rw [zip_self e f r]
    rfl
theorem q_itsd {α : Type} {t : Bool} {e f : α → MV} {ns : List α} : itsV (.rod t (ns.map e) (ns.map f)) = M.ret (.vs (ns.map fun a => .tup [e a, f a])) := by
  show M.ret (Itv.vs (((ns.map e).zip (ns.map f)).map fun p => MV.tup [p.1, p.2])) = _
  rw [zip_self, List.map_map]
  rfl
theorem q_vasd {xs ys : List MV} : vasV (.rod false xs ys) = M.ret (.vs ys) := rfl
theorem q_lend {xs ys : List MV} : biV .len [.rod false xs ys] = M.ret (.int xs.length) := rfl
theorem q_listd {xs ys : List MV} (k : noRefs xs = true) : bvV (biV .list [.rod false xs ys]) = M.ret (.ro xs) := bv_lst k
/-- a key looked up -/
theorem find_map {f : Str → MV} {a : Str} : ∀ {ns : List Str}, a ∈ ns → findM (.str a) (ns.map fun a => (MV.str a, f a)) = some (f a)
  | [], h => by cases h
  | b :: r, h => by
    show (if kEq (.str b) (.str a) then some (f b) else findM (.str a) (r.map fun a => (MV.str a, f a))) = _
    have e : kEq (.str b) (.str a) = decide (b = a) := rfl
    rw [e]
    by_cases hb : b = a
    · subst hb
      rw [if_pos (by simp)]
    · rw [if_neg (by simpa using hb)]
      exact find_map ((List.mem_cons.mp h).resolve_left fun z => hb z.symm)
theorem find_not {f : Str → MV} {a : Str} : ∀ {ns : List Str}, ¬ a ∈ ns → findM (.str a) (ns.map fun a => (MV.str a, f a)) = none
  | [], _ => rfl
  | b :: r, h => by
    show (if kEq (.str b) (.str a) then some (f b) else findM (.str a) (r.map fun a => (MV.str a, f a))) = _
    have e : kEq (.str b) (.str a) = decide (b = a) := rfl
    rw [e, if_neg (by simpa using fun z => h (by rw [z]; exact List.mem_cons_self))]
    exact find_not fun z => h (List.mem_cons_of_mem _ z)
theorem q_idxN {f : Str → MV} {a : Str} {ns : List Str} (h : a ∈ ns) : idxV (.rod false (ns.map .str) (ns.map f)) (.str a) = M.ret (f a) := q_idxd rfl (by rw [zip_self]; exact find_map h)
theorem q_inN {f : Str → MV} {a : Str} {ns : List Str} : cmpV .isin (.str a) (.rod false (ns.map .str) (ns.map f)) = M.ret (decide (a ∈ ns)) := by
  rw [q_ind rfl, zip_self]
  by_cases h : a ∈ ns
  · rw [find_map h, decide_eq_true h]; rfl
  · rw [find_not h, decide_eq_false h]; rfl
/-! ### dict comprehensions over names that differ -/
theorem put_new {f : Str → MV} {a : Str} {v : MV} {ns : List Str} (h : ¬ a ∈ ns) : putM (.str a) v (ns.map fun a => (MV.str a, f a)) = (ns.map fun a => (MV.str a, f a)) ++ [(.str a, v)] := by
  unfold putM
  have e : ((ns.map fun a => (MV.str a, f a)).any fun p => kEq p.1 (.str a)) = false := by
    rw [List.any_map]
    rw [List.any_eq_false]
    intro b hb
    show ¬ (kEq (.str b) (.str a)) = true
    have e : kEq (.str b) (.str a) = decide (b = a) := rfl
    rw [e, decide_eq_true_eq]
    exact fun z => h (by rw [← z]; exact hb)
  rw [e, if_neg Bool.false_ne_true]
theorem dcLoop_names {enc : Str → MV} {step : MV → M (Option (MV × MV))} {xs : List Str} {f : Str → MV} (hs : ∀ x ∈ xs, step (enc x) = M.ret (some (.str x, f x))) (hlen : xs.length ≤ 1000000) (nd : xs.Nodup) : ∀ (μ i : Nat), xs.length < i + μ → i ≤ xs.length → dcLoop false step (.vs (xs.map enc)) μ i ((xs.take i).map fun a => (MV.str a, f a)) = M.ret (xs.map fun a => (MV.str a, f a)) := by
  intro μ
  induction μ with
  | zero => intro i h1 h2; omega
  | succ μ ih =>
    intro i h1 h2
    funext h
    have e : dcLoop false step (.vs (xs.map enc)) (μ + 1) i ((xs.take i).map fun a => (MV.str a, f a)) h = match some (xs.map enc)[i]? with
      | none => .stuck
      | some none => .ok ((xs.take i).map fun a => (MV.str a, f a)) h
      | some (some x) => ((step x).bnd fun o => match o with
        | some y => if keyB false y.1 && fitsL ((xs.take i).map fun a => (MV.str a, f a)).length then dcLoop false step (.vs (xs.map enc)) μ (i + 1) (putM y.1 y.2 ((xs.take i).map fun a => (MV.str a, f a))) else .stk
        | none => dcLoop false step (.vs (xs.map enc)) μ (i + 1) ((xs.take i).map fun a => (MV.str a, f a))) h := rfl
    rw [e, List.getElem?_map]
    cases e2 : xs[i]? with
    | none =>
      have := List.getElem?_eq_none_iff.mp e2
      rw [List.take_of_length_le this]
      rfl
    | some x =>
      have hl := (List.getElem?_eq_some_iff.mp e2).1
      have hx : xs[i] = x := (List.getElem?_eq_some_iff.mp e2).2
      dsimp only [Option.map]
      rw [hs x (hx ▸ List.getElem_mem hl), r_bnd]
      have hf : (keyB false (MV.str x) && fitsL ((xs.take i).map fun a => (MV.str a, f a)).length) = true := by
        rw [show keyB false (MV.str x) = true from rfl, Bool.true_and]
        unfold fitsL
        exact decide_eq_true (by rw [show sizeLine = 16777216 from rfl, List.length_map, List.length_take]; omega)
      dsimp only
      rw [if_pos hf]
      have hn : ¬ x ∈ xs.take i := fun z => by
        obtain ⟨j, hj⟩ := List.getElem?_of_mem z
        have hj1 := (List.getElem?_eq_some_iff.mp hj).1
        rw [List.length_take] at hj1
        rw [List.getElem?_take_of_lt (by omega)] at hj
        have hj2 : j < i := by omega
        exact List.pairwise_iff_getElem.mp nd j i (by omega) hl hj2 (by rw [hx]; exact (List.getElem?_eq_some_iff.mp hj).2)
      rw [put_new hn]
      have et : (xs.take i).map (fun a => (MV.str a, f a)) ++ [(.str x, f x)] = (xs.take (i + 1)).map fun a => (MV.str a, f a) := by
        rw [← List.take_append_getElem hl, List.map_append, hx]
        rfl
      rw [et]
      exact congrFun (ih (i + 1) (by omega) (by omega)) h
theorem dc_names (enc : Str → MV) {step : MV → M (Option (MV × MV))} {xs : List Str} (f : Str → MV) {W : Nat} (hW : xs.length < W) (hlen : xs.length ≤ 1000000) (nd : xs.Nodup) (hn : ∀ x ∈ xs, noRef (f x) = true) (hs : ∀ x ∈ xs, step (enc x) = M.ret (some (.str x, f x))) :
    bvV ((dcLoop false step (.vs (xs.map enc)) W 0 []).bnd fun ys => M.alloc (.dct false ys)) = M.ret (.rod false (xs.map .str) (xs.map f)) := by
  have z := dcLoop_names (enc := enc) (f := f) hs hlen nd W 0 (by omega) (Nat.zero_le _)
  rw [List.take_zero] at z
  have z : dcLoop false step (.vs (xs.map enc)) W 0 [] = M.ret (xs.map fun a => (MV.str a, f a)) := z
  rw [z]
  have e1 : (xs.map fun a => (MV.str a, f a)).map (·.1) = xs.map .str := by rw [List.map_map]; rfl
  have e2 : (xs.map fun a => (MV.str a, f a)).map (·.2) = xs.map f := by rw [List.map_map]; rfl
  have y := bv_dct (t := false) (kvs := xs.map fun a => (MV.str a, f a)) (by rw [e1]; exact noRefs_map fun _ _ => rfl) (by rw [e2]; exact noRefs_map hn)
  rw [e1, e2] at y
  exact y
theorem step_dc {fg : MV → Env → M Env} {fk fe : Env → M MV} {ρ ρ' : Env} {x y z : MV} (h1 : fg x ρ = M.ret ρ') (h2 : fk ρ' = M.ret y) (h3 : fe ρ' = M.ret z) : dcStep fg (fun _ => M.ret true) fk fe ρ x = M.ret (some (y, z)) := by
  unfold dcStep
  rw [h1]
  show (if true = true then (fk ρ').bnd fun y => (fe ρ').bnd fun z => M.ret (some (y, z)) else M.ret none) = _
  rw [if_pos rfl, h2, r_bnd, h3]
  rfl
theorem allStrs_map : ∀ ns : List Str, allStrs (ns.map .str) = some ns
  | [] => rfl
  | a :: r => by
    show (allStrs (r.map .str)).map (a :: ·) = _
    rw [allStrs_map r]
    rfl
theorem q_sortd {ns : List Str} {vs : List MV} (h : ns.length < 64) : bvV (biV .sorted [.rod false (ns.map .str) vs]) = M.ret (.ro ((sortS ns).map .str)) := by
  have e : biV .sorted [.rod false (ns.map .str) vs] = M.alloc (.lst ((sortS ns).map .str)) := by
    funext hh
    show (match allStrs (ns.map MV.str) with
      | some xs => if decide (xs.length < 64) then M.alloc (.lst ((sortS xs).map .str)) hh else .stuck
      | none => .stuck) = _
    rw [allStrs_map]
    dsimp only
    rw [if_pos (decide_eq_true h)]
  rw [e]
  exact bv_lst (noRefs_map fun _ _ => rfl)
/-! ### loops that run to their end -/
theorem for_end {asg : MV → Env → M Env} {body : Env → M (Env × Fl)} {xs : List MV} {W : Nat} {ρ0 : Env} (I : Nat → Env → Prop) (h0 : I 0 ρ0) (hW : xs.length < W)
    (hs : ∀ i x ρ, xs[i]? = some x → I i ρ → ∃ ρ' ρ2, asg x ρ = M.ret ρ' ∧ body ρ' = M.ret (ρ2, .nx) ∧ I (i + 1) ρ2) : ∃ ρ, forLoop asg body (.vs xs) W 0 ρ0 = M.ret (ρ, .nx) ∧ I xs.length ρ := by
  obtain ⟨p, e, q⟩ := forLoop_vs (asg := asg) (body := body) (xs := xs) (Q := fun p => p.2 = .nx ∧ I xs.length p.1) I (fun i x ρ hx hi => by
    obtain ⟨ρ', ρ2, h1, h2, h3⟩ := hs i x ρ hx hi
    exact ⟨ρ', (ρ2, .nx), h1, h2, h3⟩) (fun ρ h => ⟨rfl, h⟩) W 0 ρ0 (by omega) (Nat.zero_le _) h0
  obtain ⟨ρ, fl⟩ := p
  obtain ⟨q1, q2⟩ := q
  have q1 : fl = .nx := q1
  subst q1
  exact ⟨ρ, e, q2⟩
theorem for_all {β γ : Type} {asg : MV → Env → M Env} {body : Env → M (Env × Fl)} {xs : List MV} {W : Nat} {ρ0 : Env} {k : Env × Fl → M β} {k2 : β → M γ} {r : M γ} (I : Nat → Env → Prop) (h0 : I 0 ρ0) (hW : xs.length < W)
    (hs : ∀ i x ρ, xs[i]? = some x → I i ρ → ∃ ρ' ρ2, asg x ρ = M.ret ρ' ∧ body ρ' = M.ret (ρ2, .nx) ∧ I (i + 1) ρ2) (he : ∀ ρ, I xs.length ρ → (k (ρ, .nx)).bnd k2 = r) : ((forLoop asg body (.vs xs) W 0 ρ0).bnd k).bnd k2 = r := by
  obtain ⟨ρ, e, q⟩ := for_end I h0 hW hs
  rw [e]
  exact he ρ q
theorem for_all1 {β : Type} {asg : MV → Env → M Env} {body : Env → M (Env × Fl)} {xs : List MV} {W : Nat} {ρ0 : Env} {k : Env × Fl → M β} {r : M β} (I : Nat → Env → Prop) (h0 : I 0 ρ0) (hW : xs.length < W)
    (hs : ∀ i x ρ, xs[i]? = some x → I i ρ → ∃ ρ' ρ2, asg x ρ = M.ret ρ' ∧ body ρ' = M.ret (ρ2, .nx) ∧ I (i + 1) ρ2) (he : ∀ ρ, I xs.length ρ → k (ρ, .nx) = r) : (forLoop asg body (.vs xs) W 0 ρ0).bnd k = r := by
  obtain ⟨ρ, e, q⟩ := for_end I h0 hW hs
  rw [e]
  exact he ρ q
/-! ### what a pure term comes to, by a property -/
def Run {α : Type} (m : M α) (P : α → Prop) : Prop := ∃ a, m = M.ret a ∧ P a
theorem ret_inj {α : Type} {a b : α} (h : M.ret a = M.ret b) : a = b := by
  have := congrFun h []
  cases this
  rfl
theorem run_ret {α : Type} (a : α) (P : α → Prop) : Run (M.ret a) P = P a := propext ⟨fun ⟨b, e, p⟩ => by rw [ret_inj e]; exact p, fun p => ⟨a, rfl, p⟩⟩
theorem Run.bnd {α β : Type} {x : M α} {f : α → M β} {Q : α → Prop} {P : β → Prop} (h : Run x Q) (k : ∀ a, Q a → Run (f a) P) : Run (x.bnd f) P := by
  obtain ⟨a, e, q⟩ := h
  rw [e]
  exact k a q
theorem Run.eq {α : Type} {x : M α} {a : α} (h : Run x (· = a)) : x = M.ret a := by
  obtain ⟨b, e, q⟩ := h
  rw [e, q]
theorem run_for {asg : MV → Env → M Env} {body : Env → M (Env × Fl)} {xs : List MV} {W : Nat} {ρ0 : Env} {Q : Env × Fl → Prop} (I : Nat → Env → Prop) (h0 : I 0 ρ0) (hW : xs.length < W)
    (hs : ∀ i x ρ, xs[i]? = some x → I i ρ → Run (asg x ρ) fun ρ' => Run (body ρ') fun p => match p.2 with
      | .nx => I (i + 1) p.1
      | .ct => I (i + 1) p.1
      | .bk => Q (p.1, .nx)
      | .rt v => Q (p.1, .rt v)) (he : ∀ ρ, I xs.length ρ → Q (ρ, .nx)) : Run (forLoop asg body (.vs xs) W 0 ρ0) Q :=
  forLoop_vs I (fun i x ρ hx hi => by
    obtain ⟨ρ', e1, p, e2, q⟩ := hs i x ρ hx hi
    exact ⟨ρ', p, e1, e2, q⟩) he W 0 ρ0 (by omega) (Nat.zero_le _) h0
theorem call_run {T : List Def} {W n f : Nat} {ws : List MV} {df : Def} {v : MV} (e : T[f]? = some df) (hl : ws.length = df.np) (k : noRef v = true)
    (b : Run ((evSL (callF T W n) W df.body (ws.map some ++ List.replicate (df.ns - df.np) none)).bnd retP) (· = v)) : callF T W (n + 1) f ws = M.ret v := call_ret e hl k b.eq
end MPV
/-! MP: terms with local objects: os are laid on h, which stays. -/
namespace MPV
open PySem hiding Env
open MP
theorem bnd_assoc {α β γ : Type} (x : M α) (f : α → M β) (g : β → M γ) : (x.bnd f).bnd g = x.bnd fun a => (f a).bnd g := by
  funext h
  unfold M.bnd
  cases x h <;> rfl
def RunT {α : Type} (h : MH) (m : M α) (os : List MO) (P : α → List MO → Prop) : Prop := ∃ a os', m (h ++ os) = .ok a (h ++ os') ∧ P a os'
section
variable {α β : Type} {h : MH} {os : List MO}
theorem runT_ret (a : α) {P : α → List MO → Prop} (p : P a os) : RunT h (M.ret a) os P := ⟨a, os, rfl, p⟩
theorem RunT.bnd {x : M α} {f : α → M β} {Q : α → List MO → Prop} {P : β → List MO → Prop} (r : RunT h x os Q) (k : ∀ a os', Q a os' → RunT h (f a) os' P) : RunT h (x.bnd f) os P := by
  obtain ⟨a, os', e, q⟩ := r
  obtain ⟨b, os2, e2, p⟩ := k a os' q
  refine ⟨b, os2, ?_, p⟩
  unfold M.bnd
  rw [e]
  exact e2
theorem RunT.mono {x : M α} {Q P : α → List MO → Prop} (r : RunT h x os Q) (k : ∀ a os', Q a os' → P a os') : RunT h x os P := by
  obtain ⟨a, os', e, q⟩ := r
  exact ⟨a, os', e, k _ _ q⟩
theorem Run.toT {x : M α} {P : α → Prop} (r : Run x P) : RunT h x os fun a os' => os' = os ∧ P a := by
  obtain ⟨a, e, p⟩ := r
  rw [e]
  exact runT_ret a ⟨rfl, p⟩
theorem runT_alloc (o : MO) {P : MV → List MO → Prop} (p : P (.ref (h.length + os.length)) (os ++ [o])) : RunT h (M.alloc o) os P := by
  refine ⟨.ref (h.length + os.length), os ++ [o], ?_, p⟩
  show Res.ok (MV.ref (h ++ os).length) ((h ++ os) ++ [o]) = _
  rw [List.length_append, List.append_assoc]
theorem runT_for {asg : MV → Env → M Env} {body : Env → M (Env × Fl)} {xs : List MV} {W : Nat} {ρ0 : Env} {Q : Env × Fl → List MO → Prop} (I : Nat → Env → List MO → Prop) (h0 : I 0 ρ0 os) (hW : xs.length < W)
    (hs : ∀ i x ρ os, xs[i]? = some x → I i ρ os → RunT h (asg x ρ) os fun ρ' os' => RunT h (body ρ') os' fun p os2 => match p.2 with
      | .nx => I (i + 1) p.1 os2
      | .ct => I (i + 1) p.1 os2
      | .bk => Q (p.1, .nx) os2
      | .rt v => Q (p.1, .rt v) os2) (he : ∀ ρ os, I xs.length ρ os → Q (ρ, .nx) os) : RunT h (forLoop asg body (.vs xs) W 0 ρ0) os Q := by
  have key : ∀ (μ i : Nat) (ρ : Env) (os : List MO), xs.length < i + μ → i ≤ xs.length → I i ρ os → RunT h (forLoop asg body (.vs xs) μ i ρ) os Q := by
    intro μ
    induction μ with
    | zero => intro i ρ os h1 h2; omega
    | succ μ ih =>
      intro i ρ os h1 h2 hi
      have e : forLoop asg body (.vs xs) (μ + 1) i ρ = fun h => match some xs[i]? with
        | none => .stuck
        | some none => .ok (ρ, .nx) h
        | some (some x) => ((asg x ρ).bnd fun ρ' => (body ρ').bnd fun p => match p.2 with
          | .nx => forLoop asg body (.vs xs) μ (i + 1) p.1
          | .ct => forLoop asg body (.vs xs) μ (i + 1) p.1
          | .bk => .ret (p.1, .nx)
          | .rt v => .ret (p.1, .rt v)) h := rfl
      cases e2 : xs[i]? with
      | none =>
        have := List.getElem?_eq_none_iff.mp e2
        have hh : i = xs.length := by omega
        subst hh
        rw [e2] at e
        rw [e]
        exact ⟨(ρ, .nx), os, rfl, he ρ os hi⟩
      | some x =>
        have hl := (List.getElem?_eq_some_iff.mp e2).1
        rw [e2] at e
        rw [e]
        show RunT h ((asg x ρ).bnd fun ρ' => (body ρ').bnd fun p => match p.2 with
          | .nx => forLoop asg body (.vs xs) μ (i + 1) p.1
          | .ct => forLoop asg body (.vs xs) μ (i + 1) p.1
          | .bk => .ret (p.1, .nx)
          | .rt v => .ret (p.1, .rt v)) os Q
        refine (hs i x ρ os e2 hi).bnd fun ρ' os' r => r.bnd fun p os2 q => ?_
        obtain ⟨ρ2, fl⟩ := p
        cases fl with
        | nx => exact ih (i + 1) ρ2 os2 (by omega) (by omega) q
        | ct => exact ih (i + 1) ρ2 os2 (by omega) (by omega) q
        | bk => exact runT_ret (a := (ρ2, Fl.nx)) q
        | rt v => exact runT_ret (a := (ρ2, Fl.rt v)) q
  exact key W 0 ρ0 os (by omega) (Nat.zero_le _) h0
/-- a local object -/
theorem loc_get {j : Nat} : (h ++ os)[h.length + j]? = os[j]? := by
  rw [List.getElem?_append_right (by omega)]
  congr 1
  omega
theorem loc_set {j : Nat} {o : MO} : (h ++ os).set (h.length + j) o = h ++ os.set j o := by
  rw [List.set_append_right _ _ (by omega)]
  congr 2
  omega
theorem gr_loc {os : List MO} : Gr h (h ++ os) := Gr.app h os
/-- a def with local objects, made by value -/
theorem call_loc {T : List Def} {W n f : Nat} {ws : List MV} {df : Def} {w : MV} (e : T[f]? = some df) (hl : ws.length = df.np) (hc : df.cl = true)
    (b : ∀ h : MH, RunT h ((evSL (callF T W n) W df.body (ws.map some ++ List.replicate (df.ns - df.np) none)).bnd retP) [] fun v os => byV (h ++ os) h.length 60 v = some w) : callF T W (n + 1) f ws = M.ret w := by
  rw [call_eq e hl]
  show clV df.cl ((evSL (callF T W n) W df.body (ws.map some ++ List.replicate (df.ns - df.np) none)).bnd retP) = _
  rw [hc]
  refine bv_eq fun h => ?_
  obtain ⟨v, os, e2, p⟩ := b h
  rw [List.append_nil] at e2
  exact ⟨v, h ++ os, e2, gr_loc, p⟩
/-! ### operations on local objects -/
theorem fitsL_lt' {n : Nat} (h : n < 1000000) : fitsL n = true := by
  unfold fitsL
  exact decide_eq_true (by rw [show sizeLine = 16777216 from rfl]; omega)
theorem runT_append {j : Nat} {xs : List MV} {x : MV} {P : MV → List MO → Prop} (e : os[j]? = some (.lst xs)) (hx : xs.length < 1000000) (p : P .non (os.set j (.lst (xs ++ [x])))) : RunT h (mtV .append (.ref (h.length + j)) [x]) os P := by
  refine ⟨.non, os.set j (.lst (xs ++ [x])), ?_, p⟩
  show (match (h ++ os)[h.length + j]? with
    | some (.lst xs) => if fitsL xs.length then Res.ok MV.non ((h ++ os).set (h.length + j) (.lst (xs ++ [x]))) else .stuck
    | _ => .stuck) = _
  rw [loc_get, e]
  dsimp only
  rw [if_pos (fitsL_lt' hx), loc_set]
theorem runT_setd {j : Nat} {t : Bool} {kvs : List (MV × MV)} {k v : MV} {P : Unit → List MO → Prop} (e : os[j]? = some (.dct t kvs)) (hk : keyB t k = true) (hx : kvs.length < 1000000) (p : P () (os.set j (.dct t (putM k v kvs)))) : RunT h (setV (.ref (h.length + j)) k v) os P := by
  refine ⟨(), os.set j (.dct t (putM k v kvs)), ?_, p⟩
  unfold setV
  dsimp only
  rw [loc_get, e]
  dsimp only
  rw [if_pos (by rw [hk, fitsL_lt' hx]; rfl), loc_set]
end
end MPV
/-! MP: while loops with local objects, by a measure. -/
namespace MPV
open PySem hiding Env
open MP
theorem runT_whl {h : MH} {os : List MO} {test : Env → M Bool} {body : Env → M (Env × Fl)} {W : Nat} {ρ0 : Env} {Q : Env × Fl → List MO → Prop} (I : Nat → Env → List MO → Prop) {m0 : Nat} (hm : m0 < W) (h0 : I m0 ρ0 os)
    (hs : ∀ m ρ os, I m ρ os → RunT h (test ρ) os fun k os' => (k = true → RunT h (body ρ) os' fun p os2 => match p.2 with
      | .nx => ∃ m', m' < m ∧ I m' p.1 os2
      | .ct => ∃ m', m' < m ∧ I m' p.1 os2
      | .bk => Q (p.1, .nx) os2
      | .rt v => Q (p.1, .rt v) os2) ∧ (k = false → Q (ρ, .nx) os')) : RunT h (whlLoop test body W ρ0) os Q := by
  have key : ∀ (w m : Nat) (ρ : Env) (os : List MO), m < w → I m ρ os → RunT h (whlLoop test body w ρ) os Q := by
    intro w
    induction w with
    | zero => intro m ρ os h1; omega
    | succ w ih =>
      intro m ρ os h1 hi
      show RunT h ((test ρ).bnd fun k => if k then (body ρ).bnd fun p => match p.2 with
        | .nx => whlLoop test body w p.1
        | .ct => whlLoop test body w p.1
        | .bk => .ret (p.1, .nx)
        | .rt v => .ret (p.1, .rt v)
        else .ret (ρ, .nx)) os Q
      refine (hs m ρ os hi).bnd fun k os' r => ?_
      cases k with
      | false => exact runT_ret (a := (ρ, Fl.nx)) (r.2 rfl)
      | true =>
        refine (r.1 rfl).bnd fun p os2 q => ?_
        obtain ⟨ρ2, fl⟩ := p
        cases fl with
        | nx =>
          obtain ⟨m', h3, h4⟩ := q
          exact ih m' ρ2 os2 (by omega) h4
        | ct =>
          obtain ⟨m', h3, h4⟩ := q
          exact ih m' ρ2 os2 (by omega) h4
        | bk => exact runT_ret (a := (ρ2, Fl.nx)) q
        | rt v => exact runT_ret (a := (ρ2, Fl.rt v)) q
  exact key W m0 ρ0 os hm h0
end MPV
/-! k22, the plain part: pictures of rows, their runs; a picture that was once run cannot be stuck. -/
namespace Pic
/-- a deed: say or get, the other hand, the word -/
structure Deed (α : Type) where
  say : Bool
  other : α
  w : α
  deriving DecidableEq
section
variable {α : Type} [DecidableEq α]
abbrev Row (α : Type) := List (Deed α)
/-- the deeds of one kind with one other hand -/
def sel (r : Row α) (k : Bool) (b : α) : List (Deed α) := r.filter fun d => d.say == k && decide (d.other = b)
def cnt (r : Row α) (k : Bool) (b : α) : Nat := (sel r k b).length
/-- may a hand go on, when c of each row is done -/
def canGo (R : α → Row α) (c : α → Nat) (a : α) : Bool := match (R a)[c a]? with
  | none => false
  | some d => d.say || decide (cnt ((R a).take (c a)) false d.other < cnt ((R d.other).take (c d.other)) true a)
def cts (s : List α) (a : α) : Nat := s.count a
/-- a run's beginning -/
def Steps (R : α → Row α) (s : List α) : Prop := ∀ i : Nat, ∀ a : α, s[i]? = some a → canGo R (cts (s.take i)) a = true
def Full (R : α → Row α) (ns : List α) (c : α → Nat) : Prop := ∀ a ∈ ns, c a = (R a).length
theorem cts_nil : cts ([] : List α) = fun _ => 0 := rfl
theorem cts_snoc (s : List α) (a b : α) : cts (s ++ [a]) b = cts s b + (if a = b then 1 else 0) := by
  unfold cts
  rw [List.count_append, List.count_singleton]
  simp [beq_iff_eq]
theorem cnt_mono {r : Row α} {k : Bool} {b : α} {m n : Nat} (h : m ≤ n) : cnt (r.take m) k b ≤ cnt (r.take n) k b := by
  unfold cnt sel
  have : r.take m = (r.take n).take m := by rw [List.take_take, Nat.min_eq_left h]
  rw [this]
  exact List.Sublist.length_le (List.Sublist.filter _ (List.take_sublist _ _))
theorem Steps.take {R : α → Row α} {s : List α} (h : Steps R s) (n : Nat) : Steps R (s.take n) := fun i a e => by
  have hi : i < n ∧ i < s.length := by
    have := (List.getElem?_eq_some_iff.mp e).1
    rw [List.length_take] at this
    omega
  rw [List.getElem?_take_of_lt hi.1] at e
  have z := h i a e
  rw [List.take_take, Nat.min_eq_left (by omega)]
  exact z
theorem Steps.snoc {R : α → Row α} {s : List α} {a : α} (h : Steps R s) (g : canGo R (cts s) a = true) : Steps R (s ++ [a]) := fun i b e => by
  by_cases hi : i < s.length
  · rw [List.getElem?_append_left hi] at e
    rw [List.take_append_of_le_length (by omega)]
    exact h i b e
  · have hl := (List.getElem?_eq_some_iff.mp e).1
    rw [List.length_append, List.length_singleton] at hl
    have hi : i = s.length := by omega
    subst hi
    rw [List.getElem?_append_right (Nat.le_refl _), Nat.sub_self] at e
    cases e
    rw [List.take_append_of_le_length (Nat.le_refl _), List.take_length]
    exact g
theorem canGo_lt {R : α → Row α} {c : α → Nat} {a : α} (h : canGo R c a = true) : c a < (R a).length := by
  unfold canGo at h
  split at h
  · cases h
  · rename_i d e
    exact (List.getElem?_eq_some_iff.mp e).1
theorem steps_le {R : α → Row α} {s : List α} (h : Steps R s) (a : α) : cts s a ≤ (R a).length := by
  induction hn : s.length generalizing s with
  | zero =>
    rw [List.length_eq_zero_iff.mp hn]
    exact Nat.zero_le _
  | succ n ih =>
    have e : s = s.take n ++ [s[n]] := by
      rw [List.take_append_getElem, List.take_of_length_le (by omega)]
    have g := h n s[n] (List.getElem?_eq_getElem (by omega))
    have ih := ih (h.take n) (by rw [List.length_take]; omega)
    rw [e, cts_snoc]
    by_cases hb : s[n] = a
    · rw [if_pos hb]
      have := canGo_lt g
      rw [hb] at this
      omega
    · rw [if_neg hb]
      exact ih
/-- what was run once is never stuck: E has been run to its end; wherever one stands, some hand may go on -/
theorem goes_on {R : α → Row α} {ns E : List α} (hE : Steps R E) (hf : Full R ns (cts E)) (hn : ∀ a ∈ E, a ∈ ns) {c : α → Nat} (hc : ∀ a, c a ≤ (R a).length) (hs : ∃ a ∈ ns, c a < (R a).length) : ∃ a ∈ ns, canGo R c a = true := by
  -- the first turn of E that is not done yet
  have key : ∃ i : Nat, ∃ a : α, E[i]? = some a ∧ c a ≤ cts (E.take i) a ∧ ∀ j b, j < i → E[j]? = some b → cts (E.take j) b < c b := by
    obtain ⟨a, ha, hlt⟩ := hs
    have hex : ∃ i : Nat, ∃ a : α, E[i]? = some a ∧ c a ≤ cts (E.take i) a := by
      apply Classical.byContradiction
      intro hno
      have all : ∀ i a, E[i]? = some a → cts (E.take i) a < c a := fun i a e => Nat.lt_of_not_le fun z => hno ⟨i, a, e, z⟩
      have bound : ∀ n, n ≤ E.length → cts (E.take n) a ≤ c a := by
        intro n
        induction n with
        | zero => intro _; rw [List.take_zero]; exact Nat.zero_le _
        | succ n ih =>
          intro hn2
          have e : E.take (n + 1) = E.take n ++ [E[n]] := (List.take_append_getElem (by omega)).symm
          rw [e, cts_snoc]
          by_cases hb : E[n] = a
          · rw [if_pos hb]
            have := all n E[n] (List.getElem?_eq_getElem (by omega))
            rw [hb] at this
            omega
          · rw [if_neg hb]
            exact ih (by omega)
      have b := bound E.length (Nat.le_refl _)
      rw [List.take_length, hf a ha] at b
      omega
    have strong : ∀ i : Nat, (∃ a : α, E[i]? = some a ∧ c a ≤ cts (E.take i) a) → ∃ i : Nat, ∃ a : α, E[i]? = some a ∧ c a ≤ cts (E.take i) a ∧ ∀ j b, j < i → E[j]? = some b → cts (E.take j) b < c b := by
      intro i
      induction i using Nat.strongRecOn with
      | ind i ih =>
        intro ⟨a, e, h⟩
        by_cases hno : ∀ j b, j < i → E[j]? = some b → cts (E.take j) b < c b
        · exact ⟨i, a, e, h, hno⟩
        · have : ∃ j b, j < i ∧ E[j]? = some b ∧ c b ≤ cts (E.take j) b := by
            apply Classical.byContradiction
            intro hn2
            exact hno fun j b hj e => Nat.lt_of_not_le fun z => hn2 ⟨j, b, hj, e, z⟩
          obtain ⟨j, b, hj, e2, h2⟩ := this
          exact ih j hj ⟨b, e2, h2⟩
    obtain ⟨i, a, e, h⟩ := hex
    exact strong i ⟨a, e, h⟩
  obtain ⟨i, a, e, h1, h2⟩ := key
  have le : ∀ b, cts (E.take i) b ≤ c b := by
    intro b
    have bound : ∀ n, n ≤ i → cts (E.take n) b ≤ c b := by
      intro n
      induction n with
      | zero => intro _; rw [List.take_zero]; exact Nat.zero_le _
      | succ n ih =>
        intro hn2
        have hl := (List.getElem?_eq_some_iff.mp e).1
        have e3 : E.take (n + 1) = E.take n ++ [E[n]] := (List.take_append_getElem (by omega)).symm
        rw [e3, cts_snoc]
        by_cases hb : E[n] = b
        · rw [if_pos hb]
          have := h2 n E[n] (by omega) (List.getElem?_eq_getElem (by omega))
          rw [hb] at this
          omega
        · rw [if_neg hb]
          exact ih (by omega)
    exact bound i (Nat.le_refl _)
  have ea : c a = cts (E.take i) a := Nat.le_antisymm h1 (le a)
  have g := hE i a e
  refine ⟨a, hn a (List.mem_of_getElem? e), ?_⟩
  unfold canGo at g ⊢
  rw [ea]
  split at g
  · cases g
  · rename_i d ed
    rcases Bool.or_eq_true_iff.mp g with g | g
    · rw [g]; rfl
    · have g := of_decide_eq_true g
      rw [decide_eq_true (Nat.lt_of_lt_of_le g (cnt_mono (le d.other))), Bool.or_true]
end
end Pic
namespace MPV
open PySem hiding Env
open MP LawT
/-- the width of the loops -/
class Wd (W : Nat) : Prop where
  big : 100000 ≤ W
theorem lt_W0 {W k : Nat} [w : Wd W] (h : k < 100000) : k < W := Nat.lt_of_lt_of_le h w.big
/-- a table with the defs at their places -/
class PT (T : List Def) : Prop where
  at_is_list : T[0]? = some d_is_list
  at_is_name : T[1]? = some d_is_name
  at_is_deed : T[2]? = some d_is_deed
  at_is_row : T[3]? = some d_is_row
  at_are_rows : T[4]? = some d_are_rows
  at_kept_rows : T[5]? = some d_kept_rows
  at_places_of : T[6]? = some d_places_of
  at_said : T[7]? = some d_said
  at_got : T[8]? = some d_got
  at_unheard : T[9]? = some d_unheard
  at_says_of_gets : T[10]? = some d_says_of_gets
  at_done_counts : T[11]? = some d_done_counts
  at_is_free : T[12]? = some d_is_free
  at_goals_of : T[13]? = some d_goals_of
  at_comes_back : T[14]? = some d_comes_back
  at_turning : T[15]? = some d_turning
  at_Picture___init__ : T[16]? = some d_Picture___init__
  at_Picture___eq__ : T[17]? = some d_Picture___eq__
  at_letters_of : T[18]? = some d_letters_of
  at_want_few_letters : T[19]? = some d_want_few_letters
  at_checked_rows : T[20]? = some d_checked_rows
  at_is_going : T[21]? = some d_is_going
  at_going : T[22]? = some d_going
  at_with_one : T[23]? = some d_with_one
  at_empty_cut : T[24]? = some d_empty_cut
  at_full_cut : T[25]? = some d_full_cut
  at_passed : T[26]? = some d_passed
  at_is_run : T[27]? = some d_is_run
  at_want_run : T[28]? = some d_want_run
  at_loads_of : T[29]? = some d_loads_of
  at_load_at : T[30]? = some d_load_at
  at_room_of : T[31]? = some d_room_of
  at__law_pot : T[32]? = some d__law_pot
  at__law_draw : T[33]? = some d__law_draw
  at__law_pick : T[34]? = some d__law_pick
  at__law_names : T[35]? = some d__law_names
  at__law_rows : T[36]? = some d__law_rows
  at__law_goes : T[37]? = some d__law_goes
  at__law_passed : T[38]? = some d__law_passed
  at__law_load : T[39]? = some d__law_load
  at__law_is_run : T[40]? = some d__law_is_run
  at__law_run : T[41]? = some d__law_run
  at__law_bent : T[42]? = some d__law_bent
  at__law_judged : T[43]? = some d__law_judged
  at__law_right : T[44]? = some d__law_right
  at_law : T[45]? = some d_law
theorem pt_law : PT LawT.T := ⟨rfl, rfl, rfl, rfl, rfl, rfl, rfl, rfl, rfl, rfl, rfl, rfl, rfl, rfl, rfl, rfl, rfl, rfl, rfl, rfl, rfl, rfl, rfl, rfl, rfl, rfl, rfl, rfl, rfl, rfl, rfl, rfl, rfl, rfl, rfl, rfl, rfl, rfl, rfl, rfl, rfl, rfl, rfl, rfl, rfl, rfl⟩
theorem wd_law : Wd 100000 := ⟨Nat.le_refl _⟩
end MPV
/-! k22: the program's own functions, on rows. -/
namespace MPV
open PySem hiding Env
open MP LawT
variable {T : List Def} {W0 : Nat} [PT T] [Wd W0]
local macro_rules | `(tactic| walk_at "mq") => `(tactic| simp only [sl_cons, sl_nil, s_asg, s_par, s_par3, s_aug, s_ex, s_ret, s_retN, s_ifs, s_fors, s_whl, s_pas, t_bop, t_not, t_var, t_cmp, t_chain, t_isK, t_call, t_bi, t_isi, t_idx, bt_one, bt_cons, e_var, e_lit, e_glo, e_tup, e_lst, e_dct, e_bin, e_neg, e_cmp, e_chain, e_isK, e_bop, e_not, e_ife, e_call, e_callk, e_bi, e_isi, e_mth, e_idx, e_slc, e_lc, e_val, e_fld, e_con, el_nil, el_cons, eb_one, eb_cons, eo_no, eo_so, ec_no, ec_so, g_nm, g_tp, g_sb, gl_nil, gl_cons, i_vl, i_rg1, i_rg2, i_en, i_its, i_vas, i_zp, after_nx, after_rt, r_bnd, r_opt, w_nil, w_cons, q_inS, retP_nx, retP_rt, List.replicate_zero, Nat.sub_self, q_add, q_sub, q_neg, q_not, q_bop, q_lt, q_le, q_gt, q_ge, q_eqs, q_nes, q_trub, q_int, q_intb, q_lent, q_lenr, q_idxt0, q_idxt1, q_idxt2, q_isi1, q_isi2, q_itt, q_itr, q_itd, q_its, q_intO, q_tupr, q_tupt, List.map_cons, List.map_nil, List.cons_append, List.nil_append, List.replicate, List.getElem?_cons_zero, List.getElem?_cons_succ, List.set_cons_zero, List.set_cons_succ, if_true, if_false, Bool.false_eq_true, b00, b01, b10, b11, Bool.not_true, Bool.not_false, Bool.true_or, Bool.or_true, Bool.false_or, Bool.or_false])
theorem isi_ro {xs : List MV} {t : Ty} : isiV (.ro xs) t = M.ret (match t with | .list => true | _ => false) := by cases t <;> rfl
theorem isi_tup {xs : List MV} {t : Ty} : isiV (.tup xs) t = M.ret (match t with | .tuple => true | _ => false) := by cases t <;> rfl
theorem isi_str {s : Str} {t : Ty} : isiV (.str s) t = M.ret (match t with | .str => true | _ => false) := by cases t <;> rfl
theorem isi_rod {ks vs : List MV} {t : Ty} : isiV (.rod false ks vs) t = M.ret (match t with | .dict => true | _ => false) := by cases t <;> rfl
section
variable {n : Nat}
theorem is_list_ro {xs : List MV} : callF T W0 (n + 1) 0 [.ro xs] = M.ret (.bl true) := by
  refine call_ret (df := d_is_list) PT.at_is_list rfl rfl ?_
  unfold d_is_list
  walk_at "mq"
  simp only [isi_ro, r_bnd, Bool.true_or, after_rt, retP_rt]
def inL (c : Nat) : Bool := !(Builtin.Str.occurrences (Str.ofString "abcdefghijklmnopqrstuvwxyz") ⟨#[c]⟩ 0 (Str.ofString "abcdefghijklmnopqrstuvwxyz").length 1).isEmpty
def goodName (s : Str) : Bool := decide ((1 : Int) ≤ s.length) && decide ((s.length : Int) ≤ 6) && (s.cps.toList.all fun c => inL c) && PyData.canLay0 (.str s)
theorem fits_le6 {k : Nat} (h : (k : Int) ≤ 1000000) : fits k = true := by
  unfold fits
  exact decide_eq_true (by rw [show sizeLine = 16777216 from rfl]; omega)
theorem len_cps (s : Str) : s.length = s.cps.toList.length := by
  show s.cps.size = _
  simp
theorem is_name_ok {s : Str} (h : goodName s = true) : callF T W0 (n + 1) 1 [.str s] = M.ret (.bl true) := by
  unfold goodName at h
  obtain ⟨h, h4⟩ := Bool.and_eq_true_iff.mp h
  obtain ⟨h, h3⟩ := Bool.and_eq_true_iff.mp h
  obtain ⟨h1, h2⟩ := Bool.and_eq_true_iff.mp h
  have h2' := of_decide_eq_true h2
  have hl : s.cps.toList.length ≤ 6 := by rw [← len_cps]; omega
  refine call_ret (df := d_is_name) PT.at_is_name rfl rfl ?_
  unfold d_is_name
  walk_at "mq"
  simp only [isi_str, q_lens, fits_le6 (k := s.length) (by omega), r_bnd, if_true, q_le, h1, h2, Bool.not_true, Bool.false_eq_true, if_false, b10, b00, b01, b11, sl_nil, after_nx]
  walk_at "mq"
  rw [lc_map (fun c : Nat => MV.str ⟨#[c]⟩) (fun c => .bl (inL c)) (by refine lt_W0 ?_; omega) (by omega) (fun _ _ => rfl)]
  · walk_at "mq"
    simp only [q_allm, h3, r_bnd, after_rt, retP_rt]
  · intro c hc
    refine step_map rfl ?_
    walk_at "mq"
    rfl
theorem good_lay {s : Str} (h : goodName s = true) : PyData.canLay0 (.str s) = true := (Bool.and_eq_true_iff.mp h).2
def sayS : Str := Str.ofString "say"
def getS : Str := Str.ofString "get"
/-- a deed as a value -/
def kS (d : Pic.Deed Str) : Str := if d.say then sayS else getS
def dS (d : Pic.Deed Str) : MV := .tup [.str (kS d), .str d.other, .str d.w]
def goodDeed (d : Pic.Deed Str) : Prop := goodName d.other = true ∧ goodName d.w = true
theorem kS_lay (d : Pic.Deed Str) : PyData.canLay0 (.str (kS d)) = true := by
  unfold kS
  cases d.say <;> decide +kernel
theorem pl_str {n : Nat} {s : Str} (h : PyData.canLay0 (.str s) = true) : pl n (.str s) = true := by cases n <;> (unfold pl; exact h)
theorem pl_int {n : Nat} {i : Int} : pl n (.int i) = true := by cases n <;> rfl
theorem is_deed_ok {d : Pic.Deed Str} (h : goodDeed d) : callF T W0 (n + 2) 2 [dS d] = M.ret (.bl true) := by
  have ek : cmpV .notin (.str (kS d)) (.tup [.str (Str.ofString "say"), .str (Str.ofString "get")]) = M.ret (!true) :=
    q_notin (q_int_ (n := 0) (m := 0) (pl_str (kS_lay d)) (by decide +kernel) (by omega) (by omega) ⟨fun _ => by
      unfold kS
      cases d.say
      · exact List.mem_cons_of_mem _ List.mem_cons_self
      · exact List.mem_cons_self, fun _ => rfl⟩)
  refine call_ret (df := d_is_deed) PT.at_is_deed rfl rfl ?_
  unfold d_is_deed dS
  walk_at "mq"
  simp only [isi_tup, isi_str, r_bnd, q_not, Bool.not_true, Bool.not_false, b00, b01, b10, b11, Bool.false_eq_true, if_false, if_true, q_nei, ek, q_tup2, List.length_cons, List.length_nil]
  rw [show decide (((0 + 1 + 1 + 1 : Nat) : Int) = 3) = true from rfl]
  simp only [r_bnd, Bool.not_true, b00, b01, b10, b11, Bool.false_eq_true, if_false, if_true, ek, after_nx]
  walk_at "mq"
  simp only [is_name_ok h.1, is_name_ok h.2, r_bnd, q_bop, b11, if_true, after_rt, retP_rt]
/-- texts of names in a list -/
theorem pls_names {ns : List Str} (h : ∀ a ∈ ns, goodName a = true) : ∀ {k : Nat}, pls k (ns.map .str) = true := by
  intro k
  induction ns with
  | nil => cases k <;> rfl
  | cons a r ih =>
    show pls k (.str a :: r.map .str) = true
    unfold pls
    rw [pl_str (good_lay (h a List.mem_cons_self)), ih fun b hb => h b (List.mem_cons_of_mem _ hb)]
    rfl
theorem pl_ro {k : Nat} {xs : List MV} (h : pls k xs = true) : pl (k + 1) (.ro xs) = true := by unfold pl; exact h
theorem pl_tup {k : Nat} {xs : List MV} (h : pls k xs = true) : pl (k + 1) (.tup xs) = true := by unfold pl; exact h
theorem mem_str {a : Str} {ns : List Str} : MV.str a ∈ ns.map MV.str ↔ a ∈ ns := by
  rw [List.mem_map]
  exact ⟨fun ⟨b, h, e⟩ => by cases e; exact h, fun h => ⟨a, h, rfl⟩⟩
theorem in_names {a : Str} {ns : List Str} (ha : goodName a = true) (h : ∀ b ∈ ns, goodName b = true) : cmpV .isin (.str a) (.ro (ns.map .str)) = M.ret (decide (a ∈ ns)) :=
  q_inr (n := 0) (m := 0) (pl_str (good_lay ha)) (pl_ro (pls_names h)) (by omega) (by omega) (by rw [mem_str, decide_eq_true_eq])
theorem is_row_ok {ns : List Str} {a : Str} {r : List (Pic.Deed Str)} (hn : ∀ b ∈ ns, goodName b = true) (hl : r.length ≤ 100) (h : ∀ d ∈ r, goodDeed d ∧ d.other ∈ ns ∧ d.other ≠ a) : callF T W0 (n + 3) 3 [.ro (ns.map .str), .str a, .ro (r.map dS)] = M.ret (.bl true) := by
  refine call_ret (df := d_is_row) PT.at_is_row rfl rfl ?_
  unfold d_is_row
  walk_at "mq"
  simp only [is_list_ro, r_bnd, q_bop, b11, if_true]
  try walk_at "mq"
  rw [lc_map dS (fun _ => .bl true) (by refine lt_W0 ?_; omega) (by omega) (fun _ _ => rfl)]
  · simp only [r_bnd, q_allm (p := fun _ : Pic.Deed Str => true), after_rt, retP_rt]
    rw [show (r.all fun _ => true) = true from by simp]
  · intro d hd
    obtain ⟨g, h1, h2⟩ := h d hd
    refine step_map rfl ?_
    walk_at "mq"
    simp only [is_deed_ok g, r_bnd, q_bop, b11, if_true]
    unfold dS
    walk_at "mq"
    simp only [in_names g.1 hn, decide_eq_true h1, r_bnd, q_bop, b11, if_true]
    have : (!(d.other == a)) = true := by simp [h2]
    rw [this]
/-! ### the drawn rows, the kept rows -/
def rowL (r : List (Pic.Deed Str)) : MV := .ro (r.map dS)
def rowT (r : List (Pic.Deed Str)) : MV := .tup (r.map dS)
/-- what the law draws, what the picture keeps -/
def dicL (ns : List Str) (R : Str → List (Pic.Deed Str)) : MV := .rod false (ns.map .str) (ns.map fun a => rowL (R a))
def dicT (ns : List Str) (R : Str → List (Pic.Deed Str)) : MV := .rod false (ns.map .str) (ns.map fun a => rowT (R a))
/-- rows that are rows -/
structure GoodRows (ns : List Str) (R : Str → List (Pic.Deed Str)) : Prop where
  ne : ns ≠ []
  few : ns.length ≤ 4
  nd : ns.Nodup
  srt : sortS ns = ns
  name : ∀ a ∈ ns, goodName a = true
  len : ∀ a ∈ ns, (R a).length ≤ 100
  deed : ∀ a ∈ ns, ∀ d ∈ R a, goodDeed d ∧ d.other ∈ ns ∧ d.other ≠ a
section
variable {ns : List Str} {R : Str → List (Pic.Deed Str)}
theorem are_rows_ok (G : GoodRows ns R) : callF T W0 (n + 4) 4 [dicL ns R] = M.ret (.bl true) := by
  have few := G.few
  refine call_ret (df := d_are_rows) PT.at_are_rows rfl rfl ?_
  unfold d_are_rows dicL
  walk_at "mq"
  simp only [isi_rod, r_bnd, q_not, Bool.not_true, Bool.not_false, b00, b01, b10, b11, Bool.false_eq_true, if_false, if_true, q_lend, q_eqi]
  rw [show decide (((ns.map MV.str).length : Int) = 0) = false from decide_eq_false (by
    rw [List.length_map]
    have := List.length_pos_iff.mpr G.ne
    omega)]
  simp only [r_bnd, b00, b01, if_true]
  rw [lc_map MV.str (fun _ => .bl true) (by refine lt_W0 ?_; omega) (by omega) (fun _ _ => rfl)]
  · simp only [r_bnd, q_allm (p := fun _ : Str => true)]
    rw [show (ns.all fun _ => true) = true from by simp]
    simp only [r_bnd, q_trub, Bool.not_true, Bool.false_eq_true, if_false, sl_nil, after_nx]
    walk_at "mq"
    simp only [q_listd (noRefs_map (f := MV.str) fun _ _ => rfl), q_itsd, r_bnd, after_nx]
    walk_at "mq"
    simp only [q_itsd, r_bnd]
    rw [lc_map (fun a => MV.tup [.str a, rowL (R a)]) (fun _ => .bl true) (by refine lt_W0 ?_; omega) (by omega) (fun _ _ => rfl)]
    · simp only [r_bnd, q_allm (p := fun _ : Str => true)]
      rw [show (ns.all fun _ => true) = true from by simp]
      simp only [r_bnd, after_rt, retP_rt]
    · intro a ha
      refine step_map rfl ?_
      walk_at "mq"
      exact is_row_ok G.name (G.len a ha) (G.deed a ha)
  · intro a ha
    refine step_map rfl ?_
    walk_at "mq"
    exact is_name_ok (G.name a ha)
theorem noRef_dS (d : Pic.Deed Str) : noRef (dS d) = true := rfl
theorem noRef_rowT (r : List (Pic.Deed Str)) : noRef (rowT r) = true := by
  show noRefs (r.map dS) = true
  exact noRefs_map fun d _ => noRef_dS d
theorem noRef_rowL (r : List (Pic.Deed Str)) : noRef (rowL r) = true := by
  show noRefs (r.map dS) = true
  exact noRefs_map fun d _ => noRef_dS d
theorem noRef_dicT {ns : List Str} {R : Str → List (Pic.Deed Str)} : noRef (dicT ns R) = true := by
  show (noRefs (ns.map .str) && noRefs (ns.map fun a => rowT (R a))) = true
  rw [noRefs_map fun _ _ => rfl, noRefs_map fun a _ => noRef_rowT _]
  rfl
theorem kept_rows_ok (G : GoodRows ns R) : callF T W0 (n + 1) 5 [dicL ns R] = M.ret (dicT ns R) := by
  have few := G.few
  refine call_ret (df := d_kept_rows) PT.at_kept_rows rfl noRef_dicT ?_
  unfold d_kept_rows dicL dicT
  walk_at "mq"
  simp only [e_dc, i_vl, e_val]
  walk_at "mq"
  simp only [q_sortd (show ns.length < 64 by omega), r_bnd, q_itr, G.srt]
  rw [dc_names MV.str (fun a => rowT (R a)) (by refine lt_W0 ?_; omega) (by omega) G.nd (fun _ _ => noRef_rowT _)]
  · simp only [r_bnd, after_rt, retP_rt]
  · intro a ha
    refine step_dc rfl ?_ ?_
    · walk_at "mq"
    · walk_at "mq"
      simp only [q_idxN (f := fun a => rowL (R a)) ha, r_bnd]
      rfl
/-! ### places -/
def kk (k : Bool) : Str := if k then sayS else getS
theorem kk_lay (k : Bool) : PyData.canLay0 (.str (kk k)) = true := by cases k <;> decide +kernel
theorem kk_inj {k j : Bool} : kk k = kk j ↔ k = j := by
  cases k <;> cases j <;> first | exact ⟨fun _ => rfl, fun _ => rfl⟩ | exact ⟨fun h => absurd h (by decide +kernel), fun h => nomatch h⟩
/-- the places of the deeds of a kind with an other hand -/
def plc (r : List (Pic.Deed Str)) (k : Bool) (b : Str) : List Nat := (((List.range r.length).zip r).filter fun p => p.2.say == k && decide (p.2.other = b)).map (·.1)
theorem q_enT {xs : List (Pic.Deed Str)} : enV (.tup (xs.map dS)) = M.ret (.vs (((List.range xs.length).zip xs).map fun p => .tup [.int (p.1 : Int), dS p.2])) := by
  funext h
  show Res.ok (Itv.vs (((List.range (xs.map dS).length).zip (xs.map dS)).map fun p => MV.tup [.int (p.1 : Int), p.2])) h = _
  rw [List.length_map, List.zip_map_right, List.map_map]
  rfl
theorem q_slc2 {a b c : MV} (k : noRef (.tup [a, b]) = true) : bvV (slcV (.tup [a, b, c]) none (some 2)) = M.ret (.tup [a, b]) := by
  have e : slcV (.tup [a, b, c]) none (some 2) = M.ret (.tup [a, b]) := rfl
  rw [e]
  exact bv_ret k
theorem places_ok {a b : Str} {k : Bool} (G : GoodRows ns R) (ha : a ∈ ns) (hb : goodName b = true) : callF T W0 (n + 1) 6 [dicT ns R, .str a, .str (kk k), .str b] = M.ret (.ro ((plc (R a) k b).map fun (i : Nat) => .int (i : Int))) := by
  have hl := G.len a ha
  have hz : ((List.range (R a).length).zip (R a)).length ≤ 100 := by rw [List.length_zip, List.length_range]; omega
  refine call_ret (df := d_places_of) PT.at_places_of rfl (noRefs_map fun _ _ => rfl) ?_
  unfold d_places_of dicT
  walk_at "mq"
  simp only [q_idxN (f := fun a => rowT (R a)) ha, r_bnd]
  unfold rowT
  simp only [q_enT, r_bnd]
  rw [lc_filter (fun p : Nat × Pic.Deed Str => .tup [.int (p.1 : Int), dS p.2]) (fun p => p.2.say == k && decide (p.2.other = b)) (fun p => .int (p.1 : Int)) (by refine lt_W0 ?_; omega) (by omega) (fun _ _ => rfl)]
  · simp only [r_bnd, after_rt, retP_rt]
    unfold plc
    rw [List.map_map]
    rfl
  · intro p hp
    have hd : p.2 ∈ R a := (List.of_mem_zip hp).2
    obtain ⟨g, _, _⟩ := G.deed a ha p.2 hd
    refine step_test (b := p.2.say == k && decide (p.2.other = b)) (ρ' := _) (y := .int (p.1 : Int)) rfl ?_ fun _ => ?_
    · unfold dS
      walk_at "mq"
      simp only [q_slc2 (a := .str (kS p.2)) (b := .str p.2.other) (c := .str p.2.w) rfl, r_bnd, q_tup2]
      exact q_eqp (n := 1) (m := 1) (pl_tup (by unfold pls; rw [pl_str (kS_lay p.2)]; unfold pls; rw [pl_str (good_lay g.1)]; rfl)) (pl_tup (by unfold pls; rw [pl_str (kk_lay k)]; unfold pls; rw [pl_str (good_lay hb)]; rfl)) (by omega) (by omega) (by
        rw [Bool.and_eq_true_iff, beq_iff_eq, decide_eq_true_eq]
        constructor
        · rintro ⟨h1, h2⟩
          unfold kS kk
          rw [h1, h2]
        · intro h
          have h0 := MV.tup.inj h
          have h1 := List.cons.inj h0
          have h2 := List.cons.inj h1.2
          exact ⟨kk_inj.mp (MV.str.inj h1.1), MV.str.inj h2.1⟩)
    · walk_at "mq"
/-! ### what was said, what was got -/
def d0 : Pic.Deed Str := ⟨true, ⟨#[]⟩, ⟨#[]⟩⟩
theorem plc_map {β : Type} (g : Pic.Deed Str → β) (r : List (Pic.Deed Str)) (k : Bool) (b : Str) : (plc r k b).map (fun i => g (r.getD i d0)) = (Pic.sel r k b).map g := by
  unfold plc Pic.sel
  rw [List.map_map]
  have e1 : ∀ p ∈ ((List.range r.length).zip r).filter (fun p => p.2.say == k && decide (p.2.other = b)), ((fun i => g (r.getD i d0)) ∘ fun p : Nat × Pic.Deed Str => p.1) p = (g ∘ fun p : Nat × Pic.Deed Str => p.2) p := fun p hp => by
    obtain ⟨j, hj⟩ := List.getElem?_of_mem (List.mem_filter.mp hp).1
    obtain ⟨h1, h2⟩ := List.getElem?_zip_eq_some.mp hj
    have h3 : p.1 = j := by
      rw [List.getElem?_range (by
        have := (List.getElem?_eq_some_iff.mp h1).1
        rwa [List.length_range] at this)] at h1
      exact (Option.some.inj h1).symm
    show g (r.getD p.1 d0) = g p.2
    rw [h3, List.getD_eq_getElem?_getD, h2]
    rfl
  rw [List.map_congr_left e1, ← List.map_map]
  have e2 : ((List.range r.length).zip r).map (fun p => p.2) = r := by
    have := List.map_snd_zip (l₁ := List.range r.length) (l₂ := r) (by rw [List.length_range]; exact Nat.le_refl _)
    exact this
  have e3 : (((List.range r.length).zip r).filter fun p => p.2.say == k && decide (p.2.other = b)).map (fun p => p.2) = (((List.range r.length).zip r).map fun p => p.2).filter fun d => d.say == k && decide (d.other = b) := by
    rw [List.filter_map]
    rfl
  rw [e3, e2]
theorem plc_lt {r : List (Pic.Deed Str)} {k : Bool} {b : Str} {i : Nat} (h : i ∈ plc r k b) : i < r.length := by
  unfold plc at h
  obtain ⟨p, hp, rfl⟩ := List.mem_map.mp h
  have := (List.of_mem_zip (List.mem_filter.mp hp).1).1
  exact List.mem_range.mp this
theorem plc_len (r : List (Pic.Deed Str)) (k : Bool) (b : Str) : (plc r k b).length ≤ r.length := by
  unfold plc
  rw [List.length_map]
  refine Nat.le_trans (List.length_filter_le _ _) ?_
  rw [List.length_zip, List.length_range]
  omega
theorem at_nat {α : Type} {xs : List α} {i : Nat} {x : α} (h : xs[i]? = some x) : L2.atI xs (i : Int) = some x := by
  unfold L2.atI L2.ixN
  rw [if_pos (by omega), if_pos (by
    have := (List.getElem?_eq_some_iff.mp h).1
    omega)]
  simpa using h
theorem idx_row {r : List (Pic.Deed Str)} {i : Nat} (h : i < r.length) : idxV (.tup (r.map dS)) (.int (i : Int)) = M.ret (dS (r.getD i d0)) := by
  refine q_idxt (at_nat ?_)
  rw [List.getElem?_map, List.getElem?_eq_getElem h, List.getD_eq_getElem?_getD, List.getElem?_eq_getElem h]
  rfl
def wds (r : List (Pic.Deed Str)) (k : Bool) (b : Str) : MV := .tup ((Pic.sel r k b).map fun d => .str d.w)
theorem noRef_wds {r : List (Pic.Deed Str)} {k : Bool} {b : Str} : noRef (wds r k b) = true := by
  show noRefs _ = true
  exact noRefs_map fun _ _ => rfl
theorem said_ok {a b : Str} (G : GoodRows ns R) (ha : a ∈ ns) (hb : goodName b = true) : callF T W0 (n + 2) 7 [dicT ns R, .str a, .str b] = M.ret (wds (R a) true b) := by
  have hl := G.len a ha
  have hp := plc_len (R a) true b
  refine call_ret (df := d_said) PT.at_said rfl noRef_wds ?_
  unfold d_said
  walk_at "mq"
  have pl := places_ok (T := T) (W0 := W0) (n := n) (k := true) G ha hb
  unfold kk sayS at pl
  rw [if_pos rfl] at pl
  simp only [pl, r_bnd, q_itr]
  rw [lc_map (fun i : Nat => .int (i : Int)) (fun i => .str ((R a).getD i d0).w) (by refine lt_W0 ?_; omega) (by omega) (fun _ _ => rfl)]
  · simp only [r_bnd, q_tupr, after_rt, retP_rt]
    unfold wds
    rw [plc_map (fun d => MV.str d.w)]
  · intro i hi
    refine step_map rfl ?_
    walk_at "mq"
    unfold dicT
    simp only [q_idxN (f := fun a => rowT (R a)) ha, r_bnd]
    unfold rowT
    rw [idx_row (plc_lt hi)]
    rfl
theorem got_ok {a b : Str} (G : GoodRows ns R) (ha : goodName a = true) (hb : b ∈ ns) : callF T W0 (n + 2) 8 [dicT ns R, .str a, .str b] = M.ret (wds (R b) false a) := by
  have hl := G.len b hb
  have hp := plc_len (R b) false a
  refine call_ret (df := d_got) PT.at_got rfl noRef_wds ?_
  unfold d_got
  walk_at "mq"
  have pl := places_ok (T := T) (W0 := W0) (n := n) (k := false) G hb ha
  unfold kk getS at pl
  rw [if_neg Bool.false_ne_true] at pl
  simp only [pl, r_bnd, q_itr]
  rw [lc_map (fun i : Nat => .int (i : Int)) (fun i => .str ((R b).getD i d0).w) (by refine lt_W0 ?_; omega) (by omega) (fun _ _ => rfl)]
  · simp only [r_bnd, q_tupr, after_rt, retP_rt]
    unfold wds
    rw [plc_map (fun d => MV.str d.w)]
  · intro i hi
    refine step_map rfl ?_
    walk_at "mq"
    unfold dicT
    simp only [q_idxN (f := fun a => rowT (R a)) hb, r_bnd]
    unfold rowT
    rw [idx_row (plc_lt hi)]
    rfl
/-! ### every word is heard -/
/-- per pair the words got are the words said -/
def Heard (ns : List Str) (R : Str → List (Pic.Deed Str)) : Prop := ∀ a ∈ ns, ∀ b ∈ ns, (Pic.sel (R a) true b).map (·.w) = (Pic.sel (R b) false a).map (·.w)
theorem wds_eq {a b : Str} (H : Heard ns R) (ha : a ∈ ns) (hb : b ∈ ns) : wds (R a) true b = wds (R b) false a := by
  unfold wds
  have := congrArg (List.map MV.str) (H a ha b hb)
  rw [List.map_map, List.map_map] at this
  exact congrArg MV.tup this
theorem pls_wds (G : GoodRows ns R) {a : Str} (ha : a ∈ ns) {k : Bool} {b : Str} {j : Nat} : pl (j + 1) (wds (R a) k b) = true := by
  unfold wds
  refine pl_tup ?_
  have : ∀ ds : List (Pic.Deed Str), (∀ d ∈ ds, goodDeed d) → pls j (ds.map fun d => .str d.w) = true := by
    intro ds
    induction ds with
    | nil => intro _; cases j <;> rfl
    | cons d r ih =>
      intro h
      show pls j (.str d.w :: r.map fun d => .str d.w) = true
      unfold pls
      rw [pl_str (good_lay (h d List.mem_cons_self).2), ih fun e he => h e (List.mem_cons_of_mem _ he)]
      rfl
  exact this _ fun d hd => (G.deed a ha d (List.mem_filter.mp hd).1).1
theorem unheard_ok (G : GoodRows ns R) (H : Heard ns R) : callF T W0 (n + 3) 9 [dicT ns R, .bl false] = M.ret .non := by
  have few := G.few
  have itd : itV (dicT ns R) = M.ret (.vs (ns.map .str)) := rfl
  refine call_run (df := d_unheard) PT.at_unheard rfl rfl ?_
  unfold d_unheard
  walk_at "mq"
  simp only [itd, r_bnd]
  refine Run.bnd (Run.bnd (run_for (xs := ns.map .str) (Q := fun p => p.2 = .nx) (fun _ ρ => ∃ o1 o2 o3 o4, ρ = [some (dicT ns R), some (.bl false), o1, o2, o3, o4]) ⟨_, _, _, _, rfl⟩ (by rw [List.length_map]; refine lt_W0 ?_; omega) (fun i x ρ hx hi => ?_) (fun ρ hi => rfl)) (P := fun p => p.2 = .rt .non) fun p q => ?_) fun p q => ?_
  · obtain ⟨o1, o2, o3, o4, rfl⟩ := hi
    rw [List.getElem?_map] at hx
    obtain ⟨a, ha, rfl⟩ := Option.map_eq_some_iff.mp hx
    have ha := List.mem_of_getElem? ha
    walk_at "mq"
    simp only [run_ret]
    walk_at "mq"
    simp only [itd, r_bnd]
    refine Run.bnd (run_for (xs := ns.map .str) (Q := fun p => ∃ p1 p2 p3, p = ([some (dicT ns R), some (.bl false), some (.str a), p1, p2, p3], .nx)) (fun _ ρ => ∃ p1 p2 p3, ρ = [some (dicT ns R), some (.bl false), some (.str a), p1, p2, p3]) ⟨_, _, _, rfl⟩ (by rw [List.length_map]; refine lt_W0 ?_; omega) (fun i x ρ hx hi => ?_) (fun ρ hi => ?_)) fun p q => ?_
    · obtain ⟨p1, p2, p3, rfl⟩ := hi
      rw [List.getElem?_map] at hx
      obtain ⟨b, hb, rfl⟩ := Option.map_eq_some_iff.mp hx
      have hb := List.mem_of_getElem? hb
      walk_at "mq"
      simp only [run_ret]
      walk_at "mq"
      simp only [said_ok (T := T) (W0 := W0) (n := n) G ha (G.name b hb), got_ok (T := T) (W0 := W0) (n := n) G (G.name a ha) hb, r_bnd, after_nx]
      walk_at "mq"
      simp only [q_nep (n := 1) (m := 1) (b := true) (pls_wds G hb) (pls_wds G ha) (by omega) (by omega) ⟨fun _ => (wds_eq H ha hb).symm, fun _ => rfl⟩, r_bnd, Bool.not_true, Bool.false_eq_true, if_false]
      simp only [sl_nil, after_nx, run_ret]
      exact ⟨_, _, _, rfl⟩
    · obtain ⟨p1, p2, p3, rfl⟩ := hi
      exact ⟨p1, p2, p3, rfl⟩
    · obtain ⟨p1, p2, p3, rfl⟩ := q
      simp only [sl_nil, after_nx, run_ret]
      exact ⟨_, _, _, _, rfl⟩
  · obtain ⟨ρ, fl⟩ := p
    have q : fl = .nx := q
    subst q
    simp only [after_nx]
    walk_at "mq"
    simp only [run_ret]
  · obtain ⟨ρ, fl⟩ := p
    have q : fl = .rt .non := q
    subst q
    simp only [retP_rt, run_ret]
end
end
end MPV
/-! k22: places of deeds, counted. -/
namespace MPV
open PySem hiding Env
open MP
def isD (k : Bool) (b : Str) (d : Pic.Deed Str) : Bool := d.say == k && decide (d.other = b)
theorem plc_snoc (r : List (Pic.Deed Str)) (d : Pic.Deed Str) (k : Bool) (b : Str) : plc (r ++ [d]) k b = plc r k b ++ (if isD k b d then [r.length] else []) := by
  unfold plc
  rw [List.length_append, List.length_singleton, List.range_succ, List.zip_append (by rw [List.length_range]), List.filter_append, List.map_append]
  congr 1
  show (([(r.length, d)] : List (Nat × Pic.Deed Str)).filter fun p => p.2.say == k && decide (p.2.other = b)).map (·.1) = _
  have e : (([(r.length, d)] : List (Nat × Pic.Deed Str)).filter fun p => p.2.say == k && decide (p.2.other = b)) = if isD k b d = true then [(r.length, d)] else [] := by
    rw [List.filter_cons]
    rfl
  rw [e]
  cases isD k b d <;> rfl
theorem cnt_snoc (r : List (Pic.Deed Str)) (d : Pic.Deed Str) (k : Bool) (b : Str) : Pic.cnt (r ++ [d]) k b = Pic.cnt r k b + (if isD k b d then 1 else 0) := by
  unfold Pic.cnt Pic.sel
  rw [List.filter_append, List.length_append]
  congr 1
  have e : (([d] : List (Pic.Deed Str)).filter fun d => d.say == k && decide (d.other = b)) = if isD k b d = true then [d] else [] := by
    rw [List.filter_cons]
    rfl
  rw [e]
  cases isD k b d <;> rfl
theorem snoc_ind {α : Type} {P : List α → Prop} (h0 : P []) (h1 : ∀ r d, P r → P (r ++ [d])) : ∀ r, P r := by
  intro r
  have : ∀ n (r : List α), r.length = n → P r := by
    intro n
    induction n with
    | zero => intro r h; rw [List.length_eq_zero_iff.mp h]; exact h0
    | succ n ih =>
      intro r h
      have e : r = r.take n ++ [r[n]] := by rw [List.take_append_getElem, List.take_of_length_le (by omega)]
      rw [e]
      exact h1 _ _ (ih _ (by rw [List.length_take]; omega))
  exact this r.length r rfl
theorem plc_cnt (k : Bool) (b : Str) : ∀ r : List (Pic.Deed Str), (plc r k b).length = Pic.cnt r k b :=
  snoc_ind rfl fun r d ih => by
    rw [plc_snoc, cnt_snoc, List.length_append, ih]
    cases isD k b d <;> rfl
theorem plc_mem (k : Bool) (b : Str) (p : Nat) : ∀ r : List (Pic.Deed Str), p ∈ plc r k b ↔ ∃ d, r[p]? = some d ∧ isD k b d = true :=
  snoc_ind ⟨(fun h => by cases h), (fun ⟨d, h, _⟩ => by cases h)⟩ fun r d ih => by
    rw [plc_snoc, List.mem_append, ih]
    constructor
    · rintro (⟨e, h1, h2⟩ | h)
      · exact ⟨e, by rw [List.getElem?_append_left (List.getElem?_eq_some_iff.mp h1).1]; exact h1, h2⟩
      · cases hd : isD k b d with
        | false => rw [hd] at h; cases h
        | true =>
          rw [hd, if_pos rfl] at h
          have : p = r.length := List.mem_singleton.mp h
          subst this
          exact ⟨d, by rw [List.getElem?_append_right (Nat.le_refl _), Nat.sub_self]; rfl, hd⟩
    · rintro ⟨e, h1, h2⟩
      by_cases hp : p < r.length
      · rw [List.getElem?_append_left hp] at h1
        exact .inl ⟨e, h1, h2⟩
      · have hl := (List.getElem?_eq_some_iff.mp h1).1
        rw [List.length_append, List.length_singleton] at hl
        have : p = r.length := by omega
        subst this
        rw [List.getElem?_append_right (Nat.le_refl _), Nat.sub_self] at h1
        cases h1
        rw [if_pos h2]
        exact .inr (List.mem_singleton.mpr rfl)
/-- the n-th such deed stands at p: n of them stand before -/
theorem plc_idx (k : Bool) (b : Str) (n p : Nat) : ∀ r : List (Pic.Deed Str), (plc r k b)[n]? = some p → Pic.cnt (r.take p) k b = n :=
  snoc_ind (fun h => by cases h) fun r d ih h => by
    rw [plc_snoc] at h
    by_cases hn : n < (plc r k b).length
    · rw [List.getElem?_append_left hn] at h
      have hp := plc_lt (List.mem_of_getElem? h)
      rw [List.take_append_of_le_length (by omega)]
      exact ih h
    · rw [List.getElem?_append_right (by omega)] at h
      cases hd : isD k b d with
      | false => rw [hd] at h; cases h
      | true =>
        rw [hd, if_pos rfl] at h
        have h2 := (List.getElem?_eq_some_iff.mp h).1
        rw [List.length_singleton] at h2
        have hn2 : n = (plc r k b).length := by omega
        subst hn2
        rw [Nat.sub_self] at h
        cases h
        rw [List.take_append_of_le_length (Nat.le_refl _), List.take_length]
        exact (plc_cnt k b r).symm
/-- .. it is done when c deeds are done, iff more than n of them are -/
theorem plc_lt_iff {k : Bool} {b : Str} {n p c : Nat} {r : List (Pic.Deed Str)} (h : (plc r k b)[n]? = some p) : p < c ↔ n < Pic.cnt (r.take c) k b := by
  have e := plc_idx k b n p r h
  obtain ⟨d, h1, h2⟩ := (plc_mem k b p r).mp (List.mem_of_getElem? h)
  have hp := (List.getElem?_eq_some_iff.mp h1).1
  have hd : r[p] = d := (List.getElem?_eq_some_iff.mp h1).2
  have step : Pic.cnt (r.take (p + 1)) k b = n + 1 := by
    rw [← List.take_append_getElem hp, cnt_snoc, e, hd, h2]
    rfl
  constructor
  · intro hc
    have := Pic.cnt_mono (r := r) (k := k) (b := b) (m := p + 1) (n := c) (by omega)
    omega
  · intro hc
    apply Classical.byContradiction
    intro hn
    have := Pic.cnt_mono (r := r) (k := k) (b := b) (m := c) (n := p) (by omega)
    omega
end MPV
/-! k22: dicts by (hand, place). -/
namespace MPV
open PySem hiding Env
open MP LawT
/-- a key -/
def kT (h : Str) (p : Int) : MV := .tup [.str h, .int p]
def KT' (kvs : List (MV × MV)) : Prop := ∀ e ∈ kvs, ∃ h p, e.1 = kT h p
theorem kEq_kT {h h' : Str} {p p' : Int} : kEq (kT h p) (kT h' p') = (decide (h = h') && decide (p = p')) := by
  show (decide (h = h') && (decide (p = p') && true)) = _
  rw [Bool.and_true]
theorem find_put {h o : Str} {p q : Int} {v : MV} : ∀ {kvs : List (MV × MV)}, KT' kvs → findM (kT h p) (putM (kT o q) v kvs) = if o = h ∧ q = p then some v else findM (kT h p) kvs := by
  intro kvs hk
  have key : ∀ kvs : List (MV × MV), KT' kvs → (kvs.any fun e => kEq e.1 (kT o q)) = false → findM (kT h p) (kvs ++ [(kT o q, v)]) = if o = h ∧ q = p then some v else findM (kT h p) kvs := by
    intro kvs
    induction kvs with
    | nil =>
      intro _ _
      show (if kEq (kT o q) (kT h p) then some v else none) = _
      rw [kEq_kT]
      by_cases h1 : o = h <;> by_cases h2 : q = p <;> simp [h1, h2, findM]
    | cons e r ih =>
      intro hk ha
      obtain ⟨h1, p1, e1⟩ := hk e List.mem_cons_self
      rw [List.any_cons, Bool.or_eq_false_iff] at ha
      obtain ⟨a1, a2⟩ := ha
      show (if kEq e.1 (kT h p) then some e.2 else findM (kT h p) (r ++ [(kT o q, v)])) = if o = h ∧ q = p then some v else (if kEq e.1 (kT h p) then some e.2 else findM (kT h p) r)
      rw [ih (fun x hx => hk x (List.mem_cons_of_mem _ hx)) a2, e1, kEq_kT]
      rw [e1, kEq_kT] at a1
      by_cases z : o = h ∧ q = p
      · obtain ⟨rfl, rfl⟩ := z
        rw [a1]
        simp
      · rw [if_neg z, if_neg z]
  have key2 : ∀ kvs : List (MV × MV), KT' kvs → (kvs.any fun e => kEq e.1 (kT o q)) = true → findM (kT h p) (kvs.map fun e => if kEq e.1 (kT o q) then (e.1, v) else e) = if o = h ∧ q = p then some v else findM (kT h p) kvs := by
    intro kvs
    induction kvs with
    | nil => intro _ ha; cases ha
    | cons e r ih =>
      intro hk ha
      obtain ⟨h1, p1, e1⟩ := hk e List.mem_cons_self
      have hr : KT' r := fun x hx => hk x (List.mem_cons_of_mem _ hx)
      have same : ∀ kvs : List (MV × MV), KT' kvs → (kvs.any fun e => kEq e.1 (kT o q)) = false → (kvs.map fun e => if kEq e.1 (kT o q) then (e.1, v) else e) = kvs := by
        intro kvs
        induction kvs with
        | nil => intro _ _; rfl
        | cons e r ih =>
          intro hk ha
          rw [List.any_cons, Bool.or_eq_false_iff] at ha
          rw [List.map_cons, ih (fun x hx => hk x (List.mem_cons_of_mem _ hx)) ha.2, ha.1]
          rfl
      have rest : findM (kT h p) (r.map fun e => if kEq e.1 (kT o q) then (e.1, v) else e) = if (o = h ∧ q = p) ∧ (r.any fun e => kEq e.1 (kT o q)) = true then some v else findM (kT h p) r := by
        by_cases z : (r.any fun e => kEq e.1 (kT o q)) = true
        · rw [ih hr z]
          by_cases y : o = h ∧ q = p
          · rw [if_pos y, if_pos ⟨y, z⟩]
          · rw [if_neg y, if_neg fun w => y w.1]
        · rw [same r hr (by simpa using z), if_neg fun w => z w.2]
      show findM (kT h p) ((if kEq e.1 (kT o q) then (e.1, v) else e) :: r.map fun e => if kEq e.1 (kT o q) then (e.1, v) else e) = if o = h ∧ q = p then some v else (if kEq e.1 (kT h p) then some e.2 else findM (kT h p) r)
      rw [e1, kEq_kT]
      by_cases z : h1 = o ∧ p1 = q
      · obtain ⟨rfl, rfl⟩ := z
        rw [show (decide (h1 = h1) && decide (p1 = p1)) = true from by simp, if_pos rfl]
        show (if kEq (kT h1 p1) (kT h p) then some v else findM (kT h p) (r.map fun e => if kEq e.1 (kT h1 p1) then (e.1, v) else e)) = _
        rw [rest, kEq_kT]
        by_cases y : h1 = h ∧ p1 = p
        · obtain ⟨rfl, rfl⟩ := y
          simp
        · have : (decide (h1 = h) && decide (p1 = p)) = false := by
            rw [Bool.and_eq_false_iff, decide_eq_false_iff_not, decide_eq_false_iff_not]
            by_cases a : h1 = h
            · exact .inr fun b => y ⟨a, b⟩
            · exact .inl a
          rw [this, if_neg Bool.false_ne_true, if_neg (fun w => y w.1), if_neg y, if_neg Bool.false_ne_true]
      · have hz : (decide (h1 = o) && decide (p1 = q)) = false := by
          rw [Bool.and_eq_false_iff, decide_eq_false_iff_not, decide_eq_false_iff_not]
          by_cases a : h1 = o
          · exact .inr fun b => z ⟨a, b⟩
          · exact .inl a
        rw [hz, if_neg Bool.false_ne_true]
        have hr2 : (r.any fun e => kEq e.1 (kT o q)) = true := by
          rw [List.any_cons, e1, kEq_kT, hz, Bool.false_or] at ha
          exact ha
        show (if kEq e.1 (kT h p) then some e.2 else findM (kT h p) (r.map fun e => if kEq e.1 (kT o q) then (e.1, v) else e)) = _
        rw [rest, e1, kEq_kT]
        by_cases y : o = h ∧ q = p
        · obtain ⟨rfl, rfl⟩ := y
          rw [hz, if_neg Bool.false_ne_true, if_pos ⟨⟨rfl, rfl⟩, hr2⟩, if_pos ⟨rfl, rfl⟩]
        · have e5 : ¬((o = h ∧ q = p) ∧ (r.any fun e => kEq e.1 (kT o q)) = true) := fun w => y w.1
          rw [if_neg e5, if_neg y]
  unfold putM
  by_cases ha : (kvs.any fun e => kEq e.1 (kT o q)) = true
  · rw [if_pos ha]
    exact key2 kvs hk ha
  · rw [if_neg ha]
    exact key kvs hk (by simpa using ha)
theorem put_KT {o : Str} {q : Int} {v : MV} {kvs : List (MV × MV)} (hk : KT' kvs) : KT' (putM (kT o q) v kvs) := by
  unfold putM
  split
  · intro e he
    obtain ⟨x, hx, rfl⟩ := List.mem_map.mp he
    show ∃ h p, (if kEq x.1 (kT o q) then (x.1, v) else x).1 = kT h p
    split
    · exact hk x hx
    · exact hk x hx
  · intro e he
    rcases List.mem_append.mp he with h | h
    · exact hk e h
    · rw [List.mem_singleton.mp h]
      exact ⟨o, q, rfl⟩
theorem put_len {k v : MV} {kvs : List (MV × MV)} : (putM k v kvs).length ≤ kvs.length + 1 := by
  unfold putM
  split
  · rw [List.length_map]; omega
  · rw [List.length_append]; exact Nat.le_refl _
end MPV
/-! k22: which say each get hears. -/
namespace MPV
open PySem hiding Env
open MP LawT
/-- what stands at a spot: a get's say -/
def cell (R : Str → List (Pic.Deed Str)) (h : Str) (p : Nat) : Option (Str × Nat) := match (R h)[p]? with
  | some d => if d.say then none else ((plc (R d.other) true h)[Pic.cnt ((R h).take p) false d.other]?).map fun q => (d.other, q)
  | none => none
def encC (c : Str × Nat) : MV := .tup [.str c.1, .int (c.2 : Int)]
/-- the dict so far: E the spots done -/
structure Need (R : Str → List (Pic.Deed Str)) (E : Str → Nat → Prop) (kvs : List (MV × MV)) : Prop where
  kt : KT' kvs
  vals : ∀ e ∈ kvs, ∃ c, e.2 = encC c
  at_ : ∀ h p, E h p → findM (kT h (p : Int)) kvs = (cell R h p).map encC ∧ (cell R h p).isSome = true
  no : ∀ h p, ¬ E h p → findM (kT h (p : Int)) kvs = none
theorem need_nil {R : Str → List (Pic.Deed Str)} {E : Str → Nat → Prop} (h : ∀ a p, ¬ E a p) : Need R E [] := ⟨(fun _ h => by cases h), (fun _ h => by cases h), fun a p e => absurd e (h a p), fun _ _ _ => rfl⟩
theorem vals_put {k : MV} {c : Str × Nat} {kvs : List (MV × MV)} (h : ∀ e ∈ kvs, ∃ c, e.2 = encC c) : ∀ e ∈ putM k (encC c) kvs, ∃ c, e.2 = encC c := by
  intro e he
  unfold putM at he
  split at he
  · obtain ⟨y, hy, rfl⟩ := List.mem_map.mp he
    by_cases z : kEq y.1 k = true
    · rw [if_pos z]; exact ⟨c, rfl⟩
    · rw [if_neg z]; exact h y hy
  · rcases List.mem_append.mp he with z | z
    · exact h e z
    · rw [List.mem_singleton.mp z]; exact ⟨c, rfl⟩
theorem nr_vals {kvs : List (MV × MV)} (h : ∀ e ∈ kvs, ∃ c, e.2 = encC c) : noRefs (kvs.map (·.2)) = true := by
  induction kvs with
  | nil => rfl
  | cons e r ih =>
    obtain ⟨c, e1⟩ := h e List.mem_cons_self
    show (noRef e.2 && noRefs (r.map (·.2))) = true
    rw [e1, ih fun x hx => h x (List.mem_cons_of_mem _ hx)]
    rfl
theorem keys_KT {kvs : List (MV × MV)} (h : KT' kvs) : noRefs (kvs.map (·.1)) = true := by
  induction kvs with
  | nil => rfl
  | cons e r ih =>
    obtain ⟨a, p, e1⟩ := h e List.mem_cons_self
    show (noRef e.1 && noRefs (r.map (·.1))) = true
    rw [e1, ih fun x hx => h x (List.mem_cons_of_mem _ hx)]
    rfl
/-- one more spot -/
theorem Need.put {R : Str → List (Pic.Deed Str)} {E E' : Str → Nat → Prop} {kvs : List (MV × MV)} (N : Need R E kvs) {o : Str} {q : Nat} {c : Str × Nat} (hc : cell R o q = some c) (he : ∀ h p, E' h p ↔ E h p ∨ (h = o ∧ p = q)) : Need R E' (putM (kT o (q : Int)) (encC c) kvs) := by
  refine ⟨put_KT N.kt, vals_put N.vals, fun h p e => ?_, fun h p e => ?_⟩
  · rw [find_put N.kt]
    by_cases z : o = h ∧ (q : Int) = (p : Int)
    · obtain ⟨rfl, z⟩ := z
      have : q = p := by omega
      subst this
      rw [if_pos ⟨rfl, rfl⟩, hc]
      exact ⟨rfl, rfl⟩
    · rw [if_neg z]
      refine N.at_ h p (((he h p).mp e).resolve_right fun w => z ⟨w.1.symm, by rw [w.2]⟩)
  · rw [find_put N.kt]
    have z : ¬(o = h ∧ (q : Int) = (p : Int)) := fun z => e ((he h p).mpr (.inr ⟨z.1.symm, by omega⟩))
    rw [if_neg z]
    exact N.no h p fun w => e ((he h p).mpr (.inl w))
end MPV
/-! k22: says_of_gets. -/
namespace MPV
open PySem hiding Env
open MP LawT
variable {T : List Def} {W0 : Nat} [PT T] [Wd W0]
local macro_rules | `(tactic| walk_at "mr") => `(tactic| simp only [bnd_assoc, e_dctT, sl_cons, sl_nil, s_asg, s_par, s_par3, s_aug, s_ex, s_ret, s_retN, s_ifs, s_fors, s_whl, s_pas, t_bop, t_not, t_var, t_cmp, t_chain, t_isK, t_call, t_bi, t_isi, t_idx, bt_one, bt_cons, e_var, e_lit, e_glo, e_tup, e_lst, e_dct, e_bin, e_neg, e_cmp, e_chain, e_isK, e_bop, e_not, e_ife, e_call, e_callk, e_bi, e_isi, e_mth, e_idx, e_slc, e_lc, e_val, e_fld, e_con, el_nil, el_cons, eb_one, eb_cons, eo_no, eo_so, ec_no, ec_so, g_nm, g_tp, g_sb, gl_nil, gl_cons, i_vl, i_rg1, i_rg2, i_en, i_its, i_vas, i_zp, after_nx, after_rt, r_bnd, r_opt, w_nil, w_cons, q_inS, retP_nx, retP_rt, List.replicate_zero, Nat.sub_self, q_add, q_sub, q_neg, q_not, q_bop, q_lt, q_le, q_gt, q_ge, q_eqs, q_nes, q_trub, q_int, q_intb, q_lent, q_lenr, q_idxt0, q_idxt1, q_idxt2, q_isi1, q_isi2, q_itt, q_itr, q_itd, q_its, q_intO, q_tupr, q_tupt, List.map_cons, List.map_nil, List.cons_append, List.nil_append, List.replicate, List.getElem?_cons_zero, List.getElem?_cons_succ, List.set_cons_zero, List.set_cons_succ, if_true, if_false, Bool.false_eq_true, b00, b01, b10, b11, Bool.not_true, Bool.not_false, Bool.true_or, Bool.or_true, Bool.false_or, Bool.or_false])
section
variable {n : Nat} {ns : List Str} {R : Str → List (Pic.Deed Str)}
theorem Need.congr {R : Str → List (Pic.Deed Str)} {E E' : Str → Nat → Prop} {kvs : List (MV × MV)} (N : Need R E kvs) (k : ∀ h p, E h p ↔ E' h p) : Need R E' kvs := ⟨N.kt, N.vals, fun h p e => N.at_ h p ((k h p).mpr e), fun h p e => N.no h p fun w => e ((k h p).mp w)⟩
/-- the spots of gets whose other hand is in a list -/
def Gets (ns : List Str) (R : Str → List (Pic.Deed Str)) (one : Str → Prop) (h : Str) (p : Nat) : Prop := h ∈ ns ∧ ∃ d, (R h)[p]? = some d ∧ d.say = false ∧ one d.other
theorem q_enI {xs : List Nat} : enV (.ro (xs.map fun (i : Nat) => MV.int (i : Int))) = M.ret (.vs (((List.range xs.length).zip xs).map fun p => .tup [.int (p.1 : Int), .int (p.2 : Int)])) := by
  funext h
  show Res.ok (Itv.vs (((List.range (xs.map fun (i : Nat) => MV.int (i : Int)).length).zip (xs.map fun (i : Nat) => MV.int (i : Int))).map fun p => MV.tup [.int (p.1 : Int), p.2])) h = _
  rw [List.length_map, List.zip_map_right, List.map_map]
  rfl
theorem says_ok (G : GoodRows ns R) (H : Heard ns R) (h : MH) : RunT h ((evSL (callF T W0 (n + 1)) W0 d_says_of_gets.body ([dicT ns R].map some ++ List.replicate (d_says_of_gets.ns - d_says_of_gets.np) none)).bnd retP) [] fun v os => v = .ref (h.length + 0) ∧ ∃ kvs, os = [.dct true kvs] ∧ Need R (Gets ns R fun a => a ∈ ns.take ns.length) kvs ∧ kvs.length ≤ 1600 := by
  have few := G.few
  have itd : itV (dicT ns R) = M.ret (.vs (ns.map .str)) := rfl
  unfold d_says_of_gets
  walk_at "mr"
  refine RunT.bnd (runT_alloc (P := fun v os => v = .ref (h.length + 0) ∧ os = [.dct true []]) _ ⟨rfl, rfl⟩) fun v os q => ?_
  obtain ⟨rfl, rfl⟩ := q
  simp only [itd, r_bnd]
  refine RunT.bnd (runT_for (xs := ns.map .str) (Q := fun p os => ∃ o2 o3 o4 o5 o6 kvs, p = ([some (dicT ns R), some (.ref (h.length + 0)), o2, o3, o4, o5, o6], .nx) ∧ os = [.dct true kvs] ∧ Need R (Gets ns R fun a => a ∈ ns.take ns.length) kvs ∧ kvs.length ≤ 1600)
    (fun i ρ os => ∃ o2 o3 o4 o5 o6 kvs, ρ = [some (dicT ns R), some (.ref (h.length + 0)), o2, o3, o4, o5, o6] ∧ os = [.dct true kvs] ∧ Need R (Gets ns R fun a => a ∈ ns.take i) kvs ∧ kvs.length ≤ i * 400)
    ⟨_, _, _, _, _, _, rfl, rfl, need_nil (fun a p w => by
      obtain ⟨_, d, _, _, w⟩ := w
      rw [List.take_zero] at w
      cases w), Nat.zero_le _⟩ (by rw [List.length_map]; refine lt_W0 ?_; omega) (fun i x ρ os hx hi => ?_) (fun ρ os hi => ?_)) fun p os q => ?_
  · obtain ⟨o2, o3, o4, o5, o6, kvs, rfl, rfl, N, hlen⟩ := hi
    rw [List.getElem?_map] at hx
    obtain ⟨a, hai, rfl⟩ := Option.map_eq_some_iff.mp hx
    have ha := List.mem_of_getElem? hai
    refine runT_ret _ ?_
    walk_at "mr"
    simp only [itd, r_bnd]
    refine RunT.bnd (runT_for (xs := ns.map .str) (Q := fun p os => ∃ o3 o4 o5 o6 kvs, p = ([some (dicT ns R), some (.ref (h.length + 0)), some (.str a), o3, o4, o5, o6], .nx) ∧ os = [.dct true kvs] ∧ Need R (fun x p => Gets ns R (fun z => z ∈ ns.take i) x p ∨ (x ∈ ns.take ns.length ∧ Gets ns R (fun z => z = a) x p)) kvs ∧ kvs.length ≤ i * 400 + 400)
      (fun j ρ os => ∃ o3 o4 o5 o6 kvs, ρ = [some (dicT ns R), some (.ref (h.length + 0)), some (.str a), o3, o4, o5, o6] ∧ os = [.dct true kvs] ∧ Need R (fun x p => Gets ns R (fun z => z ∈ ns.take i) x p ∨ (x ∈ ns.take j ∧ Gets ns R (fun z => z = a) x p)) kvs ∧ kvs.length ≤ i * 400 + j * 100)
      ⟨_, _, _, _, _, rfl, rfl, N.congr (fun x p => ⟨.inl, fun w => w.resolve_right fun y => by
        obtain ⟨y, _⟩ := y
        rw [List.take_zero] at y
        cases y⟩), by omega⟩ (by rw [List.length_map]; refine lt_W0 ?_; omega) (fun j x ρ os hx hi => ?_) (fun ρ os hi => ?_)) fun p os q => ?_
    · obtain ⟨o3, o4, o5, o6, kvs, rfl, rfl, N, hlen⟩ := hi
      rw [List.getElem?_map] at hx
      obtain ⟨b, hbj, rfl⟩ := Option.map_eq_some_iff.mp hx
      have hb := List.mem_of_getElem? hbj
      have hin : i < ns.length := (List.getElem?_eq_some_iff.mp hai).1
      have hjn : j < ns.length := (List.getElem?_eq_some_iff.mp hbj).1
      refine runT_ret _ ?_
      have pl1 := places_ok (T := T) (W0 := W0) (n := n) (k := true) G ha (G.name b hb)
      have pl2 := places_ok (T := T) (W0 := W0) (n := n) (k := false) G hb (G.name a ha)
      unfold kk sayS at pl1
      unfold kk getS at pl2
      rw [if_pos rfl] at pl1
      rw [if_neg Bool.false_ne_true] at pl2
      walk_at "mr"
      simp only [pl1, pl2, r_bnd, q_enI]
      have hL : (plc (R b) false a).length ≤ 100 := Nat.le_trans (plc_len _ _ _) (G.len b hb)
      have hLL : (plc (R a) true b).length = (plc (R b) false a).length := by
        rw [plc_cnt, plc_cnt]
        have := congrArg List.length (H a ha b hb)
        rw [List.length_map, List.length_map] at this
        exact this
      refine RunT.bnd (runT_for (xs := ((List.range (plc (R b) false a).length).zip (plc (R b) false a)).map fun p => MV.tup [.int (p.1 : Int), .int (p.2 : Int)]) (Q := fun p os => ∃ o5 o6 kvs, p = ([some (dicT ns R), some (.ref (h.length + 0)), some (.str a), some (.str b), some (.ro ((plc (R a) true b).map fun (i : Nat) => .int (i : Int))), o5, o6], .nx) ∧ os = [.dct true kvs] ∧ Need R (fun x p => (Gets ns R (fun z => z ∈ ns.take i) x p ∨ (x ∈ ns.take j ∧ Gets ns R (fun z => z = a) x p)) ∨ (x = b ∧ p ∈ (plc (R b) false a))) kvs ∧ kvs.length ≤ i * 400 + j * 100 + 100)
        (fun m ρ os => ∃ o5 o6 kvs, ρ = [some (dicT ns R), some (.ref (h.length + 0)), some (.str a), some (.str b), some (.ro ((plc (R a) true b).map fun (i : Nat) => .int (i : Int))), o5, o6] ∧ os = [.dct true kvs] ∧ Need R (fun x p => (Gets ns R (fun z => z ∈ ns.take i) x p ∨ (x ∈ ns.take j ∧ Gets ns R (fun z => z = a) x p)) ∨ (x = b ∧ p ∈ (plc (R b) false a).take m)) kvs ∧ kvs.length ≤ i * 400 + j * 100 + m)
        ⟨_, _, _, rfl, rfl, N.congr (fun x p => ⟨.inl, fun w => w.resolve_right fun y => by
          obtain ⟨_, y⟩ := y
          rw [List.take_zero] at y
          cases y⟩), by omega⟩ (by rw [List.length_map, List.length_zip, List.length_range]; refine lt_W0 ?_; omega) (fun m x ρ os hx hi => ?_) (fun ρ os hi => ?_)) fun p os q => ?_
      · obtain ⟨o5, o6, kvs, rfl, rfl, N, hlen⟩ := hi
        rw [List.getElem?_map] at hx
        obtain ⟨⟨m', p⟩, hpr, rfl⟩ := Option.map_eq_some_iff.mp hx
        obtain ⟨h1, h2⟩ := List.getElem?_zip_eq_some.mp hpr
        have hm : m < (plc (R b) false a).length := (List.getElem?_eq_some_iff.mp h2).1
        have e1 : m' = m := by
          rw [List.getElem?_range hm] at h1
          exact (Option.some.inj h1).symm
        subst e1
        obtain ⟨q, hq⟩ : ∃ q, (plc (R a) true b)[m']? = some q := ⟨(plc (R a) true b)[m']'(by rw [hLL]; exact hm), List.getElem?_eq_getElem _⟩
        have hq2 : idxV (.ro ((plc (R a) true b).map fun (i : Nat) => MV.int (i : Int))) (.int (m' : Int)) = M.ret (.int (q : Int)) := q_idxr (at_nat (by rw [List.getElem?_map, hq]; rfl))
        obtain ⟨d, d1, d2⟩ := (plc_mem false a p (R b)).mp (List.mem_of_getElem? h2)
        obtain ⟨d3, d4⟩ := Bool.and_eq_true_iff.mp d2
        have d3 : d.say = false := eq_of_beq d3
        have d4 : d.other = a := of_decide_eq_true d4
        have hc : cell R b p = some (a, q) := by
          unfold cell
          rw [d1]
          dsimp only
          rw [d3, d4, if_neg Bool.false_ne_true, plc_idx false a m' p (R b) h2, hq]
          rfl
        walk_at "mr"
        refine runT_ret _ ?_
        walk_at "mr"
        simp only [hq2, q_tup2, r_bnd]
        refine RunT.bnd (runT_setd (j := 0) (P := fun _ os => os = [.dct true (putM (kT b (p : Int)) (encC (a, q)) kvs)]) rfl rfl (by omega) rfl) fun _ os q' => ?_
        subst q'
        refine runT_ret _ ⟨_, _, _, rfl, rfl, N.put hc fun x y => ?_, Nat.le_trans put_len (by omega)⟩
        have et : (plc (R b) false a).take (m' + 1) = (plc (R b) false a).take m' ++ [p] := by
          rw [← List.take_append_getElem hm, (List.getElem?_eq_some_iff.mp h2).2]
        rw [et, List.mem_append, List.mem_singleton]
        constructor
        · rintro (w | ⟨w1, w2 | w2⟩)
          · exact .inl (.inl w)
          · exact .inl (.inr ⟨w1, w2⟩)
          · exact .inr ⟨w1, w2⟩
        · rintro ((w | ⟨w1, w2⟩) | ⟨w1, w2⟩)
          · exact .inl w
          · exact .inr ⟨w1, .inl w2⟩
          · exact .inr ⟨w1, .inr w2⟩
      · obtain ⟨o5, o6, kvs, rfl, rfl, N, hlen⟩ := hi
        rw [List.length_map, List.length_zip, List.length_range, Nat.min_self] at N hlen
        rw [List.take_length] at N
        exact ⟨_, _, _, rfl, rfl, N, by omega⟩
      · obtain ⟨o5, o6, kvs, rfl, rfl, N, hlen⟩ := q
        simp only [sl_nil, after_nx]
        refine runT_ret _ ⟨_, _, _, _, _, rfl, rfl, N.congr fun x p => ?_, by omega⟩
        have et : ns.take (j + 1) = ns.take j ++ [b] := by
          rw [← List.take_append_getElem hjn, (List.getElem?_eq_some_iff.mp hbj).2]
        constructor
        · rintro ((w | ⟨w1, w2⟩) | ⟨rfl, w⟩)
          · exact .inl w
          · exact .inr ⟨by rw [et]; exact List.mem_append_left _ w1, w2⟩
          · obtain ⟨d, w1, w2⟩ := (plc_mem false a p (R x)).mp w
            obtain ⟨w3, w4⟩ := Bool.and_eq_true_iff.mp w2
            exact .inr ⟨by rw [et]; exact List.mem_append_right _ List.mem_cons_self, hb, d, w1, eq_of_beq w3, of_decide_eq_true w4⟩
        · rintro (w | ⟨w1, w2⟩)
          · exact .inl (.inl w)
          · rw [et] at w1
            rcases List.mem_append.mp w1 with w1 | w1
            · exact .inl (.inr ⟨w1, w2⟩)
            · have e := List.mem_singleton.mp w1
              subst e
              obtain ⟨_, d, w3, w4, w5⟩ := w2
              exact .inr ⟨rfl, (plc_mem false a p (R x)).mpr ⟨d, w3, by unfold isD; rw [w4, w5]; simp⟩⟩
    · obtain ⟨o3, o4, o5, o6, kvs, rfl, rfl, N, hlen⟩ := hi
      rw [List.length_map] at N hlen
      exact ⟨_, _, _, _, _, rfl, rfl, N, by omega⟩
    · obtain ⟨o3, o4, o5, o6, kvs, rfl, rfl, N, hlen⟩ := q
      simp only [after_nx]
      walk_at "mr"
      refine runT_ret _ ⟨_, _, _, _, _, _, rfl, rfl, N.congr fun x p => ?_, by omega⟩
      have hl := (List.getElem?_eq_some_iff.mp hai).1
      have et : ns.take (i + 1) = ns.take i ++ [a] := by
        rw [← List.take_append_getElem hl, (List.getElem?_eq_some_iff.mp hai).2]
      constructor
      · rintro (⟨h1, d, h2, h3, h4⟩ | ⟨_, h1, d, h2, h3, h4⟩)
        · exact ⟨h1, d, h2, h3, by rw [et]; exact List.mem_append_left _ h4⟩
        · exact ⟨h1, d, h2, h3, by rw [et, h4]; exact List.mem_append_right _ List.mem_cons_self⟩
      · rintro ⟨h1, d, h2, h3, h4⟩
        rw [et] at h4
        rcases List.mem_append.mp h4 with h4 | h4
        · exact .inl ⟨h1, d, h2, h3, h4⟩
        · exact .inr ⟨by rw [List.take_length]; exact h1, h1, d, h2, h3, List.mem_singleton.mp h4⟩
  · obtain ⟨o2, o3, o4, o5, o6, kvs, rfl, rfl, N, hlen⟩ := hi
    rw [List.length_map] at N hlen
    exact ⟨_, _, _, _, _, _, rfl, rfl, N, by omega⟩
  · obtain ⟨o2, o3, o4, o5, o6, kvs, rfl, rfl, N, hl⟩ := q
    simp only [after_nx]
    walk_at "mr"
    exact runT_ret _ ⟨rfl, kvs, rfl, N, hl⟩
end
end MPV
/-! k22: says_of_gets as it is called. -/
namespace MPV
open PySem hiding Env
open MP LawT
variable {T : List Def} {W0 : Nat} [PT T] [Wd W0]
section
variable {n : Nat} {ns : List Str} {R : Str → List (Pic.Deed Str)}
theorem ret_of_runT {f : M MV} {P : List (MV × MV) → Prop} (r : ∀ h : MH, RunT h f [] fun v os => v = .ref (h.length + 0) ∧ ∃ kvs, os = [.dct true kvs] ∧ noRefs (kvs.map (·.1)) = true ∧ noRefs (kvs.map (·.2)) = true ∧ P kvs) :
    ∀ h : MH, ∃ kvs, P kvs ∧ bvV f h = .ok (.rod true (kvs.map (·.1)) (kvs.map (·.2))) h := fun h => by
  obtain ⟨v, os, e, rfl, kvs, rfl, k1, k2, p⟩ := r h
  rw [List.append_nil] at e
  exact ⟨kvs, p, bv_ok e (Gr.app _ _) (byV_dct (by omega) (by rw [loc_get]; rfl) k1 k2)⟩
/-- the call, at any places: its dict by value -/
def saysV (kvs : List (MV × MV)) : MV := .rod true (kvs.map (·.1)) (kvs.map (·.2))
theorem says_call (G : GoodRows ns R) (H : Heard ns R) (h : MH) : ∃ kvs, (Need R (Gets ns R fun a => a ∈ ns) kvs ∧ kvs.length ≤ 1600) ∧ callF T W0 (n + 2) 10 [dicT ns R] h = .ok (saysV kvs) h := by
  rw [call_eq (df := d_says_of_gets) PT.at_says_of_gets rfl]
  obtain ⟨kvs, p, e⟩ := ret_of_runT (P := fun kvs => Need R (Gets ns R fun a => a ∈ ns) kvs ∧ kvs.length ≤ 1600) (fun h => (says_ok (T := T) (W0 := W0) (n := n) G H h).mono fun v os q => by
    obtain ⟨q1, kvs, q2, N, hl⟩ := q
    rw [List.take_length] at N
    exact ⟨q1, kvs, q2, keys_KT N.kt, nr_vals N.vals, N, hl⟩) h
  exact ⟨kvs, p, e⟩
theorem says_runT (G : GoodRows ns R) (H : Heard ns R) {h : MH} {os : List MO} : RunT h (callF T W0 (n + 2) 10 [dicT ns R]) os fun v os' => os' = os ∧ ∃ kvs, v = saysV kvs ∧ Need R (Gets ns R fun a => a ∈ ns) kvs ∧ kvs.length ≤ 1600 := by
  obtain ⟨kvs, ⟨N, hl⟩, e⟩ := says_call (T := T) (W0 := W0) (n := n) G H (h ++ os)
  exact ⟨saysV kvs, os, e, rfl, kvs, rfl, N, hl⟩
end
end MPV
/-! k22: may a spot be done? -/
namespace MPV
open PySem hiding Env
open MP LawT
variable {T : List Def} {W0 : Nat} [PT T] [Wd W0]
theorem runT_idxd {h : MH} {os : List MO} {l : Nat} {t : Bool} {kvs : List (MV × MV)} {k v : MV} {P : MV → List MO → Prop} (e : (h ++ os)[l]? = some (.dct t kvs)) (hk : keyB t k = true) (hf : findM k kvs = some v) (p : P v os) : RunT h (idxV (.ref l) k) os P := by
  refine ⟨v, os, ?_, p⟩
  unfold idxV
  dsimp only
  rw [e]
  dsimp only
  unfold dgetK
  rw [if_pos hk, hf]
  rfl
section
variable {n : Nat} {ns : List Str} {R : Str → List (Pic.Deed Str)} {c : Str → Nat}
theorem zip_parts (kvs : List (MV × MV)) : (kvs.map (·.1)).zip (kvs.map (·.2)) = kvs := by
  induction kvs with
  | nil => rfl
  | cons e r ih =>
    show (e.1, e.2) :: (r.map (·.1)).zip (r.map (·.2)) = _
    rw [ih]
/-- a say that was told stands before c iff the get may be done -/
theorem cell_go {h : Str} {q : Nat} {d : Pic.Deed Str} (hd : (R h)[c h]? = some d) (hs : d.say = false) (hc : cell R h (c h) = some (d.other, q)) : Pic.canGo R c h = decide (q < c d.other) := by
  unfold cell at hc
  rw [hd] at hc
  dsimp only at hc
  rw [hs, if_neg Bool.false_ne_true] at hc
  obtain ⟨q', hq, e⟩ := Option.map_eq_some_iff.mp hc
  have e : q' = q := (Prod.mk.inj e).2
  subst e
  unfold Pic.canGo
  rw [hd]
  dsimp only
  rw [hs, Bool.false_or]
  rw [Bool.eq_iff_iff, decide_eq_true_eq, decide_eq_true_eq]
  exact (plc_lt_iff hq).symm
end
local macro_rules | `(tactic| walk_at "mr") => `(tactic| simp only [bnd_assoc, e_dctT, sl_cons, sl_nil, s_asg, s_par, s_par3, s_aug, s_ex, s_ret, s_retN, s_ifs, s_fors, s_whl, s_pas, t_bop, t_not, t_var, t_cmp, t_chain, t_isK, t_call, t_bi, t_isi, t_idx, bt_one, bt_cons, e_var, e_lit, e_glo, e_tup, e_lst, e_dct, e_bin, e_neg, e_cmp, e_chain, e_isK, e_bop, e_not, e_ife, e_call, e_callk, e_bi, e_isi, e_mth, e_idx, e_slc, e_lc, e_val, e_fld, e_con, el_nil, el_cons, eb_one, eb_cons, eo_no, eo_so, ec_no, ec_so, g_nm, g_tp, g_sb, gl_nil, gl_cons, i_vl, i_rg1, i_rg2, i_en, i_its, i_vas, i_zp, after_nx, after_rt, r_bnd, r_opt, w_nil, w_cons, q_inS, retP_nx, retP_rt, List.replicate_zero, Nat.sub_self, q_add, q_sub, q_neg, q_not, q_bop, q_lt, q_le, q_gt, q_ge, q_eqs, q_nes, q_trub, q_int, q_intb, q_lent, q_lenr, q_idxt0, q_idxt1, q_idxt2, q_isi1, q_isi2, q_itt, q_itr, q_itd, q_its, q_intO, q_tupr, q_tupt, List.map_cons, List.map_nil, List.cons_append, List.nil_append, List.replicate, List.getElem?_cons_zero, List.getElem?_cons_succ, List.set_cons_zero, List.set_cons_succ, if_true, if_false, Bool.false_eq_true, b00, b01, b10, b11, Bool.not_true, Bool.not_false, Bool.true_or, Bool.or_true, Bool.false_or, Bool.or_false])
section
variable {n : Nat} {ns : List Str} {R : Str → List (Pic.Deed Str)} {c : Str → Nat}
theorem is_free_ok (G : GoodRows ns R) {kvs kc : List (MV × MV)} (N : Need R (Gets ns R fun a => a ∈ ns) kvs) {h : MH} {l : Nat} (hl : h[l]? = some (.dct false kc)) (hk : ∀ a ∈ ns, findM (.str a) kc = some (.int (c a : Int))) {a : Str} (ha : a ∈ ns) (hlt : c a < (R a).length) :
    callF T W0 (n + 1) 12 [.ref l, .rod true (kvs.map (·.1)) (kvs.map (·.2)), kT a (c a : Int)] h = .ok (.bl (Pic.canGo R c a)) h := by
  rw [call_eq (df := d_is_free) PT.at_is_free rfl]
  have hlen : l < h.length := (List.getElem?_eq_some_iff.mp hl).1
  suffices r : RunT h ((evSL (callF T W0 n) W0 d_is_free.body ([MV.ref l, .rod true (kvs.map (·.1)) (kvs.map (·.2)), kT a (c a : Int)].map some ++ List.replicate (d_is_free.ns - d_is_free.np) none)).bnd retP) [] fun v os => v = .bl (Pic.canGo R c a) ∧ os = [] by
    obtain ⟨v, os, e, rfl, rfl⟩ := r
    rw [List.append_nil] at e
    exact bv_ok e (Gr.refl h) (noRef_byV rfl 60)
  unfold d_is_free
  walk_at "mr"
  have hb : keyB true (kT a (c a : Int)) = true := rfl
  simp only [q_nind hb, zip_parts, r_bnd]
  have hd : (R a)[c a]? = some (R a)[c a] := List.getElem?_eq_getElem hlt
  generalize (R a)[c a] = d at hd
  cases hs : d.say with
  | true =>
    have hf := N.no a (c a) (fun w => by
      obtain ⟨_, e, w1, w2, _⟩ := w
      rw [hd] at w1
      cases w1
      rw [hs] at w2
      cases w2)
    have hg : Pic.canGo R c a = true := by
      unfold Pic.canGo
      rw [hd]
      dsimp only
      rw [hs]
      rfl
    rw [hf, hg]
    exact runT_ret _ ⟨rfl, rfl⟩
  | false =>
    have hin : d.other ∈ ns := (G.deed a ha d (List.mem_of_getElem? hd)).2.1
    obtain ⟨hf, hsome⟩ := N.at_ a (c a) ⟨ha, d, hd, hs, hin⟩
    obtain ⟨⟨o, q⟩, hc⟩ := Option.isSome_iff_exists.mp hsome
    have ho : o = d.other := by
      unfold cell at hc
      rw [hd] at hc
      dsimp only at hc
      rw [hs, if_neg Bool.false_ne_true] at hc
      obtain ⟨q', hq, e⟩ := Option.map_eq_some_iff.mp hc
      exact (Prod.mk.inj e).1.symm
    subst ho
    rw [cell_go hd hs hc]
    rw [hc] at hf
    have hf : findM (kT a (c a : Int)) kvs = some (.tup [.str d.other, .int (q : Int)]) := hf
    have hi : idxV (.rod true (kvs.map (·.1)) (kvs.map (·.2))) (kT a (c a : Int)) = M.ret (.tup [.str d.other, .int (q : Int)]) := q_idxd hb (by rw [zip_parts]; exact hf)
    rw [hf]
    simp only [Option.isSome_some, Bool.not_true, Bool.false_eq_true, if_false, r_bnd, after_nx]
    walk_at "mr"
    simp only [hi, r_bnd]
    walk_at "mr"
    refine RunT.bnd (runT_idxd (P := fun v os => v = .int (c d.other : Int) ∧ os = []) (by rw [List.append_nil]; exact hl) rfl (hk _ hin) ⟨rfl, rfl⟩) fun v os q' => ?_
    obtain ⟨rfl, rfl⟩ := q'
    simp only [q_lt, r_bnd, after_rt, retP_rt]
    refine runT_ret _ ⟨?_, rfl⟩
    congr 1
    rw [Bool.eq_iff_iff, decide_eq_true_eq, decide_eq_true_eq]
    omega
end
end MPV
/-! k22: counts as a dict. -/
namespace MPV
open PySem hiding Env
open MP LawT
/-- the counts of the hands -/
def cntD (ns : List Str) (c : Str → Nat) : List (MV × MV) := ns.map fun a => (MV.str a, MV.int (c a : Int))
def upC (c : Str → Nat) (a : Str) (k : Nat) (b : Str) : Nat := if b = a then k else c b
theorem kEq_str {a b : Str} : kEq (.str a) (.str b) = decide (a = b) := rfl
theorem put_upd {ns : List Str} {c : Str → Nat} {a : Str} {k : Nat} (ha : a ∈ ns) : putM (.str a) (.int (k : Int)) (cntD ns c) = cntD ns (upC c a k) := by
  unfold putM cntD
  have e : ((ns.map fun a => (MV.str a, MV.int (c a : Int))).any fun p => kEq p.1 (.str a)) = true := by
    rw [List.any_map, List.any_eq_true]
    exact ⟨a, ha, by show kEq (.str a) (.str a) = true; rw [kEq_str]; simp⟩
  rw [if_pos e, List.map_map]
  apply List.map_congr_left
  intro b _
  show (if kEq (MV.str b) (MV.str a) then (MV.str b, MV.int (k : Int)) else (MV.str b, MV.int (c b : Int))) = (MV.str b, MV.int ((upC c a k b : Nat) : Int))
  rw [kEq_str]
  unfold upC
  by_cases h : b = a
  · rw [if_pos (by simpa using h), if_pos h]
  · rw [if_neg (by simpa using h), if_neg h]
theorem find_cnt {ns : List Str} {c : Str → Nat} {a : Str} (ha : a ∈ ns) : findM (.str a) (cntD ns c) = some (.int (c a : Int)) := find_map (f := fun a => MV.int (c a : Int)) ha
end MPV
/-! k22: counts that a run's beginning reaches. -/
namespace MPV
open PySem hiding Env
open MP LawT
def St (R : Str → List (Pic.Deed Str)) (ns : List Str) (c : Str → Nat) : Prop := ∃ s, Pic.Steps R s ∧ (∀ a ∈ s, a ∈ ns) ∧ ∀ a, c a = Pic.cts s a
section
variable {ns : List Str} {R : Str → List (Pic.Deed Str)} {c : Str → Nat}
theorem St.zero : St R ns fun _ => 0 := ⟨[], (fun i a e => by simp at e), (fun a h => by cases h), fun _ => rfl⟩
theorem St.fun_eq {s : List Str} (h : ∀ a, c a = Pic.cts s a) : c = Pic.cts s := funext h
theorem St.up (h : St R ns c) {a : Str} (ha : a ∈ ns) (g : Pic.canGo R c a = true) : St R ns (upC c a (c a + 1)) := by
  obtain ⟨s, h1, h2, h3⟩ := h
  have e := St.fun_eq h3
  subst e
  refine ⟨s ++ [a], h1.snoc g, fun b hb => ?_, fun b => ?_⟩
  · rcases List.mem_append.mp hb with hb | hb
    · exact h2 b hb
    · rw [List.mem_singleton.mp hb]; exact ha
  · rw [Pic.cts_snoc]
    unfold upC
    by_cases hb : b = a
    · subst hb
      rw [if_pos rfl, if_pos rfl]
    · rw [if_neg hb, if_neg fun z => hb z.symm]
      rfl
theorem St.le (h : St R ns c) (a : Str) : c a ≤ (R a).length := by
  obtain ⟨s, h1, h2, h3⟩ := h
  rw [h3]
  exact Pic.steps_le h1 a
/-- a stand where none may go on is the end -/
theorem St.full (h : St R ns c) {E : List Str} (hE : Pic.Steps R E) (hf : Pic.Full R ns (Pic.cts E)) (hn : ∀ a ∈ E, a ∈ ns) (hs : ∀ a ∈ ns, Pic.canGo R c a = false) : ∀ a ∈ ns, c a = (R a).length := by
  intro a ha
  apply Classical.byContradiction
  intro hne
  have hlt : c a < (R a).length := by
    have := h.le a
    omega
  obtain ⟨b, hb, g⟩ := Pic.goes_on hE hf hn (c := c) (fun a => h.le a) ⟨a, ha, hlt⟩
  rw [hs b hb] at g
  cases g
end
end MPV
/-! k22: done_counts. -/
namespace MPV
open PySem hiding Env
open MP LawT
variable {T : List Def} {W0 : Nat} [PT T] [Wd W0]
local macro_rules | `(tactic| walk_at "mr") => `(tactic| simp only [bnd_assoc, e_dctT, sl_cons, sl_nil, s_asg, s_par, s_par3, s_aug, s_ex, s_ret, s_retN, s_ifs, s_fors, s_whl, s_pas, t_bop, t_not, t_var, t_cmp, t_chain, t_isK, t_call, t_bi, t_isi, t_idx, bt_one, bt_cons, e_var, e_lit, e_glo, e_tup, e_lst, e_dct, e_bin, e_neg, e_cmp, e_chain, e_isK, e_bop, e_not, e_ife, e_call, e_callk, e_bi, e_isi, e_mth, e_idx, e_slc, e_lc, e_val, e_fld, e_con, el_nil, el_cons, eb_one, eb_cons, eo_no, eo_so, ec_no, ec_so, g_nm, g_tp, g_sb, gl_nil, gl_cons, i_vl, i_rg1, i_rg2, i_en, i_its, i_vas, i_zp, after_nx, after_rt, r_bnd, r_opt, w_nil, w_cons, q_inS, retP_nx, retP_rt, List.replicate_zero, Nat.sub_self, q_add, q_sub, q_neg, q_not, q_bop, q_lt, q_le, q_gt, q_ge, q_eqs, q_nes, q_trub, q_int, q_intb, q_lent, q_lenr, q_idxt0, q_idxt1, q_idxt2, q_isi1, q_isi2, q_itt, q_itr, q_itd, q_its, q_intO, q_tupr, q_tupt, List.map_cons, List.map_nil, List.cons_append, List.nil_append, List.replicate, List.getElem?_cons_zero, List.getElem?_cons_succ, List.set_cons_zero, List.set_cons_succ, if_true, if_false, Bool.false_eq_true, b00, b01, b10, b11, Bool.not_true, Bool.not_false, Bool.true_or, Bool.or_true, Bool.false_or, Bool.or_false])
theorem q_dct0 : dctV [] = M.alloc (.dct false []) := rfl
section
variable {n : Nat} {ns : List Str} {R : Str → List (Pic.Deed Str)} {c : Str → Nat}
/-- what is left -/
def rem (ns : List Str) (R : Str → List (Pic.Deed Str)) (c : Str → Nat) : Nat := (ns.map fun a => (R a).length - c a).sum
theorem rem_lt {W0 : Nat} [Wd W0] (G : GoodRows ns R) : 2 * rem ns R (fun _ => 0) + 1 < W0 := by
  have key : ∀ xs : List Str, (∀ a ∈ xs, (R a).length ≤ 100) → (xs.map fun a => (R a).length - 0).sum ≤ xs.length * 100 := by
    intro xs
    induction xs with
    | nil => intro _; exact Nat.zero_le _
    | cons a r ih =>
      intro h
      rw [List.map_cons, List.sum_cons, List.length_cons]
      have h1 := h a List.mem_cons_self
      have h2 := ih fun b hb => h b (List.mem_cons_of_mem _ hb)
      omega
  have := key ns G.len
  have := G.few
  refine lt_W0 ?_
  show 2 * (ns.map fun a => (R a).length - 0).sum + 1 < 100000
  omega
theorem rem_up {a : Str} (ha : a ∈ ns) (hlt : c a < (R a).length) : rem ns R (upC c a (c a + 1)) < rem ns R c := by
  have le : ∀ xs : List Str, rem xs R (upC c a (c a + 1)) ≤ rem xs R c := by
    intro xs
    induction xs with
    | nil => exact Nat.le_refl _
    | cons b r ih =>
      have ih : (r.map fun x => (R x).length - upC c a (c a + 1) x).sum ≤ (r.map fun x => (R x).length - c x).sum := ih
      show ((R b).length - upC c a (c a + 1) b) + (r.map fun x => (R x).length - upC c a (c a + 1) x).sum ≤ ((R b).length - c b) + (r.map fun x => (R x).length - c x).sum
      have : c b ≤ upC c a (c a + 1) b := by
        unfold upC
        by_cases h : b = a
        · rw [if_pos h, h]; omega
        · rw [if_neg h]; exact Nat.le_refl _
      omega
  have key : ∀ xs : List Str, a ∈ xs → rem xs R (upC c a (c a + 1)) < rem xs R c := by
    intro xs
    induction xs with
    | nil => intro h; cases h
    | cons b r ih =>
      intro h
      have l : (r.map fun x => (R x).length - upC c a (c a + 1) x).sum ≤ (r.map fun x => (R x).length - c x).sum := le r
      show ((R b).length - upC c a (c a + 1) b) + (r.map fun x => (R x).length - upC c a (c a + 1) x).sum < ((R b).length - c b) + (r.map fun x => (R x).length - c x).sum
      by_cases hb : b = a
      · subst hb
        have : upC c b (c b + 1) b = c b + 1 := if_pos rfl
        omega
      · have ih : (r.map fun x => (R x).length - upC c a (c a + 1) x).sum < (r.map fun x => (R x).length - c x).sum := ih ((List.mem_cons.mp h).resolve_left fun z => hb z.symm)
        have : upC c a (c a + 1) b = c b := if_neg hb
        omega
  exact key ns ha
theorem counts_ok (G : GoodRows ns R) {kvs : List (MV × MV)} (N : Need R (Gets ns R fun a => a ∈ ns) kvs) {E : List Str} (hE : Pic.Steps R E) (hf : Pic.Full R ns (Pic.cts E)) (hn : ∀ a ∈ E, a ∈ ns) (h : MH) :
    RunT h ((evSL (callF T W0 (n + 1)) W0 d_done_counts.body ([dicT ns R, .rod true (kvs.map (·.1)) (kvs.map (·.2))].map some ++ List.replicate (d_done_counts.ns - d_done_counts.np) none)).bnd retP) [] fun v os => v = .ref (h.length + 0) ∧ os = [.dct false (cntD ns fun a => (R a).length)] := by
  have few := G.few
  have itd : itV (dicT ns R) = M.ret (.vs (ns.map .str)) := rfl
  unfold d_done_counts
  walk_at "mr"
  simp only [q_dct0, itd, r_bnd]
  refine RunT.bnd (runT_alloc (P := fun v os => v = .ref (h.length + 0) ∧ os = [.dct false []]) _ ⟨rfl, rfl⟩) fun v os q => ?_
  obtain ⟨rfl, rfl⟩ := q
  generalize hS : MV.rod true (kvs.map (·.1)) (kvs.map (·.2)) = S
  refine RunT.bnd (runT_for (xs := ns.map .str) (Q := fun p os => ∃ o3, p = ([some (dicT ns R), some S, some (.ref (h.length + 0)), o3, none], .nx) ∧ os = [.dct false (cntD ns fun _ => 0)])
    (fun i ρ os => ∃ o3, ρ = [some (dicT ns R), some S, some (.ref (h.length + 0)), o3, none] ∧ os = [.dct false (cntD (ns.take i) fun _ => 0)])
    ⟨_, rfl, by rw [List.take_zero]; rfl⟩ (by rw [List.length_map]; refine lt_W0 ?_; omega) (fun i x ρ os hx hi => ?_) (fun ρ os hi => ?_)) fun p os q => ?_
  · obtain ⟨o3, rfl, rfl⟩ := hi
    rw [List.getElem?_map] at hx
    obtain ⟨a, hai, rfl⟩ := Option.map_eq_some_iff.mp hx
    have hin : i < ns.length := (List.getElem?_eq_some_iff.mp hai).1
    have hax : ns[i] = a := (List.getElem?_eq_some_iff.mp hai).2
    refine runT_ret _ ?_
    walk_at "mr"
    have hnot : ¬ a ∈ ns.take i := fun z => by
      obtain ⟨j, hj⟩ := List.getElem?_of_mem z
      have hj1 := (List.getElem?_eq_some_iff.mp hj).1
      rw [List.length_take] at hj1
      rw [List.getElem?_take_of_lt (by omega)] at hj
      exact List.pairwise_iff_getElem.mp G.nd j i (by omega) hin (by omega) (by rw [hax]; exact (List.getElem?_eq_some_iff.mp hj).2)
    refine RunT.bnd (runT_setd (j := 0) (P := fun _ os => os = [.dct false (putM (.str a) (.int 0) (cntD (ns.take i) fun _ => 0))]) rfl rfl (by unfold cntD; rw [List.length_map, List.length_take]; omega) rfl) fun _ os q' => ?_
    subst q'
    try simp only [r_bnd, after_nx, sl_nil]
    refine runT_ret _ ⟨_, rfl, ?_⟩
    unfold cntD
    rw [put_new (f := fun _ => MV.int ((0 : Nat) : Int)) hnot, ← List.take_append_getElem hin, List.map_append, hax]
    rfl
  · obtain ⟨o3, rfl, rfl⟩ := hi
    rw [List.length_map, List.take_length]
    exact ⟨_, rfl, rfl⟩
  · obtain ⟨o3, rfl, rfl⟩ := q
    simp only [after_nx]
    walk_at "mr"
    refine RunT.bnd (runT_whl (Q := fun p os => ∃ o3 o4 c, p = ([some (dicT ns R), some S, some (.ref (h.length + 0)), o3, o4], .nx) ∧ os = [.dct false (cntD ns c)] ∧ St R ns c ∧ ∀ a ∈ ns, Pic.canGo R c a = false)
      (fun m ρ os => ∃ o3 g c, ρ = [some (dicT ns R), some S, some (.ref (h.length + 0)), o3, some (.bl g)] ∧ os = [.dct false (cntD ns c)] ∧ St R ns c ∧ (g = false → ∀ a ∈ ns, Pic.canGo R c a = false) ∧ m = 2 * rem ns R c + (if g then 1 else 0)) (m0 := 2 * rem ns R (fun _ => 0) + 1) (rem_lt G) ⟨_, true, _, rfl, rfl, St.zero, (fun z => nomatch z), rfl⟩ (fun m ρ os hi => ?_)) fun p os q => ?_
    · obtain ⟨o3, g, c, rfl, rfl, sc, hg, rfl⟩ := hi
      walk_at "mr"
      refine runT_ret _ ⟨fun z => ?_, fun z => ⟨_, _, c, rfl, rfl, sc, hg z⟩⟩
      subst z
      walk_at "mr"
      simp only [itd, r_bnd]
      refine RunT.bnd (runT_for (xs := ns.map .str) (Q := fun p os => ∃ o3 g' c', p = ([some (dicT ns R), some S, some (.ref (h.length + 0)), o3, some (.bl g')], .nx) ∧ os = [.dct false (cntD ns c')] ∧ St R ns c' ∧ (g' = false → rem ns R c' = rem ns R c ∧ ∀ a ∈ ns, Pic.canGo R c' a = false) ∧ (g' = true → rem ns R c' < rem ns R c))
        (fun i ρ os => ∃ o3 g' c', ρ = [some (dicT ns R), some S, some (.ref (h.length + 0)), o3, some (.bl g')] ∧ os = [.dct false (cntD ns c')] ∧ St R ns c' ∧ (g' = false → c' = c ∧ ∀ a ∈ ns.take i, Pic.canGo R c a = false) ∧ (g' = true → rem ns R c' < rem ns R c))
        ⟨_, false, c, rfl, rfl, sc, fun _ => ⟨rfl, fun a ha => by rw [List.take_zero] at ha; cases ha⟩, fun z => nomatch z⟩ (by rw [List.length_map]; refine lt_W0 ?_; omega) (fun i x ρ os hx hi => ?_) (fun ρ os hi => ?_)) fun p os q => ?_
      · obtain ⟨o3, g', c', rfl, rfl, sc', k1, k2⟩ := hi
        rw [List.getElem?_map] at hx
        obtain ⟨a, hai, rfl⟩ := Option.map_eq_some_iff.mp hx
        have ha := List.mem_of_getElem? hai
        have hin : i < ns.length := (List.getElem?_eq_some_iff.mp hai).1
        refine runT_ret _ ?_
        walk_at "mr"
        refine RunT.bnd (runT_whl (Q := fun p os => ∃ g' c', p = ([some (dicT ns R), some S, some (.ref (h.length + 0)), some (.str a), some (.bl g')], .nx) ∧ os = [.dct false (cntD ns c')] ∧ St R ns c' ∧ (g' = false → c' = c ∧ ∀ a ∈ ns.take i, Pic.canGo R c a = false) ∧ (g' = true → rem ns R c' < rem ns R c) ∧ Pic.canGo R c' a = false)
          (fun m ρ os => ∃ g' c', ρ = [some (dicT ns R), some S, some (.ref (h.length + 0)), some (.str a), some (.bl g')] ∧ os = [.dct false (cntD ns c')] ∧ St R ns c' ∧ (g' = false → c' = c ∧ ∀ a ∈ ns.take i, Pic.canGo R c a = false) ∧ (g' = true → rem ns R c' < rem ns R c) ∧ rem ns R c' ≤ rem ns R c ∧ m = (R a).length - c' a) (m0 := (R a).length - c' a) (by have := G.len a ha; refine lt_W0 ?_; omega) ⟨g', c', rfl, rfl, sc', k1, k2, by
            cases g' with
            | false => rw [(k1 rfl).1]; exact Nat.le_refl _
            | true => exact Nat.le_of_lt (k2 rfl), rfl⟩ (fun m ρ os hi => ?_)) fun p os q => ?_
        · obtain ⟨g', c', rfl, rfl, sc', k1, k2, k3, rfl⟩ := hi
          walk_at "mr"
          refine RunT.bnd (runT_idxd (P := fun v os => v = .int (c' a : Int) ∧ os = [.dct false (cntD ns c')]) (by rw [loc_get]; rfl) rfl (find_cnt ha) ⟨rfl, rfl⟩) fun v os q => ?_
          obtain ⟨rfl, rfl⟩ := q
          have ir : idxV (dicT ns R) (.str a) = M.ret (rowT (R a)) := q_idxN (f := fun a => rowT (R a)) ha
          simp only [ir, r_bnd]
          unfold rowT
          simp only [q_lent, q_lt, r_bnd]
          rw [List.length_map]
          by_cases hlt : c' a < (R a).length
          · rw [show decide ((c' a : Int) < ((R a).length : Int)) = true from decide_eq_true (by omega)]
            simp only [b11, if_true]
            refine RunT.bnd (runT_idxd (P := fun v os => v = .int (c' a : Int) ∧ os = [.dct false (cntD ns c')]) (by rw [loc_get]; rfl) rfl (find_cnt ha) ⟨rfl, rfl⟩) fun v os q => ?_
            obtain ⟨rfl, rfl⟩ := q
            simp only [q_tup2, r_bnd]
            have fr := is_free_ok (T := T) (W0 := W0) (n := n) (c := c') G N (h := h ++ [.dct false (cntD ns c')]) (l := h.length + 0) (kc := cntD ns c') (by rw [loc_get]; rfl) (fun b hb => find_cnt hb) ha hlt
            rw [hS] at fr
            refine RunT.bnd (Q := fun v os => v = .bl (Pic.canGo R c' a) ∧ os = [.dct false (cntD ns c')]) ⟨_, _, fr, rfl, rfl⟩ fun v os q => ?_
            obtain ⟨rfl, rfl⟩ := q
            simp only [q_trub]
            refine runT_ret _ ⟨fun hk => ?_, fun hk => ⟨g', c', rfl, rfl, sc', k1, k2, hk⟩⟩
            have hk : Pic.canGo R c' a = true := hk
            refine RunT.bnd (runT_idxd (P := fun v os => v = .int (c' a : Int) ∧ os = [.dct false (cntD ns c')]) (by rw [loc_get]; rfl) rfl (find_cnt ha) ⟨rfl, rfl⟩) fun v os q => ?_
            obtain ⟨rfl, rfl⟩ := q
            simp only [q_add, r_bnd]
            refine RunT.bnd (runT_setd (j := 0) (P := fun _ os => os = [.dct false (cntD ns (upC c' a (c' a + 1)))]) rfl rfl (by unfold cntD; rw [List.length_map]; omega) (by
              show [MO.dct false (putM (.str a) (.int ((c' a : Int) + 1)) (cntD ns c'))] = _
              have e := put_upd (c := c') (k := c' a + 1) ha
              rw [show ((c' a + 1 : Nat) : Int) = (c' a : Int) + 1 from by omega] at e
              rw [e])) fun _ os q => ?_
            subst q
            have ru := rem_up ha hlt
            refine runT_ret _ ⟨(R a).length - upC c' a (c' a + 1) a, ?_, true, _, rfl, rfl, sc'.up ha hk, (fun z => nomatch z), fun _ => by omega, by omega, rfl⟩
            have : upC c' a (c' a + 1) a = c' a + 1 := if_pos rfl
            omega
          · rw [show decide ((c' a : Int) < ((R a).length : Int)) = false from decide_eq_false (by omega)]
            simp only [b01, Bool.false_eq_true, if_false]
            refine runT_ret _ ⟨(fun z => nomatch z), fun _ => ⟨g', c', rfl, rfl, sc', k1, k2, ?_⟩⟩
            cases hg' : Pic.canGo R c' a with
            | false => rfl
            | true => exact absurd (Pic.canGo_lt hg') hlt
        · obtain ⟨g', c', rfl, rfl, sc', k1, k2, k3⟩ := q
          simp only [sl_nil, after_nx]
          refine runT_ret _ ⟨_, g', c', rfl, rfl, sc', fun z => ?_, k2⟩
          obtain ⟨rfl, k⟩ := k1 z
          refine ⟨rfl, fun b hb => ?_⟩
          rw [← List.take_append_getElem hin, (List.getElem?_eq_some_iff.mp hai).2] at hb
          rcases List.mem_append.mp hb with hb | hb
          · exact k b hb
          · rw [List.mem_singleton.mp hb]; exact k3
      · obtain ⟨o3, g', c', rfl, rfl, sc', k1, k2⟩ := hi
        rw [List.length_map, List.take_length] at k1
        exact ⟨_, g', c', rfl, rfl, sc', fun z => by
          obtain ⟨rfl, k⟩ := k1 z
          exact ⟨rfl, k⟩, k2⟩
      · obtain ⟨o3, g', c', rfl, rfl, sc', k1, k2⟩ := q
        simp only [after_nx, sl_nil]
        refine runT_ret _ ⟨2 * rem ns R c' + (if g' then 1 else 0), ?_, _, g', c', rfl, rfl, sc', fun z => (k1 z).2, rfl⟩
        cases g' with
        | false =>
          have := (k1 rfl).1
          simp only [Bool.false_eq_true, if_false, if_true]
          omega
        | true =>
          have := k2 rfl
          simp only [if_true]
          omega
    · obtain ⟨o3, o4, c, rfl, rfl, sc, hg⟩ := q
      simp only [after_nx]
      walk_at "mr"
      refine runT_ret _ ⟨rfl, ?_⟩
      have e := sc.full hE hf hn hg
      have : cntD ns c = cntD ns fun a => (R a).length := by
        unfold cntD
        apply List.map_congr_left
        intro a ha
        rw [e a ha]
      rw [this]
end
end MPV
/-! k22: done_counts as it is called; turning. -/
namespace MPV
open PySem hiding Env
open MP LawT
variable {T : List Def} {W0 : Nat} [PT T] [Wd W0]
local macro_rules | `(tactic| walk_at "mr") => `(tactic| simp only [bnd_assoc, e_dctT, sl_cons, sl_nil, s_asg, s_par, s_par3, s_aug, s_ex, s_ret, s_retN, s_ifs, s_fors, s_whl, s_pas, t_bop, t_not, t_var, t_cmp, t_chain, t_isK, t_call, t_bi, t_isi, t_idx, bt_one, bt_cons, e_var, e_lit, e_glo, e_tup, e_lst, e_dct, e_bin, e_neg, e_cmp, e_chain, e_isK, e_bop, e_not, e_ife, e_call, e_callk, e_bi, e_isi, e_mth, e_idx, e_slc, e_lc, e_val, e_fld, e_con, el_nil, el_cons, eb_one, eb_cons, eo_no, eo_so, ec_no, ec_so, g_nm, g_tp, g_sb, gl_nil, gl_cons, i_vl, i_rg1, i_rg2, i_en, i_its, i_vas, i_zp, after_nx, after_rt, r_bnd, r_opt, w_nil, w_cons, q_inS, retP_nx, retP_rt, List.replicate_zero, Nat.sub_self, q_add, q_sub, q_neg, q_not, q_bop, q_lt, q_le, q_gt, q_ge, q_eqs, q_nes, q_trub, q_int, q_intb, q_lent, q_lenr, q_idxt0, q_idxt1, q_idxt2, q_isi1, q_isi2, q_itt, q_itr, q_itd, q_its, q_intO, q_tupr, q_tupt, List.map_cons, List.map_nil, List.cons_append, List.nil_append, List.replicate, List.getElem?_cons_zero, List.getElem?_cons_succ, List.set_cons_zero, List.set_cons_succ, if_true, if_false, Bool.false_eq_true, b00, b01, b10, b11, Bool.not_true, Bool.not_false, Bool.true_or, Bool.or_true, Bool.false_or, Bool.or_false])
section
variable {n : Nat} {ns : List Str} {R : Str → List (Pic.Deed Str)} {c : Str → Nat}
def cntR (ns : List Str) (c : Str → Nat) : MV := .rod false (ns.map .str) (ns.map fun a => .int (c a : Int))
theorem counts_call (G : GoodRows ns R) {kvs : List (MV × MV)} (N : Need R (Gets ns R fun a => a ∈ ns) kvs) {E : List Str} (hE : Pic.Steps R E) (hf : Pic.Full R ns (Pic.cts E)) (hn : ∀ a ∈ E, a ∈ ns) :
    callF T W0 (n + 2) 11 [dicT ns R, .rod true (kvs.map (·.1)) (kvs.map (·.2))] = M.ret (cntR ns fun a => (R a).length) := by
  refine call_loc (df := d_done_counts) PT.at_done_counts rfl rfl fun h => (counts_ok (T := T) (W0 := W0) (n := n) G N hE hf hn h).mono fun v os q => ?_
  obtain ⟨rfl, rfl⟩ := q
  have e1 : (cntD ns fun a => (R a).length).map (·.1) = ns.map .str := by unfold cntD; rw [List.map_map]; rfl
  have e2 : (cntD ns fun a => (R a).length).map (·.2) = ns.map fun a => .int ((R a).length : Int) := by unfold cntD; rw [List.map_map]; rfl
  have b := byV_dct (h := h ++ [.dct false (cntD ns fun a => (R a).length)]) (n := h.length) (l := h.length + 0) (j := 59) (by omega) (by rw [loc_get]; rfl) (by rw [e1]; exact noRefs_map fun _ _ => rfl) (by rw [e2]; exact noRefs_map fun _ _ => rfl)
  rw [e1, e2] at b
  exact b
end
end MPV
namespace MPV
open PySem hiding Env
open MP LawT
variable {T : List Def} {W0 : Nat} [PT T] [Wd W0]
local macro_rules | `(tactic| walk_at "mr") => `(tactic| try simp only [bnd_assoc, e_dctT, sl_cons, sl_nil, s_asg, s_par, s_par3, s_aug, s_ex, s_ret, s_retN, s_ifs, s_fors, s_whl, s_pas, t_bop, t_not, t_var, t_cmp, t_chain, t_isK, t_call, t_bi, t_isi, t_idx, bt_one, bt_cons, e_var, e_lit, e_glo, e_tup, e_lst, e_dct, e_bin, e_neg, e_cmp, e_chain, e_isK, e_bop, e_not, e_ife, e_call, e_callk, e_bi, e_isi, e_mth, e_idx, e_slc, e_lc, e_val, e_fld, e_con, el_nil, el_cons, eb_one, eb_cons, eo_no, eo_so, ec_no, ec_so, g_nm, g_tp, g_sb, gl_nil, gl_cons, i_vl, i_rg1, i_rg2, i_en, i_its, i_vas, i_zp, after_nx, after_rt, r_bnd, r_opt, w_nil, w_cons, q_inS, retP_nx, retP_rt, List.replicate_zero, Nat.sub_self, q_add, q_sub, q_neg, q_not, q_bop, q_lt, q_le, q_gt, q_ge, q_eqs, q_nes, q_trub, q_int, q_intb, q_lent, q_lenr, q_idxt0, q_idxt1, q_idxt2, q_isi1, q_isi2, q_itt, q_itr, q_itd, q_its, q_intO, q_tupr, q_tupt, List.map_cons, List.map_nil, List.cons_append, List.nil_append, List.replicate, List.getElem?_cons_zero, List.getElem?_cons_succ, List.set_cons_zero, List.set_cons_succ, if_true, if_false, Bool.false_eq_true, b00, b01, b10, b11, Bool.not_true, Bool.not_false, Bool.true_or, Bool.or_true, Bool.false_or, Bool.or_false])
/-! k22: turning. -/
theorem r_bndN {α β : Type} (a : α) (f : α → M β) : (M.ret a).bnd f = f a := (r_bnd a f).trans (Eq.symm (Eq.symm rfl))
theorem dcLoop_run {t : Bool} {step : MV → M (Option (MV × MV))} {xs : List MV} (hs : ∀ x ∈ xs, ∃ k v, step x = M.ret (some (k, v)) ∧ keyB t k = true) (hlen : xs.length ≤ 100000) : ∀ (μ i : Nat) (acc : List (MV × MV)), xs.length < i + μ → i ≤ xs.length → acc.length ≤ i → ∃ ys, dcLoop t step (.vs xs) μ i acc = M.ret ys := by
  intro μ
  induction μ with
  | zero => intro i acc h1 h2; omega
  | succ μ ih =>
    intro i acc h1 h2 h3
    have e : dcLoop t step (.vs xs) (μ + 1) i acc = fun h => match some xs[i]? with
      | none => .stuck
      | some none => .ok acc h
      | some (some x) => ((step x).bnd fun o => match o with
        | some y => if keyB t y.1 && fitsL acc.length then dcLoop t step (.vs xs) μ (i + 1) (putM y.1 y.2 acc) else .stk
        | none => dcLoop t step (.vs xs) μ (i + 1) acc) h := rfl
    cases e2 : xs[i]? with
    | none => exact ⟨acc, by rw [e, e2]; rfl⟩
    | some x =>
      have hl := (List.getElem?_eq_some_iff.mp e2).1
      obtain ⟨k, v, h4, h5⟩ := hs x (List.mem_of_getElem? e2)
      obtain ⟨ys, h6⟩ := ih (i + 1) (putM k v acc) (by omega) (by omega) (Nat.le_trans put_len (by omega))
      refine ⟨ys, ?_⟩
      rw [e, e2, ← h6]
      funext h
      dsimp only
      rw [h4, r_bnd]
      dsimp only
      rw [if_pos (by rw [h5, fitsL_lt' (by omega)]; rfl)]
section
variable {n : Nat} {ns : List Str} {R : Str → List (Pic.Deed Str)} {c : Str → Nat}
/-- what a picture is: rows that were once run to their end -/
structure GoodPic (ns : List Str) (R : Str → List (Pic.Deed Str)) : Prop where
  rows : GoodRows ns R
  heard : Heard ns R
  once : ∃ E, Pic.Steps R E ∧ Pic.Full R ns (Pic.cts E) ∧ ∀ a ∈ E, a ∈ ns
  few : ((ns.map fun a => (ns.map fun b => Pic.cnt (R a) true b).sum).sum) ≤ 16
  deeds : (ns.map fun a => (R a).length).sum ≤ 40
theorem q_rgnn {a : Int} (h : smallR a = true) : rg2V (.int a) (.int a) = M.ret (.vs []) := by
  rw [q_rg2, h]
  show M.ret (Itv.vs (rangeItems a a)) = _
  unfold rangeItems
  rw [Int.sub_self]
  rfl
theorem smallR_nat {k : Nat} (h : k ≤ 1000000) : smallR (k : Int) = true := by
  unfold smallR
  exact decide_eq_true ⟨by omega, by omega⟩
theorem turning_ok (P : GoodPic ns R) : callF T W0 (n + 3) 15 [dicT ns R] = M.ret .non := by
  have G := P.rows
  have few := G.few
  obtain ⟨E, hE, hf, hn⟩ := P.once
  refine call_loc (df := d_turning) PT.at_turning rfl rfl fun h => RunT.mono (Q := fun v os => v = .non) ?_ fun v os q => by subst q; rfl
  unfold d_turning
  walk_at "mr"
  refine RunT.bnd (says_runT (T := T) (W0 := W0) (n := n) G P.heard) fun v os q => ?_
  obtain ⟨rfl, kvs, rfl, N, hl⟩ := q
  have cc := counts_call (T := T) (W0 := W0) (n := n) G N hE hf hn
  unfold saysV
  simp only [cc, r_bnd]
  walk_at "mr"
  have its1 : itsV (.rod true (kvs.map (·.1)) (kvs.map (·.2))) = M.ret (.vs (((kvs.map (·.1)).zip (kvs.map (·.2))).map fun p => MV.tup [p.1, p.2])) := rfl
  simp only [e_dc, i_its, e_var, List.getElem?_cons_zero, List.getElem?_cons_succ, r_bnd, its1, bnd_assoc]
  obtain ⟨ys, hy⟩ := dcLoop_run (t := true) (step := dcStep (asgT (callF T W0 (n + 2)) W0 (.tp (.cons (.nm 7) (.cons (.nm 8) .nil)))) (evC (callF T W0 (n + 2)) W0 .no) (evE (callF T W0 (n + 2)) W0 (.var 8)) (evE (callF T W0 (n + 2)) W0 (.var 7)) [some (dicT ns R), some (.rod true (kvs.map (·.1)) (kvs.map (·.2))), some (cntR ns fun a => (R a).length), none, none, none, none, none, none])
    (xs := ((kvs.map (·.1)).zip (kvs.map (·.2))).map fun p => MV.tup [p.1, p.2]) (fun x hx => by
      rw [zip_parts] at hx
      obtain ⟨p, hp, rfl⟩ := List.mem_map.mp hx
      obtain ⟨c, hc⟩ := N.vals p hp
      refine ⟨p.2, p.1, step_dc rfl ?_ ?_, ?_⟩
      · walk_at "mr"
      · walk_at "mr"
      · rw [hc]; rfl) (by rw [List.length_map, List.length_zip, List.length_map, List.length_map]; omega) W0 0 [] (by rw [Nat.zero_add]; refine lt_W0 ?_; rw [List.length_map, List.length_zip, List.length_map, List.length_map]; omega) (Nat.zero_le _) (Nat.le_refl _)
  walk_at "mr"
  rw [hy]
  simp only [r_bnd]
  refine RunT.bnd (runT_alloc (P := fun v os => True) _ trivial) fun v os q => ?_
  walk_at "mr"
  have its : itsV (dicT ns R) = M.ret (.vs (ns.map fun a => .tup [.str a, rowT (R a)])) := q_itsd
  simp only [its, r_bnd]
  refine RunT.bnd (runT_for (Q := fun p os => p.2 = .nx) (fun i ρ os => ∃ o4 o5 o6, ρ = [some (dicT ns R), some (.rod true (kvs.map (·.1)) (kvs.map (·.2))), some (cntR ns fun a => (R a).length), some v, o4, o5, o6, none, none]) ⟨_, _, _, rfl⟩ (by rw [List.length_map]; refine lt_W0 ?_; omega) (fun i x ρ os hx hi => ?_) (fun ρ os hi => rfl)) fun p os q => ?_
  · obtain ⟨o4, o5, o6, rfl⟩ := hi
    rw [List.getElem?_map] at hx
    obtain ⟨a, hai, rfl⟩ := Option.map_eq_some_iff.mp hx
    have ha := List.mem_of_getElem? hai
    have hR := G.len a ha
    walk_at "mr"
    refine runT_ret _ ?_
    walk_at "mr"
    have ic : idxV (cntR ns fun a => (R a).length) (.str a) = M.ret (.int ((R a).length : Int)) := q_idxN (f := fun a => MV.int ((R a).length : Int)) ha
    have rg : rg2V (.int ((R a).length : Int)) (.int ((R a).length : Int)) = M.ret (.vs []) := q_rgnn (smallR_nat (k := (R a).length) (by omega))
    unfold rowT
    simp only [ic, q_lent, List.length_map, r_bndN]
    simp only [rg, r_bndN]
    refine RunT.bnd (runT_for (Q := fun p os => p.2 = .nx ∧ p.1 = [some (dicT ns R), some (.rod true (kvs.map (·.1)) (kvs.map (·.2))), some (cntR ns fun a => (R a).length), some v, some (.str a), some (.tup ((R a).map dS)), o6, none, none]) (fun i ρ os => ρ = [some (dicT ns R), some (.rod true (kvs.map (·.1)) (kvs.map (·.2))), some (cntR ns fun a => (R a).length), some v, some (.str a), some (.tup ((R a).map dS)), o6, none, none]) rfl (lt_W0 (by rw [List.length_nil]; omega)) (fun i x ρ os hx hi => by simp at hx) (fun ρ os hi => ⟨rfl, hi⟩)) fun p os q => ?_
    obtain ⟨ρ, fl⟩ := p
    obtain ⟨rfl, rfl⟩ := q
    simp only [after_nx]
    walk_at "mr"
    exact runT_ret _ ⟨_, _, _, rfl⟩
  · obtain ⟨ρ, fl⟩ := p
    have q : fl = .nx := q
    subst q
    simp only [after_nx]
    walk_at "mr"
    exact runT_ret _ rfl
end
end MPV
namespace MPV
open PySem hiding Env
open MP LawT
variable {T : List Def} {W0 : Nat} [PT T] [Wd W0]
local macro_rules | `(tactic| walk_at "mr") => `(tactic| try simp only [bnd_assoc, e_dctT, sl_cons, sl_nil, s_asg, s_par, s_par3, s_aug, s_ex, s_ret, s_retN, s_ifs, s_fors, s_whl, s_pas, t_bop, t_not, t_var, t_cmp, t_chain, t_isK, t_call, t_bi, t_isi, t_idx, bt_one, bt_cons, e_var, e_lit, e_glo, e_tup, e_lst, e_dct, e_bin, e_neg, e_cmp, e_chain, e_isK, e_bop, e_not, e_ife, e_call, e_callk, e_bi, e_isi, e_mth, e_idx, e_slc, e_lc, e_val, e_fld, e_con, el_nil, el_cons, eb_one, eb_cons, eo_no, eo_so, ec_no, ec_so, g_nm, g_tp, g_sb, gl_nil, gl_cons, i_vl, i_rg1, i_rg2, i_en, i_its, i_vas, i_zp, after_nx, after_rt, r_bndN, r_opt, w_nil, w_cons, q_inS, retP_nx, retP_rt, List.replicate_zero, Nat.sub_self, q_add, q_sub, q_neg, q_not, q_bop, q_lt, q_le, q_gt, q_ge, q_eqs, q_nes, q_trub, q_int, q_intb, q_lent, q_lenr, q_idxt0, q_idxt1, q_idxt2, q_isi1, q_isi2, q_itt, q_itr, q_itd, q_its, q_intO, q_tupr, q_tupt, List.map_cons, List.map_nil, List.cons_append, List.nil_append, List.replicate, List.getElem?_cons_zero, List.getElem?_cons_succ, List.set_cons_zero, List.set_cons_succ, if_true, if_false, Bool.false_eq_true, b00, b01, b10, b11, Bool.not_true, Bool.not_false, Bool.true_or, Bool.or_true, Bool.false_or, Bool.or_false])
/-! k22: letters_of, checked_rows, Picture. -/
theorem q_lst0 : lstV [] = M.alloc (.lst []) := by
  unfold lstV
  rw [if_pos (fits_lt (by simp only [List.length_nil]; omega))]
theorem q_lst1 {a : MV} : lstV [a] = M.alloc (.lst [a]) := by
  unfold lstV
  rw [if_pos (fits_lt (by simp only [List.length_nil, List.length_cons]; omega))]
theorem q_rg1n {k : Nat} (h : k ≤ 1000000) : rg1V (.int (k : Int)) = M.ret (.vs ((List.range k).map fun (i : Nat) => .int (i : Int))) := by
  rw [q_rg1, if_pos (smallR_nat h)]
  unfold rangeItems
  rw [show ((k : Int) - 0).toNat = k from by omega]
  congr 2
  apply List.map_congr_left
  intro i _
  rw [Int.zero_add]
theorem runT_rcv {h : MH} {os : List MO} {m : Mt} {j : Nat} {xs : List MV} {P : Unit → List MO → Prop} (hm : rcvV m (.ref (h.length + j)) = chkL (h.length + j)) (e : os[j]? = some (.lst xs)) (p : P () os) : RunT h (rcvV m (.ref (h.length + j))) os P := by
  refine ⟨(), os, ?_, p⟩
  rw [hm]
  unfold chkL
  rw [loc_get, e]
theorem runT_extend {h : MH} {os : List MO} {j : Nat} {xs ys : List MV} {P : MV → List MO → Prop} (e : os[j]? = some (.lst xs)) (hx : xs.length + ys.length < 1000000) (p : P .non (os.set j (.lst (xs ++ ys)))) : RunT h (mtV .extend (.ref (h.length + j)) [.ro ys]) os P := by
  refine ⟨.non, os.set j (.lst (xs ++ ys)), ?_, p⟩
  show (match (h ++ os)[h.length + j]?, some ys with
    | some (.lst xs), some ys => if fits (xs.length + ys.length) then Res.ok MV.non ((h ++ os).set (h.length + j) (.lst (xs ++ ys))) else .stuck
    | _, _ => .stuck) = _
  rw [loc_get, e]
  dsimp only
  rw [if_pos (fits_lt hx), loc_set]
section
variable {n : Nat} {ns : List Str} {R : Str → List (Pic.Deed Str)} {c : Str → Nat}
def letB (R : Str → List (Pic.Deed Str)) (a b : Str) : List MV := (List.range (Pic.cnt (R a) true b)).map fun (i : Nat) => .tup [.str a, .str b, .int (i : Int)]
def letA (ns : List Str) (R : Str → List (Pic.Deed Str)) (a : Str) : List MV := ns.flatMap fun b => letB R a b
def lets (ns : List Str) (R : Str → List (Pic.Deed Str)) : List MV := ns.flatMap fun a => letA ns R a
theorem lets_len : (lets ns R).length = ((ns.map fun a => (ns.map fun b => Pic.cnt (R a) true b).sum).sum) := by
  unfold lets
  rw [List.length_flatMap]
  congr 1
  apply List.map_congr_left
  intro a _
  unfold letA
  rw [List.length_flatMap]
  congr 1
  apply List.map_congr_left
  intro b _
  unfold letB
  rw [List.length_map, List.length_range]
theorem fm_take_succ {α β : Type} {f : α → List β} {xs : List α} {i : Nat} {x : α} (e : xs[i]? = some x) : (xs.take (i + 1)).flatMap f = (xs.take i).flatMap f ++ f x := by
  have hl := (List.getElem?_eq_some_iff.mp e).1
  rw [← List.take_append_getElem hl, List.flatMap_append, (List.getElem?_eq_some_iff.mp e).2, List.flatMap_singleton]
theorem fm_take_len {α β : Type} {f : α → List β} {xs : List α} {i : Nat} : ((xs.take i).flatMap f).length ≤ (xs.flatMap f).length := by
  have : xs.flatMap f = (xs.take i).flatMap f ++ (xs.drop i).flatMap f := by rw [← List.flatMap_append, List.take_append_drop]
  rw [this, List.length_append]
  omega
theorem noRefs_fm {α : Type} {f : α → List MV} : ∀ {xs : List α}, (∀ x ∈ xs, noRefs (f x) = true) → noRefs (xs.flatMap f) = true := by
  have app : ∀ xs ys : List MV, noRefs xs = true → noRefs ys = true → noRefs (xs ++ ys) = true := by
    intro xs
    induction xs with
    | nil => intro ys _ h; exact h
    | cons x r ih =>
      intro ys h k
      obtain ⟨h1, h2⟩ := Bool.and_eq_true_iff.mp (show (noRef x && noRefs r) = true by unfold noRefs at h; exact h)
      show noRefs (x :: (r ++ ys)) = true
      unfold noRefs
      rw [h1, ih ys h2 k]
      rfl
  intro xs
  induction xs with
  | nil => intro _; rfl
  | cons x r ih =>
    intro h
    rw [List.flatMap_cons]
    exact app _ _ (h x List.mem_cons_self) (ih fun y hy => h y (List.mem_cons_of_mem _ hy))
theorem noRefs_lets : noRefs (lets ns R) = true := noRefs_fm fun a _ => noRefs_fm fun b _ => noRefs_map fun i _ => rfl
theorem letters_ok (P : GoodPic ns R) : callF T W0 (n + 3) 18 [dicT ns R] = M.ret (.ro (lets ns R)) := by
  have G := P.rows
  have few := G.few
  have tot : (lets ns R).length ≤ 16 := by rw [lets_len]; exact P.few
  have itd : itV (dicT ns R) = M.ret (.vs (ns.map .str)) := rfl
  refine call_loc (df := d_letters_of) PT.at_letters_of rfl rfl fun h => RunT.mono (Q := fun v os => v = .ref (h.length + 0) ∧ os = [.lst (lets ns R)]) ?_ fun v os q => by
    obtain ⟨rfl, rfl⟩ := q
    exact byV_lst (by omega) (by rw [loc_get]; rfl) noRefs_lets
  unfold d_letters_of
  walk_at "mr"
  try simp only [q_lst0, itd, r_bndN]
  refine RunT.bnd (runT_alloc (P := fun v os => v = .ref (h.length + 0) ∧ os = [.lst []]) _ ⟨rfl, rfl⟩) fun v os q => ?_
  obtain ⟨rfl, rfl⟩ := q
  refine RunT.bnd (runT_for (Q := fun p os => ∃ o2 o3, p = ([some (dicT ns R), some (.ref (h.length + 0)), o2, o3, none], .nx) ∧ os = [.lst (lets ns R)])
    (fun i ρ os => ∃ o2 o3, ρ = [some (dicT ns R), some (.ref (h.length + 0)), o2, o3, none] ∧ os = [.lst ((ns.take i).flatMap fun a => letA ns R a)]) ⟨_, _, rfl, by rw [List.take_zero]; rfl⟩ (by rw [List.length_map]; refine lt_W0 ?_; omega) (fun i x ρ os hx hi => ?_) (fun ρ os hi => ?_)) fun p os q => ?_
  · obtain ⟨o2, o3, rfl, rfl⟩ := hi
    rw [List.getElem?_map] at hx
    obtain ⟨a, hai, rfl⟩ := Option.map_eq_some_iff.mp hx
    have ha := List.mem_of_getElem? hai
    refine runT_ret _ ?_
    walk_at "mr"
    try simp only [itd, r_bndN]
    refine RunT.bnd (runT_for (Q := fun p os => ∃ o3, p = ([some (dicT ns R), some (.ref (h.length + 0)), some (.str a), o3, none], .nx) ∧ os = [.lst ((ns.take (i + 1)).flatMap fun a => letA ns R a)])
      (fun j ρ os => ∃ o3, ρ = [some (dicT ns R), some (.ref (h.length + 0)), some (.str a), o3, none] ∧ os = [.lst (((ns.take i).flatMap fun a => letA ns R a) ++ ((ns.take j).flatMap fun b => letB R a b))]) ⟨_, rfl, by rw [List.take_zero]; simp⟩ (by rw [List.length_map]; refine lt_W0 ?_; omega) (fun j x ρ os hx hi => ?_) (fun ρ os hi => ?_)) fun p os q => ?_
    · obtain ⟨o3, rfl, rfl⟩ := hi
      rw [List.getElem?_map] at hx
      obtain ⟨b, hbj, rfl⟩ := Option.map_eq_some_iff.mp hx
      have hb := List.mem_of_getElem? hbj
      refine runT_ret _ ?_
      walk_at "mr"
      refine RunT.bnd (runT_rcv (m := .extend) (j := 0) (P := fun _ os => os = [.lst (((ns.take i).flatMap fun a => letA ns R a) ++ ((ns.take j).flatMap fun b => letB R a b))]) rfl rfl rfl) fun _ os q => ?_
      subst q
      have hcl : (Pic.sel (R a) true b).length ≤ 100 := Nat.le_trans (List.length_filter_le _ _) (G.len a ha)
      have l1 : (((ns.take (i + 1)).flatMap fun a => letA ns R a)).length ≤ 16 := Nat.le_trans fm_take_len tot
      have l2 : (((ns.take (j + 1)).flatMap fun b => letB R a b)).length ≤ (letA ns R a).length := fm_take_len
      rw [fm_take_succ hai, List.length_append] at l1
      rw [fm_take_succ hbj, List.length_append] at l2
      try simp only [said_ok (T := T) (W0 := W0) (n := n) G ha (G.name b hb), r_bndN]
      unfold wds
      try simp only [q_lent, r_bndN, List.length_map, q_rg1n (k := (Pic.sel (R a) true b).length) (by omega)]
      rw [lc_map (fun i : Nat => .int (i : Int)) (fun i : Nat => .tup [.str a, .str b, .int (i : Int)]) (by rw [List.length_range]; refine lt_W0 ?_; omega) (by rw [List.length_range]; omega) (fun _ _ => rfl)]
      rotate_left
      · intro i hi
        refine step_map rfl ?_
        walk_at "mr"
        rw [q_tup3]
      try simp only [r_bndN]
      refine RunT.bnd (runT_extend (j := 0) (P := fun _ os => os = [.lst (((ns.take i).flatMap fun a => letA ns R a) ++ ((ns.take (j + 1)).flatMap fun b => letB R a b))]) rfl (by
        have e : (List.map (fun i : Nat => MV.tup [.str a, .str b, .int (i : Int)]) (List.range (Pic.sel (R a) true b).length)).length = (letB R a b).length := by unfold letB; rw [List.length_map, List.length_map]; rfl
        rw [List.length_append, e]
        omega) (by
        rw [fm_take_succ hbj, ← List.append_assoc]
        rfl)) fun _ os q => ?_
      subst q
      exact runT_ret _ ⟨_, rfl, rfl⟩
    · obtain ⟨o3, rfl, rfl⟩ := hi
      rw [List.length_map, List.take_length, fm_take_succ hai]
      exact ⟨_, rfl, rfl⟩
    · obtain ⟨o3, rfl, rfl⟩ := q
      try simp only [after_nx]
      walk_at "mr"
      exact runT_ret _ ⟨_, _, rfl, rfl⟩
  · obtain ⟨o2, o3, rfl, rfl⟩ := hi
    rw [List.length_map, List.take_length]
    exact ⟨_, _, rfl, rfl⟩
  · obtain ⟨o2, o3, rfl, rfl⟩ := q
    try simp only [after_nx]
    walk_at "mr"
    exact runT_ret _ ⟨rfl, rfl⟩
theorem isK_dicT : isKV (dicT ns R) .non = M.ret false := rfl
theorem isK_non : isKV .non .non = M.ret true := rfl
theorem few_ok {k : Nat} (h : k ≤ 16) : callF T W0 (n + 1) 19 [.int (k : Int)] = M.ret .non := by
  refine call_ret (df := d_want_few_letters) PT.at_want_few_letters rfl rfl ?_
  unfold d_want_few_letters
  walk_at "mr"
  rw [show decide ((16 : Int) < (k : Int)) = false from decide_eq_false (by omega)]
  try simp only [Bool.false_eq_true, if_false]
  walk_at "mr"
theorem checked_ok (P : GoodPic ns R) : callF T W0 (n + 6) 20 [dicL ns R] = M.ret (dicT ns R) := by
  have G := P.rows
  have few := G.few
  have tot : (lets ns R).length ≤ 16 := by rw [lets_len]; exact P.few
  refine call_ret (df := d_checked_rows) PT.at_checked_rows rfl noRef_dicT ?_
  unfold d_checked_rows
  walk_at "mr"
  try simp only [are_rows_ok (T := T) (W0 := W0) (n := n + 1) G, r_bndN, q_trub, Bool.not_true, Bool.false_eq_true, if_false]
  walk_at "mr"
  try simp only [kept_rows_ok (T := T) (W0 := W0) (n := n + 4) G, unheard_ok (T := T) (W0 := W0) (n := n + 2) G P.heard, r_bndN, after_nx]
  walk_at "mr"
  try simp only [unheard_ok (T := T) (W0 := W0) (n := n + 2) G P.heard, r_bndN, after_nx]
  walk_at "mr"
  try simp only [isK_non, r_bndN, Bool.not_true, Bool.false_eq_true, if_false, if_true]
  walk_at "mr"
  try simp only [turning_ok (T := T) (W0 := W0) (n := n + 2) P, r_bndN, after_nx]
  walk_at "mr"
  try simp only [isK_non, r_bndN, Bool.not_true, Bool.false_eq_true, if_false, if_true]
  walk_at "mr"
  have ql : biV .len [dicT ns R] = M.ret (.int (ns.length : Int)) := by unfold dicT; rw [q_lend, List.length_map]
  try simp only [ql, r_bndN, q_gt, e_con]
  walk_at "mr"
  rw [show decide ((4 : Int) < (ns.length : Int)) = false from decide_eq_false (by omega)]
  try simp only [Bool.false_eq_true, if_false]
  walk_at "mr"
  try simp only [letters_ok (T := T) (W0 := W0) (n := n + 2) P, r_bndN, q_lenr, few_ok (T := T) (W0 := W0) (n := n + 4) (k := (lets ns R).length) (by omega)]
/-! ### a picture -/
def pic (ns : List Str) (R : Str → List (Pic.Deed Str)) : MV := .obj (Str.ofString "Picture") [Str.ofString "own_rows"] [dicT ns R]
theorem noRef_pic : noRef (pic ns R) = true := by
  show (noRef (dicT ns R) && true) = true
  rw [noRef_dicT]
  rfl
theorem runT_setf {h : MH} {os : List MO} {j : Nat} {c f : Str} {v : MV} {P : Unit → List MO → Prop} (e : os[j]? = some (.ins c [])) (p : P () (os.set j (.ins c [(f, v)]))) : RunT h (setfV c f (.ref (h.length + j)) v) os P := by
  refine ⟨(), os.set j (.ins c [(f, v)]), ?_, p⟩
  unfold setfV
  dsimp only
  rw [loc_get, e]
  dsimp only
  rw [if_pos rfl, loc_set]
theorem init_ok (P : GoodPic ns R) (h : MH) : callF T W0 (n + 7) 16 [.ref h.length, dicL ns R] (h ++ [.ins (Str.ofString "Picture") []]) = .ok .non (h ++ [.ins (Str.ofString "Picture") [(Str.ofString "own_rows", dicT ns R)]]) := by
  rw [call_eq (df := d_Picture___init__) PT.at_Picture___init__ rfl]
  have r : RunT h ((evSL (callF T W0 (n + 6)) W0 d_Picture___init__.body ([MV.ref (h.length + 0), dicL ns R].map some ++ List.replicate (d_Picture___init__.ns - d_Picture___init__.np) none)).bnd retP) [.ins (Str.ofString "Picture") []] fun v os => v = .non ∧ os = [.ins (Str.ofString "Picture") [(Str.ofString "own_rows", dicT ns R)]] := by
    unfold d_Picture___init__
    walk_at "mr"
    have iw : isoV (Str.ofString "Whole") (dicL ns R) = M.ret false := rfl
    try simp only [t_iso, e_var, List.getElem?_cons_zero, List.getElem?_cons_succ, r_bndN, iw, Bool.false_eq_true, if_false]
    try simp only [s_setf, e_call, el_cons, el_nil, e_var, List.getElem?_cons_zero, List.getElem?_cons_succ, r_bndN, checked_ok (T := T) (W0 := W0) (n := n) P, bnd_assoc]
    refine RunT.bnd (runT_setf (j := 0) (P := fun _ os => os = [.ins (Str.ofString "Picture") [(Str.ofString "own_rows", dicT ns R)]]) rfl rfl) fun _ os q => ?_
    subst q
    walk_at "mr"
    exact runT_ret _ ⟨rfl, rfl⟩
  obtain ⟨v, os, e, rfl, rfl⟩ := r
  exact e
theorem mk_ok (P : GoodPic ns R) : mkV (Str.ofString "Picture") (callF T W0 (n + 7) 16) [dicL ns R] = M.ret (pic ns R) := by
  funext h
  unfold mkV
  rw [init_ok (T := T) (W0 := W0) (n := n) P h]
  dsimp only
  have g : Gr h (h ++ [.ins (Str.ofString "Picture") [(Str.ofString "own_rows", dicT ns R)]]) := Gr.app _ _
  rw [if_pos g.cln, app_self']
  dsimp only
  rw [if_pos (by
    show ((Str.ofString "Picture" == Str.ofString "Picture") && (noRef (dicT ns R) && true)) = true
    rw [noRef_dicT]
    simp), g.take]
  rfl
theorem pl_dS {d : Pic.Deed Str} (h : goodDeed d) {k : Nat} : pl (k + 1) (dS d) = true := by
  unfold dS
  refine pl_tup ?_
  unfold pls
  rw [pl_str (kS_lay d)]
  unfold pls
  rw [pl_str (good_lay h.1)]
  unfold pls
  rw [pl_str (good_lay h.2)]
  unfold pls
  rfl
theorem pls_map {α : Type} {k : Nat} {f : α → MV} : ∀ {xs : List α}, (∀ x ∈ xs, pl k (f x) = true) → pls k (xs.map f) = true
  | [], _ => by cases k <;> rfl
  | x :: r, h => by
    show pls k (f x :: r.map f) = true
    unfold pls
    rw [h x List.mem_cons_self, pls_map fun y hy => h y (List.mem_cons_of_mem _ hy)]
    rfl
theorem pl_rowT (G : GoodRows ns R) {a : Str} (ha : a ∈ ns) : pl 2 (rowT (R a)) = true := pl_tup (pls_map fun d hd => pl_dS (k := 0) (G.deed a ha d hd).1)
theorem eqR_same {f : Str → MV} {h : MH} (hp : ∀ a ∈ ns, pl 2 (f a) = true) : ∀ xs : List Str, (∀ a ∈ xs, a ∈ ns) → eqR h (ns.map fun a => (MV.str a, f a)) (xs.map fun a => (MV.str a, f a)) = some true
  | [], _ => rfl
  | a :: r, hx => by
    have ha := hx a List.mem_cons_self
    show (match findM (.str a) (ns.map fun a => (MV.str a, f a)) with
      | none => some false
      | some y => match reify h 60 (f a), reify h 60 y with
        | some d, some e => if SeqAt.shaped d && SeqAt.shaped e then (eqR h (ns.map fun a => (MV.str a, f a)) (r.map fun a => (MV.str a, f a))).map (PyData.eqv d e && ·) else none
        | _, _ => none) = _
    rw [find_map (f := f) ha, eqR_same hp r fun b hb => hx b (List.mem_cons_of_mem _ hb)]
    dsimp only
    rw [reify_pl 2 60 (f a) (hp a ha) (by omega)]
    dsimp only
    rw [if_pos (by rw [shaped_pl (hp a ha) (by omega)]; rfl), (eqv_pl 2 2 (f a) (f a) (hp a ha) (hp a ha)).mpr rfl]
    rfl
theorem eq_dicT (G : GoodRows ns R) : cmpV .eq (dicT ns R) (dicT ns R) = M.ret true := by
  show eqK (ns.map .str) (ns.map fun a => rowT (R a)) (ns.map .str) (ns.map fun a => rowT (R a)) = _
  funext h
  unfold eqK
  rw [if_pos rfl, zip_self, eqR_same (f := fun a => rowT (R a)) (fun a ha => pl_rowT G ha) ns fun _ h => h]
  rfl
theorem eqo_ok (G : GoodRows ns R) : eqoV (Str.ofString "Picture") (callF T W0 (n + 1) 17) (pic ns R) (pic ns R) = M.ret true := by
  have e : callF T W0 (n + 1) 17 [pic ns R, pic ns R] = M.ret (.bl true) := by
    refine call_ret (df := d_Picture___eq__) PT.at_Picture___eq__ rfl rfl ?_
    unfold d_Picture___eq__
    walk_at "mr"
    have i1 : isoV (Str.ofString "Picture") (pic ns R) = M.ret true := by
      funext h
      show (if Str.ofString "Picture" = Str.ofString "Picture" then Res.ok true h else .stuck) = _
      rw [if_pos rfl]
      rfl
    have f1 : fldV (Str.ofString "Picture") (Str.ofString "own_rows") (pic ns R) = M.ret (dicT ns R) := q_fld (by simp)
    try simp only [e_iso, e_var, List.getElem?_cons_zero, List.getElem?_cons_succ, r_bndN, i1, f1, q_bop, b11, if_true, eq_dicT G]
    walk_at "mr"
  show (if Str.ofString "Picture" = Str.ofString "Picture" ∧ Str.ofString "Picture" = Str.ofString "Picture" then (callF T W0 (n + 1) 17 [pic ns R, pic ns R]).bnd (fun z => match z with
    | .bl k => M.ret k
    | _ => M.stk) else M.stk) = _
  rw [if_pos ⟨rfl, rfl⟩, e]
  rfl
end
end MPV
namespace MPV
open PySem hiding Env
open MP LawT
variable {T : List Def} {W0 : Nat} [PT T] [Wd W0]
local macro_rules | `(tactic| walk_at "mr") => `(tactic| try simp only [bnd_assoc, e_dctT, sl_cons, sl_nil, s_asg, s_par, s_par3, s_aug, s_ex, s_ret, s_retN, s_ifs, s_fors, s_whl, s_pas, t_bop, t_not, t_var, t_cmp, t_chain, t_isK, t_call, t_bi, t_isi, t_idx, bt_one, bt_cons, e_var, e_lit, e_glo, e_tup, e_lst, e_dct, e_bin, e_neg, e_cmp, e_chain, e_isK, e_bop, e_not, e_ife, e_call, e_callk, e_bi, e_isi, e_mth, e_idx, e_slc, e_lc, e_val, e_fld, e_con, el_nil, el_cons, eb_one, eb_cons, eo_no, eo_so, ec_no, ec_so, g_nm, g_tp, g_sb, gl_nil, gl_cons, i_vl, i_rg1, i_rg2, i_en, i_its, i_vas, i_zp, after_nx, after_rt, r_bndN, r_opt, w_nil, w_cons, q_inS, retP_nx, retP_rt, List.replicate_zero, Nat.sub_self, q_add, q_sub, q_neg, q_not, q_bop, q_lt, q_le, q_gt, q_ge, q_eqs, q_nes, q_trub, q_int, q_intb, q_lent, q_lenr, q_idxt0, q_idxt1, q_idxt2, q_isi1, q_isi2, q_itt, q_itr, q_itd, q_its, q_intO, q_tupr, q_tupt, List.map_cons, List.map_nil, List.cons_append, List.nil_append, List.replicate, List.getElem?_cons_zero, List.getElem?_cons_succ, List.set_cons_zero, List.set_cons_succ, if_true, if_false, Bool.false_eq_true, b00, b01, b10, b11, Bool.not_true, Bool.not_false, Bool.true_or, Bool.or_true, Bool.false_or, Bool.or_false])
/-! k22: going, with_one, passed, is_run. -/
theorem runT_idxl {h : MH} {os : List MO} {j : Nat} {xs : List MV} {i : Int} {x : MV} {P : MV → List MO → Prop} (e : os[j]? = some (.lst xs)) (hx : L2.atI xs i = some x) (p : P x os) : RunT h (idxV (.ref (h.length + j)) (.int i)) os P := by
  refine ⟨x, os, ?_, p⟩
  unfold idxV
  dsimp only
  rw [loc_get, e]
  dsimp only
  unfold idxL
  dsimp only
  have : seqOf (h ++ os) (.ref (h.length + j)) = some xs := by
    unfold seqOf
    dsimp only
    rw [loc_get, e]
  rw [this]
  show (match L2.atI xs i with
    | some x => Res.ok x (h ++ os)
    | none => .stuck) = _
  rw [hx]
theorem atI_last {α : Type} {xs : List α} {k : Nat} {x : α} (hk : xs.length = k + 1) (h : xs[k]? = some x) : L2.atI xs (-1) = some x := by
  unfold L2.atI L2.ixN
  rw [if_neg (by omega), if_pos (by omega)]
  show xs[(-1 + (xs.length : Int)).toNat]? = some x
  rw [show (-1 + (xs.length : Int)).toNat = k from by omega]
  exact h
section
variable {n : Nat} {ns : List Str} {R : Str → List (Pic.Deed Str)} {c : Str → Nat}
theorem ir_ok {a : Str} (ha : a ∈ ns) : idxV (dicT ns R) (.str a) = M.ret (.tup ((R a).map dS)) := q_idxN (f := fun a => rowT (R a)) ha
theorem ic_ok {a : Str} (ha : a ∈ ns) : idxV (cntR ns c) (.str a) = M.ret (.int (c a : Int)) := q_idxN (f := fun a => MV.int (c a : Int)) ha
theorem is_going_ok (G : GoodRows ns R) {kvs : List (MV × MV)} (N : Need R (Gets ns R fun a => a ∈ ns) kvs) {a : Str} (ha : a ∈ ns) (hle : c a ≤ (R a).length) :
    callF T W0 (n + 1) 21 [dicT ns R, saysV kvs, cntR ns c, .str a] = M.ret (.bl (Pic.canGo R c a)) := by
  refine call_ret (df := d_is_going) PT.at_is_going rfl rfl ?_
  unfold d_is_going
  walk_at "mr"
  try simp only [ic_ok ha, ir_ok ha, r_bndN, q_tup2]
  walk_at "mr"
  try simp only [ic_ok ha, ir_ok ha, r_bndN, q_lent, List.length_map, q_eqi]
  by_cases hlt : c a < (R a).length
  · rw [show decide ((c a : Int) = ((R a).length : Int)) = false from decide_eq_false (by omega)]
    try simp only [Bool.false_eq_true, if_false]
    walk_at "mr"
    have hb : keyB true (kT a (c a : Int)) = true := rfl
    have ni : cmpV .notin (.tup [.str a, .int (c a : Int)]) (saysV kvs) = M.ret (!(findM (kT a (c a : Int)) kvs).isSome) := by
      have := q_nind (ks := kvs.map (·.1)) (vs := kvs.map (·.2)) hb
      rw [zip_parts] at this
      exact this
    try simp only [ni, r_bndN, q_bop]
    have hd : (R a)[c a]? = some (R a)[c a] := List.getElem?_eq_getElem hlt
    generalize (R a)[c a] = d at hd
    cases hs : d.say with
    | true =>
      have hf := N.no a (c a) (fun w => by
        obtain ⟨_, e, w1, w2, _⟩ := w
        rw [hd] at w1
        cases w1
        rw [hs] at w2
        cases w2)
      have hg : Pic.canGo R c a = true := by
        unfold Pic.canGo
        rw [hd]
        dsimp only
        rw [hs]
        rfl
      rw [hf, hg]
      try simp only [Option.isSome_none, Bool.not_false, b10, Bool.false_eq_true, if_false]
      walk_at "mr"
    | false =>
      have hin : d.other ∈ ns := (G.deed a ha d (List.mem_of_getElem? hd)).2.1
      obtain ⟨hf, hsome⟩ := N.at_ a (c a) ⟨ha, d, hd, hs, hin⟩
      obtain ⟨⟨o, q⟩, hc⟩ := Option.isSome_iff_exists.mp hsome
      have ho : o = d.other := by
        unfold cell at hc
        rw [hd] at hc
        dsimp only at hc
        rw [hs, if_neg Bool.false_ne_true] at hc
        obtain ⟨q', hq, e⟩ := Option.map_eq_some_iff.mp hc
        exact (Prod.mk.inj e).1.symm
      subst ho
      rw [cell_go hd hs hc]
      rw [hc] at hf
      have hf : findM (kT a (c a : Int)) kvs = some (.tup [.str d.other, .int (q : Int)]) := hf
      have hi : idxV (saysV kvs) (.tup [.str a, .int (c a : Int)]) = M.ret (.tup [.str d.other, .int (q : Int)]) := q_idxd hb (by rw [zip_parts]; exact hf)
      rw [hf]
      try simp only [Option.isSome_some, Bool.not_true, b00, if_true, hi, r_bndN]
      walk_at "mr"
      try simp only [ic_ok hin, r_bndN, q_lt]
      walk_at "mr"
      congr 2
      rw [Bool.eq_iff_iff, decide_eq_true_eq, decide_eq_true_eq]
      omega
  · rw [show decide ((c a : Int) = ((R a).length : Int)) = true from decide_eq_true (by omega)]
    try simp only [if_true]
    walk_at "mr"
    have : Pic.canGo R c a = false := by
      cases hg : Pic.canGo R c a with
      | false => rfl
      | true => exact absurd (Pic.canGo_lt hg) hlt
    rw [this]
/-! ### a cut -/
def cutT (ns : List Str) (c : Str → Nat) : MV := .tup (ns.map fun a => .int (c a : Int))
theorem fold_put : ∀ (ns : List Str) (pre : List Str), (pre ++ ns).Nodup → (((ns.map MV.str).zip (ns.map fun a => MV.int (c a : Int))).foldl (fun d p => putM p.1 p.2 d) (cntD pre c)) = cntD (pre ++ ns) c
  | [], pre, _ => by simp
  | a :: r, pre, h => by
    show (((r.map MV.str).zip (r.map fun a => MV.int (c a : Int))).foldl (fun d p => putM p.1 p.2 d) (putM (.str a) (.int (c a : Int)) (cntD pre c))) = _
    have hn : ¬ a ∈ pre := fun z => by
      rw [List.nodup_append] at h
      exact h.2.2 a z a List.mem_cons_self rfl
    have e : putM (.str a) (.int (c a : Int)) (cntD pre c) = cntD (pre ++ [a]) c := by
      unfold cntD
      rw [put_new (f := fun a => MV.int (c a : Int)) hn, List.map_append]
      rfl
    rw [e, fold_put r (pre ++ [a]) (by rw [List.append_assoc]; exact h), List.append_assoc]
    rfl
theorem dz_ok (G : GoodRows ns R) : bvV (dzV (dicT ns R) (cutT ns c)) = M.ret (cntR ns c) := by
  have few := G.few
  have e : dzV (dicT ns R) (cutT ns c) = M.alloc (.dct false (cntD ns c)) := by
    show (if (ns.map MV.str).all keyB1 && fits (ns.map MV.str).length then M.alloc (.dct false (((ns.map MV.str).zip (ns.map fun a => MV.int (c a : Int))).foldl (fun d p => putM p.1 p.2 d) [])) else .stk) = _
    rw [if_pos (by
      rw [fits_lt (by rw [List.length_map]; omega), Bool.and_true, List.all_map, List.all_eq_true]
      intro a _
      rfl)]
    have := fold_put (c := c) ns [] (by simpa using G.nd)
    rw [List.nil_append] at this
    exact congrArg (fun d => M.alloc (.dct false d)) this
  rw [e]
  have e1 : (cntD ns c).map (·.1) = ns.map .str := by unfold cntD; rw [List.map_map]; rfl
  have e2 : (cntD ns c).map (·.2) = ns.map fun a => .int (c a : Int) := by unfold cntD; rw [List.map_map]; rfl
  have b := bv_dct (t := false) (kvs := cntD ns c) (by rw [e1]; exact noRefs_map fun _ _ => rfl) (by rw [e2]; exact noRefs_map fun _ _ => rfl)
  rw [e1, e2] at b
  exact b
theorem going_ok (G : GoodRows ns R) {kvs : List (MV × MV)} (N : Need R (Gets ns R fun a => a ∈ ns) kvs) (hle : ∀ a ∈ ns, c a ≤ (R a).length) :
    callF T W0 (n + 2) 22 [dicT ns R, saysV kvs, cutT ns c] = M.ret (.ro ((ns.filter fun a => Pic.canGo R c a).map .str)) := by
  have few := G.few
  have itd : itV (dicT ns R) = M.ret (.vs (ns.map .str)) := rfl
  refine call_ret (df := d_going) PT.at_going rfl (noRefs_map fun _ _ => rfl) ?_
  unfold d_going
  walk_at "mr"
  try simp only [e_dz, e_var, List.getElem?_cons_zero, List.getElem?_cons_succ, r_bndN, dz_ok G]
  walk_at "mr"
  try simp only [itd, r_bndN]
  rw [lc_filter MV.str (fun a => Pic.canGo R c a) MV.str (by refine lt_W0 ?_; omega) (by omega) (fun _ _ => rfl)]
  rotate_left
  · intro a ha
    refine step_test (b := Pic.canGo R c a) rfl ?_ fun _ => ?_
    · walk_at "mr"
      rw [is_going_ok G N ha (hle a ha)]
      walk_at "mr"
    · walk_at "mr"
  walk_at "mr"
theorem q_zpd {f : Str → MV} : zpV (dicT ns R) (.tup (ns.map f)) = M.ret (.vs (ns.map fun a => .tup [.str a, f a])) := by
  show M.ret (Itv.vs (((ns.map MV.str).zip (ns.map f)).map fun p => MV.tup [p.1, p.2])) = _
  rw [zip_self, List.map_map]
  rfl
theorem noRef_cutT : noRef (cutT ns c) = true := by
  show noRefs _ = true
  exact noRefs_map fun _ _ => rfl
theorem with_one_ok (G : GoodRows ns R) {a : Str} : callF T W0 (n + 1) 23 [dicT ns R, cutT ns c, .str a] = M.ret (cutT ns (upC c a (c a + 1))) := by
  have few := G.few
  refine call_ret (df := d_with_one) PT.at_with_one rfl noRef_cutT ?_
  unfold d_with_one
  walk_at "mr"
  have z : zpV (dicT ns R) (cutT ns c) = M.ret (.vs (ns.map fun a => .tup [.str a, .int (c a : Int)])) := q_zpd
  try simp only [z, r_bndN]
  rw [lc_map (fun b => MV.tup [.str b, .int (c b : Int)]) (fun b => .int ((upC c a (c a + 1) b : Nat) : Int)) (by refine lt_W0 ?_; omega) (by omega) (fun _ _ => rfl)]
  rotate_left
  · intro b hb
    refine step_map rfl ?_
    walk_at "mr"
    congr 2
    unfold upC
    by_cases h : b = a
    · subst h
      simp
    · have : (b == a) = false := by simpa using h
      rw [this, if_neg h]
      simp
  walk_at "mr"
  rfl
theorem fp_ok : fldV (Str.ofString "Picture") (Str.ofString "own_rows") (pic ns R) = M.ret (dicT ns R) := q_fld (by simp)
theorem empty_ok (G : GoodRows ns R) : callF T W0 (n + 1) 24 [pic ns R] = M.ret (cutT ns fun _ => 0) := by
  have few := G.few
  have itd : itV (dicT ns R) = M.ret (.vs (ns.map .str)) := rfl
  refine call_ret (df := d_empty_cut) PT.at_empty_cut rfl noRef_cutT ?_
  unfold d_empty_cut
  walk_at "mr"
  try simp only [fp_ok, itd, r_bndN]
  rw [lc_map MV.str (fun b => .int 0) (by refine lt_W0 ?_; omega) (by omega) (fun _ _ => rfl)]
  rotate_left
  · intro b hb
    refine step_map rfl ?_
    walk_at "mr"
  walk_at "mr"
  rfl
theorem full_ok (G : GoodRows ns R) : callF T W0 (n + 1) 25 [pic ns R] = M.ret (cutT ns fun a => (R a).length) := by
  have few := G.few
  refine call_ret (df := d_full_cut) PT.at_full_cut rfl noRef_cutT ?_
  unfold d_full_cut
  walk_at "mr"
  have va : vasV (dicT ns R) = M.ret (.vs (ns.map fun a => rowT (R a))) := rfl
  try simp only [fp_ok, va, r_bndN]
  rw [lc_map (fun a => rowT (R a)) (fun a => .int ((R a).length : Int)) (by refine lt_W0 ?_; omega) (by omega) (fun _ _ => rfl)]
  rotate_left
  · intro b hb
    refine step_map rfl ?_
    walk_at "mr"
    unfold rowT
    rw [q_lent, List.length_map]
  walk_at "mr"
  rfl
/-! ### a run -/
def strD : Str := ⟨#[]⟩
def stepsB (R : Str → List (Pic.Deed Str)) (s : List Str) : Bool := (List.range s.length).all fun i => Pic.canGo R (Pic.cts (s.take i)) (s.getD i strD)
theorem stepsB_iff {s : List Str} : stepsB R s = true ↔ Pic.Steps R s := by
  unfold stepsB
  rw [List.all_eq_true]
  constructor
  · intro h i a e
    have z := h i (List.mem_range.mpr (List.getElem?_eq_some_iff.mp e).1)
    rw [List.getD_eq_getElem?_getD, e] at z
    exact z
  · intro h i hi
    have hi := List.mem_range.mp hi
    rw [List.getD_eq_getElem?_getD, List.getElem?_eq_getElem hi]
    exact h i _ (List.getElem?_eq_getElem hi)
def fullB (ns : List Str) (R : Str → List (Pic.Deed Str)) (c : Str → Nat) : Bool := ns.all fun a => decide (c a = (R a).length)
def cuts (ns : List Str) (s : List Str) (k : Nat) : List MV := (List.range k).map fun i => cutT ns (Pic.cts (s.take i))
def isRun (ns : List Str) (R : Str → List (Pic.Deed Str)) (s : List Str) : Bool := stepsB R s && fullB ns R (Pic.cts s)
def passV (ns : List Str) (R : Str → List (Pic.Deed Str)) (s : List Str) : MV := if isRun ns R s then .ro (cuts ns s (s.length + 1)) else .non
theorem pl_cutT {k : Nat} : pl (k + 1) (cutT ns c) = true := pl_tup (pls_map fun _ _ => pl_int)
theorem cut_eq {d : Str → Nat} : decide (∀ a ∈ ns, c a = d a) = true ↔ cutT ns c = cutT ns d := by
  rw [decide_eq_true_eq]
  unfold cutT
  constructor
  · intro h
    congr 1
    apply List.map_congr_left
    intro a ha
    rw [h a ha]
  · intro h a ha
    have h := List.map_inj_left.mp (MV.tup.inj h) a ha
    have h := MV.int.inj h
    omega
theorem upC_cts {s : List Str} {a : Str} : upC (Pic.cts s) a (Pic.cts s a + 1) = Pic.cts (s ++ [a]) := by
  funext b
  rw [Pic.cts_snoc]
  unfold upC
  by_cases h : b = a
  · subst h; rw [if_pos rfl, if_pos rfl]
  · rw [if_neg h, if_neg fun z => h z.symm]; rfl
theorem noRefs_cuts {s : List Str} {k : Nat} : noRefs (cuts ns s k) = true := noRefs_map fun _ _ => noRef_cutT
theorem passed_ok (P : GoodPic ns R) {s : List Str} {v : MV} (hs : ∀ a ∈ s, a ∈ ns) (hl : s.length ≤ 1000) (hv : v = .ro (s.map .str) ∨ v = .tup (s.map .str)) :
    callF T W0 (n + 3) 26 [pic ns R, v] = M.ret (passV ns R s) := by
  have G := P.rows
  have few := G.few
  obtain ⟨b1, b2, i1, i2, i3⟩ : ∃ b1 b2, isiV v .list = M.ret b1 ∧ isiV v .tuple = M.ret b2 ∧ (b1 || b2) = true := by rcases hv with rfl | rfl <;> exact ⟨_, _, rfl, rfl, rfl⟩
  have it : itV v = M.ret (.vs (s.map .str)) := by rcases hv with rfl | rfl <;> rfl
  refine call_loc (df := d_passed) PT.at_passed rfl rfl fun h => RunT.mono (Q := fun v os => (isRun ns R s = true ∧ v = .ref (h.length + 0) ∧ os = [.lst (cuts ns s (s.length + 1))]) ∨ (isRun ns R s = false ∧ v = .non)) ?_ fun v os q => by
    unfold passV
    rcases q with ⟨e, rfl, rfl⟩ | ⟨e, rfl⟩
    · rw [e, if_pos rfl]
      exact byV_lst (by omega) (by rw [loc_get]; rfl) noRefs_cuts
    · rw [e, if_neg Bool.false_ne_true]
      rfl
  unfold d_passed
  walk_at "mr"
  try simp only [fp_ok, r_bndN]
  refine RunT.bnd (says_runT (T := T) (W0 := W0) (n := n) G P.heard) fun w os q => ?_
  obtain ⟨rfl, kvs, rfl, N, hkl⟩ := q
  try simp only [empty_ok (T := T) (W0 := W0) (n := n + 1) G, r_bndN, q_lst1]
  refine RunT.bnd (runT_alloc (P := fun v os => v = .ref (h.length + 0) ∧ os = [.lst [cutT ns fun _ => 0]]) _ ⟨rfl, rfl⟩) fun w os q => ?_
  obtain ⟨rfl, rfl⟩ := q
  try simp only [after_nx]
  try simp only [sl_cons, s_ifs, t_not, t_isi, e_var, List.getElem?_cons_zero, List.getElem?_cons_succ, List.set_cons_zero, List.set_cons_succ, r_bndN, q_isi2, i1, i2, i3, Bool.not_true, Bool.false_eq_true, if_false, bnd_assoc]
  walk_at "mr"
  try simp only [it, r_bndN]
  refine RunT.bnd (runT_for (Q := fun p os => (p.2 = .rt .non ∧ ¬ Pic.Steps R s) ∨ (∃ o2, p = ([some (pic ns R), some v, o2, some (dicT ns R), some (saysV kvs), some (.ref (h.length + 0))], .nx) ∧ os = [.lst (cuts ns s (s.length + 1))] ∧ Pic.Steps R s))
    (fun i ρ os => ∃ o2, ρ = [some (pic ns R), some v, o2, some (dicT ns R), some (saysV kvs), some (.ref (h.length + 0))] ∧ os = [.lst (cuts ns s (i + 1))] ∧ Pic.Steps R (s.take i)) ⟨_, rfl, rfl, by rw [List.take_zero]; intro i a e; simp at e⟩ (by rw [List.length_map]; refine lt_W0 ?_; omega) (fun i x ρ os hx hi => ?_) (fun ρ os hi => ?_)) fun p os q => ?_
  · obtain ⟨o2, rfl, rfl, st⟩ := hi
    rw [List.getElem?_map] at hx
    obtain ⟨a, hai, rfl⟩ := Option.map_eq_some_iff.mp hx
    have hil := (List.getElem?_eq_some_iff.mp hai).1
    have ha := hs a (List.mem_of_getElem? hai)
    have hlast : L2.atI (cuts ns s (i + 1)) (-1) = some (cutT ns (Pic.cts (s.take i))) := atI_last (k := i) (by unfold cuts; rw [List.length_map, List.length_range]) (by
      unfold cuts
      rw [List.getElem?_map, List.getElem?_range (by omega)]
      rfl)
    have go := going_ok (T := T) (W0 := W0) (n := n) (c := Pic.cts (s.take i)) G N (fun a _ => Pic.steps_le st a)
    refine runT_ret _ ?_
    walk_at "mr"
    try simp only [isi_str, r_bndN, Bool.not_true, b00, if_true]
    walk_at "mr"
    refine RunT.bnd (runT_idxl (j := 0) (P := fun v os => v = cutT ns (Pic.cts (s.take i)) ∧ os = [.lst (cuts ns s (i + 1))]) rfl hlast ⟨rfl, rfl⟩) fun w os q => ?_
    obtain ⟨rfl, rfl⟩ := q
    try simp only [go, r_bndN]
    try simp only [q_notin (in_names (ns := ns.filter fun a => Pic.canGo R (Pic.cts (s.take i)) a) (G.name a ha) fun b hb => G.name b (List.mem_filter.mp hb).1), r_bndN]
    by_cases hg : Pic.canGo R (Pic.cts (s.take i)) a = true
    · rw [decide_eq_true (List.mem_filter.mpr ⟨ha, hg⟩)]
      try simp only [Bool.not_true, Bool.false_eq_true, if_false]
      walk_at "mr"
      refine RunT.bnd (runT_rcv (m := .append) (j := 0) (P := fun _ os => os = [.lst (cuts ns s (i + 1))]) rfl rfl rfl) fun _ os q => ?_
      subst q
      refine RunT.bnd (runT_idxl (j := 0) (P := fun v os => v = cutT ns (Pic.cts (s.take i)) ∧ os = [.lst (cuts ns s (i + 1))]) rfl hlast ⟨rfl, rfl⟩) fun w os q => ?_
      obtain ⟨rfl, rfl⟩ := q
      try simp only [with_one_ok (T := T) (W0 := W0) (n := n + 1) G, r_bndN, upC_cts]
      have es : s.take i ++ [a] = s.take (i + 1) := by rw [← List.take_append_getElem hil, (List.getElem?_eq_some_iff.mp hai).2]
      rw [es]
      refine RunT.bnd (runT_append (j := 0) (P := fun _ os => os = [.lst (cuts ns s (i + 1 + 1))]) rfl (by unfold cuts; rw [List.length_map, List.length_range]; omega) (by
        show [MO.lst (cuts ns s (i + 1) ++ [cutT ns (Pic.cts (s.take (i + 1)))])] = _
        unfold cuts
        rw [List.range_succ (n := i + 1), List.map_append]
        rfl)) fun _ os q => ?_
      subst q
      exact runT_ret _ ⟨_, rfl, rfl, by rw [← es]; exact st.snoc hg⟩
    · rw [decide_eq_false (fun z => hg (List.mem_filter.mp z).2)]
      try simp only [Bool.not_false, if_true]
      walk_at "mr"
      exact runT_ret _ (.inl ⟨rfl, fun z => hg (z i a hai)⟩)
  · obtain ⟨o2, rfl, rfl, st⟩ := hi
    rw [List.length_map] at st ⊢
    rw [List.take_length] at st
    exact .inr ⟨_, rfl, rfl, st⟩
  · rcases q with ⟨q1, q2⟩ | ⟨o2, rfl, rfl, st⟩
    · obtain ⟨ρ, fl⟩ := p
      have q1 : fl = .rt .non := q1
      subst q1
      walk_at "mr"
      refine runT_ret _ (.inr ⟨?_, rfl⟩)
      unfold isRun
      rw [Bool.and_eq_false_iff]
      left
      cases hb : stepsB R s with
      | false => rfl
      | true => exact absurd (stepsB_iff.mp hb) q2
    · try simp only [after_nx]
      walk_at "mr"
      have hlast : L2.atI (cuts ns s (s.length + 1)) (-1) = some (cutT ns (Pic.cts s)) := atI_last (k := s.length) (by unfold cuts; rw [List.length_map, List.length_range]) (by
        unfold cuts
        rw [List.getElem?_map, List.getElem?_range (by omega)]
        show some (cutT ns (Pic.cts (s.take s.length))) = _
        rw [List.take_length])
      refine RunT.bnd (runT_idxl (j := 0) (P := fun v os => v = cutT ns (Pic.cts s) ∧ os = [.lst (cuts ns s (s.length + 1))]) rfl hlast ⟨rfl, rfl⟩) fun w os q => ?_
      obtain ⟨rfl, rfl⟩ := q
      have ce : cmpV .eq (cutT ns (Pic.cts s)) (cutT ns fun a => (R a).length) = M.ret (decide (∀ a ∈ ns, Pic.cts s a = (R a).length)) := q_eqp (n := 1) (m := 1) pl_cutT pl_cutT (by omega) (by omega) cut_eq
      try simp only [full_ok (T := T) (W0 := W0) (n := n + 1) G, r_bndN, ce]
      have hi : isRun ns R s = decide (∀ a ∈ ns, Pic.cts s a = (R a).length) := by
        unfold isRun
        rw [stepsB_iff.mpr st, Bool.true_and]
        unfold fullB
        rw [Bool.eq_iff_iff, List.all_eq_true, decide_eq_true_eq]
        exact ⟨fun h a ha => of_decide_eq_true (h a ha), fun h a ha => decide_eq_true (h a ha)⟩
      rw [← hi]
      cases hr : isRun ns R s with
      | true =>
        try simp only [if_true]
        walk_at "mr"
        exact runT_ret _ (.inl ⟨trivial, rfl, rfl⟩)
      | false =>
        try simp only [Bool.false_eq_true, if_false]
        walk_at "mr"
        exact runT_ret _ (.inr ⟨trivial, rfl⟩)
theorem isK_passV {s : List Str} : isKV (passV ns R s) .non = M.ret (!isRun ns R s) := by
  unfold passV
  cases isRun ns R s <;> rfl
theorem is_run_ok (P : GoodPic ns R) {s : List Str} {v : MV} (hs : ∀ a ∈ s, a ∈ ns) (hl : s.length ≤ 1000) (hv : v = .ro (s.map .str) ∨ v = .tup (s.map .str)) :
    callF T W0 (n + 4) 27 [pic ns R, v] = M.ret (.bl (isRun ns R s)) := by
  refine call_ret (df := d_is_run) PT.at_is_run rfl rfl ?_
  unfold d_is_run
  walk_at "mr"
  try simp only [passed_ok (T := T) (W0 := W0) (n := n) P hs hl hv, r_bndN, isK_passV, if_true, Bool.not_not]
  walk_at "mr"
theorem want_run_ok (P : GoodPic ns R) {s : List Str} {v : MV} (hs : ∀ a ∈ s, a ∈ ns) (hl : s.length ≤ 1000) (hv : v = .ro (s.map .str) ∨ v = .tup (s.map .str)) (hr : isRun ns R s = true) :
    callF T W0 (n + 4) 28 [pic ns R, v] = M.ret (.ro (cuts ns s (s.length + 1))) := by
  have e : passV ns R s = .ro (cuts ns s (s.length + 1)) := by unfold passV; rw [hr, if_pos rfl]
  refine call_ret (df := d_want_run) PT.at_want_run rfl (by show noRefs _ = true; exact noRefs_cuts) ?_
  unfold d_want_run
  walk_at "mr"
  try simp only [passed_ok (T := T) (W0 := W0) (n := n) P hs hl hv, r_bndN, e]
  walk_at "mr"
  have ik : isKV (.ro (cuts ns s (s.length + 1))) .non = M.ret false := rfl
  try simp only [ik, r_bndN, Bool.false_eq_true, if_false]
  walk_at "mr"
end
end MPV
namespace MPV
open PySem hiding Env
open MP LawT
variable {T : List Def} {W0 : Nat} [PT T] [Wd W0]
local macro_rules | `(tactic| walk_at "mr") => `(tactic| try simp only [bnd_assoc, e_dctT, sl_cons, sl_nil, s_asg, s_par, s_par3, s_aug, s_ex, s_ret, s_retN, s_ifs, s_fors, s_whl, s_pas, t_bop, t_not, t_var, t_cmp, t_chain, t_isK, t_call, t_bi, t_isi, t_idx, bt_one, bt_cons, e_var, e_lit, e_glo, e_tup, e_lst, e_dct, e_bin, e_neg, e_cmp, e_chain, e_isK, e_bop, e_not, e_ife, e_call, e_callk, e_bi, e_isi, e_mth, e_idx, e_slc, e_lc, e_val, e_fld, e_con, el_nil, el_cons, eb_one, eb_cons, eo_no, eo_so, ec_no, ec_so, g_nm, g_tp, g_sb, gl_nil, gl_cons, i_vl, i_rg1, i_rg2, i_en, i_its, i_vas, i_zp, after_nx, after_rt, r_bndN, r_opt, w_nil, w_cons, q_inS, retP_nx, retP_rt, List.replicate_zero, Nat.sub_self, q_add, q_sub, q_neg, q_not, q_bop, q_lt, q_le, q_gt, q_ge, q_eqs, q_nes, q_trub, q_int, q_intb, q_lent, q_lenr, q_idxt0, q_idxt1, q_idxt2, q_isi1, q_isi2, q_itt, q_itr, q_itd, q_its, q_intO, q_tupr, q_tupt, List.map_cons, List.map_nil, List.cons_append, List.nil_append, List.replicate, List.getElem?_cons_zero, List.getElem?_cons_succ, List.set_cons_zero, List.set_cons_succ, if_true, if_false, Bool.false_eq_true, b00, b01, b10, b11, Bool.not_true, Bool.not_false, Bool.true_or, Bool.or_true, Bool.false_or, Bool.or_false])
/-! k22: rooms. -/
section
variable {n : Nat} {ns : List Str} {R : Str → List (Pic.Deed Str)} {c : Str → Nat}
/-- letters more said than got -/
def ld (r : List (Pic.Deed Str)) : Int := (r.map fun d => if d.say then (1 : Int) else -1).sum
def ldsL (r : List (Pic.Deed Str)) (k : Nat) : List MV := (List.range k).map fun i => .int (ld (r.take i))
def ldsV (r : List (Pic.Deed Str)) : MV := .ro (ldsL r (r.length + 1))
theorem noRefs_lds {r : List (Pic.Deed Str)} {k : Nat} : noRefs (ldsL r k) = true := noRefs_map fun _ _ => rfl
theorem ld_snoc {r : List (Pic.Deed Str)} {d : Pic.Deed Str} : ld (r ++ [d]) = ld r + if d.say then (1 : Int) else -1 := by
  unfold ld
  rw [List.map_append, List.sum_append]
  simp
theorem kS_say {d : Pic.Deed Str} : (kS d == Str.ofString "say") = d.say := by
  unfold kS
  cases d.say <;> decide +kernel
theorem mapO_refs {H : MH} {L j : Nat} {f : Str → List MV} (hf : ∀ a, noRefs (f a) = true) : ∀ (xs : List Str) (b : Nat), (∀ i a, xs[i]? = some a → H[L + (b + i)]? = some (.lst (f a))) → mapO (byV H L (j + 1)) ((List.range' b xs.length).map fun i => .ref (L + i)) = some (xs.map fun a => .ro (f a))
  | [], _, _ => rfl
  | a :: r, b, h => by
    rw [List.length_cons, List.range'_succ, List.map_cons]
    unfold mapO
    have h0 : H[L + b]? = some (.lst (f a)) := h 0 a rfl
    rw [byV_lst (by omega) h0 (hf a), mapO_refs hf r (b + 1) fun i x e => by
      have := h (i + 1) x (by simpa using e)
      rw [show L + (b + 1 + i) = L + (b + (i + 1)) from by omega]
      exact this]
    rfl
theorem loads_ok (G : GoodRows ns R) : callF T W0 (n + 1) 29 [pic ns R] = M.ret (.ro (ns.map fun a => ldsV (R a))) := by
  have few := G.few
  refine call_loc (df := d_loads_of) PT.at_loads_of rfl rfl fun h => RunT.mono (Q := fun v os => v = .ref (h.length + 0) ∧ os = .lst ((List.range' 1 ns.length).map fun i => .ref (h.length + i)) :: ns.map fun a => MO.lst (ldsL (R a) ((R a).length + 1))) ?_ fun v os q => by
    obtain ⟨rfl, rfl⟩ := q
    have e : byV (h ++ (.lst ((List.range' 1 ns.length).map fun i => .ref (h.length + i)) :: ns.map fun a => MO.lst (ldsL (R a) ((R a).length + 1)))) h.length 60 (.ref (h.length + 0)) = (mapO (byV (h ++ (.lst ((List.range' 1 ns.length).map fun i => .ref (h.length + i)) :: ns.map fun a => MO.lst (ldsL (R a) ((R a).length + 1)))) h.length 59) ((List.range' 1 ns.length).map fun i => .ref (h.length + i))).map .ro := by
      unfold byV
      rw [if_neg (by unfold noRef; exact Bool.false_ne_true)]
      dsimp only
      rw [if_pos (by omega), loc_get]
      rfl
    rw [e, mapO_refs (f := fun a => ldsL (R a) ((R a).length + 1)) (fun a => noRefs_lds) ns 1 fun i a ea => by
      rw [loc_get, show 1 + i = i + 1 from by omega, List.getElem?_cons_succ, List.getElem?_map, ea]
      rfl]
    rfl
  unfold d_loads_of
  walk_at "mr"
  try simp only [q_lst0, r_bndN]
  refine RunT.bnd (runT_alloc (P := fun v os => v = .ref (h.length + 0) ∧ os = [.lst []]) _ ⟨rfl, rfl⟩) fun v os q => ?_
  obtain ⟨rfl, rfl⟩ := q
  have va : vasV (dicT ns R) = M.ret (.vs (ns.map fun a => rowT (R a))) := rfl
  try simp only [fp_ok, va, r_bndN]
  refine RunT.bnd (runT_for (Q := fun p os => ∃ o2 o3 o4, p = ([some (pic ns R), some (.ref (h.length + 0)), o2, o3, o4], .nx) ∧ os = .lst ((List.range' 1 ns.length).map fun i => .ref (h.length + i)) :: ns.map fun a => MO.lst (ldsL (R a) ((R a).length + 1)))
    (fun i ρ os => ∃ o2 o3 o4, ρ = [some (pic ns R), some (.ref (h.length + 0)), o2, o3, o4] ∧ os = .lst ((List.range' 1 i).map fun i => .ref (h.length + i)) :: (ns.take i).map fun a => MO.lst (ldsL (R a) ((R a).length + 1))) ⟨_, _, _, rfl, by rw [List.take_zero]; rfl⟩ (by rw [List.length_map]; refine lt_W0 ?_; omega) (fun i x ρ os hx hi => ?_) (fun ρ os hi => ?_)) fun p os q => ?_
  · obtain ⟨o2, o3, o4, rfl, rfl⟩ := hi
    rw [List.getElem?_map] at hx
    obtain ⟨a, hai, rfl⟩ := Option.map_eq_some_iff.mp hx
    have ha := List.mem_of_getElem? hai
    have hil := (List.getElem?_eq_some_iff.mp hai).1
    have hR := G.len a ha
    refine runT_ret _ ?_
    walk_at "mr"
    try simp only [q_lst1]
    generalize hD : ((ns.take i).map fun a => MO.lst (ldsL (R a) ((R a).length + 1))) = D
    have hDl : D.length = i := by rw [← hD, List.length_map, List.length_take]; omega
    generalize hF : (MO.lst ((List.range' 1 i).map fun i => .ref (h.length + i))) = F
    refine RunT.bnd (runT_alloc (P := fun v os => v = .ref (h.length + (i + 1)) ∧ os = F :: (D ++ [.lst (ldsL (R a) (0 + 1))])) _ ⟨by rw [List.length_cons, hDl], rfl⟩) fun v os q => ?_
    obtain ⟨rfl, rfl⟩ := q
    have it : itV (rowT (R a)) = M.ret (.vs ((R a).map dS)) := rfl
    try simp only [it, r_bndN]
    have gD : ∀ o : MO, (F :: (D ++ [o]))[i + 1]? = some o := fun o => by
      rw [List.getElem?_cons_succ, List.getElem?_append_right (by omega), hDl, Nat.sub_self]
      rfl
    have sD : ∀ o o' : MO, (F :: (D ++ [o])).set (i + 1) o' = F :: (D ++ [o']) := fun o o' => by
      rw [List.set_cons_succ, List.set_append_right _ _ (by omega), hDl, Nat.sub_self]
      rfl
    refine RunT.bnd (runT_for (Q := fun p os => ∃ o4, p = ([some (pic ns R), some (.ref (h.length + 0)), some (rowT (R a)), some (.ref (h.length + (i + 1))), o4], .nx) ∧ os = F :: (D ++ [.lst (ldsL (R a) ((R a).length + 1))]))
      (fun k ρ os => ∃ o4, ρ = [some (pic ns R), some (.ref (h.length + 0)), some (rowT (R a)), some (.ref (h.length + (i + 1))), o4] ∧ os = F :: (D ++ [.lst (ldsL (R a) (k + 1))])) ⟨_, rfl, rfl⟩ (by rw [List.length_map]; refine lt_W0 ?_; omega) (fun k x ρ os hx hi => ?_) (fun ρ os hi => ?_)) fun p os q => ?_
    · obtain ⟨o4, rfl, rfl⟩ := hi
      rw [List.getElem?_map] at hx
      obtain ⟨d, hd, rfl⟩ := Option.map_eq_some_iff.mp hx
      have hkl := (List.getElem?_eq_some_iff.mp hd).1
      refine runT_ret _ ?_
      walk_at "mr"
      refine RunT.bnd (runT_rcv (m := .append) (j := i + 1) (P := fun _ os => os = F :: (D ++ [.lst (ldsL (R a) (k + 1))])) rfl (gD _) rfl) fun _ os q => ?_
      subst q
      refine RunT.bnd (runT_idxl (j := i + 1) (P := fun v os => v = .int (ld ((R a).take k)) ∧ os = F :: (D ++ [.lst (ldsL (R a) (k + 1))])) (gD _) (atI_last (k := k) (by unfold ldsL; rw [List.length_map, List.length_range]) (by
        unfold ldsL
        rw [List.getElem?_map, List.getElem?_range (by omega)]
        rfl)) ⟨rfl, rfl⟩) fun v os q => ?_
      obtain ⟨rfl, rfl⟩ := q
      unfold dS
      walk_at "mr"
      try simp only [kS_say]
      have es : (R a).take (k + 1) = (R a).take k ++ [d] := by rw [← List.take_append_getElem hkl, (List.getElem?_eq_some_iff.mp hd).2]
      have en : ldsL (R a) (k + 1 + 1) = ldsL (R a) (k + 1) ++ [.int (ld ((R a).take k) + if d.say then (1 : Int) else -1)] := by
        unfold ldsL
        rw [List.range_succ (n := k + 1), List.map_append, ← ld_snoc, ← es]
        rfl
      cases hs : d.say with
      | true =>
        rw [hs] at en
        rw [if_pos rfl] at en
        try simp only [if_true]
        walk_at "mr"
        refine RunT.bnd (runT_append (j := i + 1) (P := fun _ os => os = F :: (D ++ [.lst (ldsL (R a) (k + 1 + 1))])) (gD _) (by unfold ldsL; rw [List.length_map, List.length_range]; omega) (by rw [sD, en])) fun _ os q => ?_
        subst q
        exact runT_ret _ ⟨_, rfl, rfl⟩
      | false =>
        rw [hs] at en
        rw [if_neg Bool.false_ne_true] at en
        try simp only [Bool.false_eq_true, if_false]
        walk_at "mr"
        refine RunT.bnd (runT_append (j := i + 1) (P := fun _ os => os = F :: (D ++ [.lst (ldsL (R a) (k + 1 + 1))])) (gD _) (by unfold ldsL; rw [List.length_map, List.length_range]; omega) (by rw [sD, en])) fun _ os q => ?_
        subst q
        exact runT_ret _ ⟨_, rfl, rfl⟩
    · obtain ⟨o4, rfl, rfl⟩ := hi
      rw [List.length_map]
      exact ⟨_, rfl, rfl⟩
    · obtain ⟨o4, rfl, rfl⟩ := q
      try simp only [after_nx]
      walk_at "mr"
      subst hF
      refine RunT.bnd (runT_rcv (m := .append) (j := 0) (P := fun _ os => os = MO.lst ((List.range' 1 i).map fun i => .ref (h.length + i)) :: (D ++ [.lst (ldsL (R a) ((R a).length + 1))])) rfl rfl rfl) fun _ os q => ?_
      subst q
      refine RunT.bnd (runT_append (j := 0) (P := fun _ os => os = MO.lst ((List.range' 1 (i + 1)).map fun i => .ref (h.length + i)) :: (D ++ [.lst (ldsL (R a) ((R a).length + 1))])) rfl (by rw [List.length_map, List.length_range']; omega) (by
        rw [List.range'_1_concat, List.map_append]
        show MO.lst (_ ++ [MV.ref (h.length + (i + 1))]) :: _ = _
        rw [show 1 + i = i + 1 from by omega]
        rfl)) fun _ os q => ?_
      subst q
      refine runT_ret _ ⟨_, _, _, rfl, ?_⟩
      rw [← hD, ← List.take_append_getElem hil, List.map_append, (List.getElem?_eq_some_iff.mp hai).2]
      rfl
  · obtain ⟨o2, o3, o4, rfl, rfl⟩ := hi
    rw [List.length_map, List.take_length]
    exact ⟨_, _, _, rfl, rfl⟩
  · obtain ⟨o2, o3, o4, rfl, rfl⟩ := q
    try simp only [after_nx]
    walk_at "mr"
    exact runT_ret _ ⟨rfl, rfl⟩
/-- letters under way at a cut -/
def loadC (ns : List Str) (R : Str → List (Pic.Deed Str)) (c : Str → Nat) : Int := (ns.map fun a => ld ((R a).take (c a))).sum
theorem load_at_ok (G : GoodRows ns R) (hle : ∀ a ∈ ns, c a ≤ (R a).length) : callF T W0 (n + 1) 30 [.ro (ns.map fun a => ldsV (R a)), cutT ns c] = M.ret (.int (loadC ns R c)) := by
  have few := G.few
  refine call_ret (df := d_load_at) PT.at_load_at rfl rfl ?_
  unfold d_load_at
  walk_at "mr"
  have z : zpV (.ro (ns.map fun a => ldsV (R a))) (cutT ns c) = M.ret (.vs (ns.map fun a => .tup [ldsV (R a), .int (c a : Int)])) := by
    show M.ret (Itv.vs (((ns.map fun a => ldsV (R a)).zip (ns.map fun a => MV.int (c a : Int))).map fun p => MV.tup [p.1, p.2])) = _
    rw [zip_self, List.map_map]
    rfl
  try simp only [z, r_bndN]
  rw [lc_map (fun a => MV.tup [ldsV (R a), .int (c a : Int)]) (fun a => MV.int (ld ((R a).take (c a)))) (by refine lt_W0 ?_; omega) (by omega) (fun _ _ => rfl)]
  rotate_left
  · intro a ha
    refine step_map rfl ?_
    walk_at "mr"
    refine q_idxr (at_nat ?_)
    have := hle a ha
    unfold ldsL
    rw [List.getElem?_map, List.getElem?_range (by omega)]
    rfl
  try simp only [r_bndN, q_summ]
  walk_at "mr"
  rfl
def maxI : List Int → Int
  | [] => 0
  | i :: r => r.foldl (fun a b => if b > a then b else a) i
theorem q_maxm {α : Type} {xs : List α} {p : α → Int} (h : xs ≠ []) : biV .maxL [.ro (xs.map fun x => MV.int (p x))] = M.ret (.int (maxI (xs.map p))) := by
  funext hh
  show ((lstOf (.ro (xs.map fun x => MV.int (p x)))).bnd fun xs => (M.opt (allInts xs)).bnd fun is => match is with
    | i :: r => M.ret (MV.int (r.foldl (fun a b => if b > a then b else a) i))
    | [] => M.stk) hh = _
  have z : lstOf (.ro (xs.map fun x => MV.int (p x))) = M.ret (xs.map fun x => MV.int (p x)) := rfl
  rw [z, r_bndN, allInts_map]
  cases xs with
  | nil => exact absurd rfl h
  | cons x r => rfl
def roomI (ns : List Str) (R : Str → List (Pic.Deed Str)) (s : List Str) : Int := maxI ((List.range (s.length + 1)).map fun i => loadC ns R (Pic.cts (s.take i)))
theorem room_ok (P : GoodPic ns R) {s : List Str} {v : MV} (hs : ∀ a ∈ s, a ∈ ns) (hl : s.length ≤ 1000) (hv : v = .ro (s.map .str) ∨ v = .tup (s.map .str)) (hr : isRun ns R s = true) :
    callF T W0 (n + 5) 31 [pic ns R, v] = M.ret (.int (roomI ns R s)) := by
  have G := P.rows
  have st : Pic.Steps R s := by
    unfold isRun at hr
    exact stepsB_iff.mp (Bool.and_eq_true_iff.mp hr).1
  refine call_ret (df := d_room_of) PT.at_room_of rfl rfl ?_
  unfold d_room_of
  walk_at "mr"
  try simp only [loads_ok (T := T) (W0 := W0) (n := n + 3) G, r_bndN]
  walk_at "mr"
  try simp only [want_run_ok (T := T) (W0 := W0) (n := n) P hs hl hv hr, r_bndN, q_itr]
  unfold cuts
  rw [lc_map (fun i => cutT ns (Pic.cts (s.take i))) (fun i => MV.int (loadC ns R (Pic.cts (s.take i)))) (by rw [List.length_range]; refine lt_W0 ?_; omega) (by rw [List.length_range]; omega) (fun _ _ => rfl)]
  rotate_left
  · intro i hi
    refine step_map rfl ?_
    walk_at "mr"
    rw [load_at_ok (T := T) (W0 := W0) (n := n + 3) G fun a _ => Pic.steps_le (st.take i) a]
  try simp only [r_bndN]
  rw [q_maxm (xs := List.range (s.length + 1)) (p := fun i => loadC ns R (Pic.cts (s.take i))) (fun h => by
    have := congrArg List.length h
    rw [List.length_range] at this
    cases this)]
  walk_at "mr"
  rfl
end
end MPV
namespace MPV
open PySem hiding Env
open MP LawT
variable {T : List Def} {W0 : Nat} [PT T] [Wd W0]
local macro_rules | `(tactic| walk_at "mr") => `(tactic| try simp only [bnd_assoc, e_dctT, sl_cons, sl_nil, s_asg, s_par, s_par3, s_aug, s_ex, s_ret, s_retN, s_ifs, s_fors, s_whl, s_pas, t_bop, t_not, t_var, t_cmp, t_chain, t_isK, t_call, t_bi, t_isi, t_idx, bt_one, bt_cons, e_var, e_lit, e_glo, e_tup, e_lst, e_dct, e_bin, e_neg, e_cmp, e_chain, e_isK, e_bop, e_not, e_ife, e_call, e_callk, e_bi, e_isi, e_mth, e_idx, e_slc, e_lc, e_val, e_fld, e_con, el_nil, el_cons, eb_one, eb_cons, eo_no, eo_so, ec_no, ec_so, g_nm, g_tp, g_sb, gl_nil, gl_cons, i_vl, i_rg1, i_rg2, i_en, i_its, i_vas, i_zp, after_nx, after_rt, r_bndN, r_opt, w_nil, w_cons, q_inS, retP_nx, retP_rt, List.replicate_zero, Nat.sub_self, q_add, q_sub, q_neg, q_not, q_bop, q_lt, q_le, q_gt, q_ge, q_eqs, q_nes, q_trub, q_int, q_intb, q_lent, q_lenr, q_idxt0, q_idxt1, q_idxt2, q_isi1, q_isi2, q_itt, q_itr, q_itd, q_its, q_intO, q_tupr, q_tupt, List.map_cons, List.map_nil, List.cons_append, List.nil_append, List.replicate, List.getElem?_cons_zero, List.getElem?_cons_succ, List.set_cons_zero, List.set_cons_succ, if_true, if_false, Bool.false_eq_true, b00, b01, b10, b11, Bool.not_true, Bool.not_false, Bool.true_or, Bool.or_true, Bool.false_or, Bool.or_false])
/-! k22: the law's own steps. -/
theorem runT_val {h : MH} {os : List MO} {f : M MV} {w : MV} {P : MV → List MO → Prop} (r : RunT (h ++ os) f [] fun v os' => byV ((h ++ os) ++ os') (h ++ os).length 60 v = some w) (p : P w os) : RunT h (bvV f) os P := by
  obtain ⟨v, os', e, b⟩ := r
  rw [List.append_nil] at e
  exact ⟨w, os, bv_ok e gr_loc b, p⟩
theorem lc_filterR {α : Type} (enc : α → MV) {step : MV → M (Option MV)} {xs : List α} (p : α → Bool) (f : α → MV) {W : Nat} (hW : xs.length < W) (hlen : xs.length ≤ 1000000) (hs : ∀ x ∈ xs, step (enc x) = M.ret (if p x then some (f x) else none)) : lcLoop step (.vs (xs.map enc)) W 0 [] = M.ret ((xs.filter p).map f) := by
  have z := lc_vs (enc := enc) (g := fun x => if p x then some (f x) else none) hs hW hlen
  rw [filterMap_if] at z
  exact z
theorem lc_mapR {α : Type} (enc : α → MV) {step : MV → M (Option MV)} {xs : List α} (f : α → MV) {W : Nat} (hW : xs.length < W) (hlen : xs.length ≤ 1000000) (hs : ∀ x ∈ xs, step (enc x) = M.ret (some (f x))) : lcLoop step (.vs (xs.map enc)) W 0 [] = M.ret (xs.map f) := by
  have z := lc_vs (enc := enc) (g := fun x => some (f x)) hs hW hlen
  rw [filterMap_some] at z
  exact z
theorem reifys_strs {h : MH} {m : Nat} : ∀ s : List Str, mapO (reify h m) (s.map .str) = some (s.map PyData.str)
  | [] => rfl
  | a :: r => by
    rw [List.map_cons]
    unfold mapO
    rw [reify_str, reifys_strs r]
    rfl
theorem plain_strs : ∀ s : List Str, PyData.plainAll (s.map PyData.str) = true
  | [] => by simp only [List.map_nil, PyData.plainAll]
  | a :: r => by
    rw [List.map_cons]
    unfold PyData.plainAll
    rw [plain_strs r]
    simp only [PyData.plain, Bool.and_self]
theorem shaped_str {b : Str} (h : PyData.canLay0 (.str b) = true) : SeqAt.shaped (.str b) = true := shaped_pl (n := 0) (v := .str b) (pl_str h) (by omega)
theorem count_strs {b : Str} : ∀ s : List Str, ((s.map PyData.str).countP fun z => PyData.eqv z (.str b)) = Pic.cts s b
  | [] => rfl
  | a :: r => by
    rw [List.map_cons, List.countP_cons, count_strs r]
    unfold Pic.cts
    rw [List.count_cons]
    have : PyData.eqv (.str a) (.str b) = (a == b) := rfl
    rw [this]
theorem count_at {hh : MH} {v : MV} {s : List Str} {b : Str} (hv : lstO hh v = some (s.map .str)) (hb : PyData.canLay0 (.str b) = true) : mtV .count v [.str b] hh = .ok (.int (Pic.cts s b : Int)) hh := by
  show count1 v (.str b) hh = _
  unfold count1
  rw [hv, reify_str]
  show (match mapO (reify hh 59) (s.map .str), some (PyData.str b) with
    | some ds, some d => if PyData.plainAll ds && d.plain && SeqAt.shaped d then Res.ok (MV.int ((ds.countP fun z => PyData.eqv z d : Nat) : Int)) hh else .stuck
    | _, _ => .stuck) = _
  rw [reifys_strs]
  dsimp only
  rw [if_pos (by rw [plain_strs, shaped_str hb]; simp only [PyData.plain, Bool.and_self]), count_strs]
theorem rcv_at {hh : MH} {v : MV} {xs : List MV} (hv : lstO hh v = some xs) : rcvV .count v hh = .ok () hh := by
  cases v with
  | ro _ => rfl
  | ref l =>
    show chkL l hh = _
    unfold chkL
    unfold lstO at hv
    dsimp only at hv
    split at hv
    · rfl
    · cases hv
  | _ => cases hv
section
variable {h : MH} {os : List MO}
theorem runT_count {v : MV} {s : List Str} {b : Str} {P : MV → List MO → Prop} (hv : lstO (h ++ os) v = some (s.map .str)) (hb : goodName b = true) (p : P (.int (Pic.cts s b : Int)) os) : RunT h (mtV .count v [.str b]) os P := ⟨_, _, count_at hv (good_lay hb), p⟩
theorem runT_rcvc {v : MV} {xs : List MV} {P : Unit → List MO → Prop} (hv : lstO (h ++ os) v = some xs) (p : P () os) : RunT h (rcvV .count v) os P := ⟨_, _, rcv_at hv, p⟩
end
theorem q_count {s : List Str} {b : Str} (hb : goodName b = true) : mtV .count (.ro (s.map .str)) [.str b] = M.ret (.int (Pic.cts s b : Int)) := by
  funext hh
  exact count_at rfl (good_lay hb)
theorem q_rcvc {xs : List MV} : rcvV .count (.ro xs) = M.ret () := rfl
theorem cut_take {xs : List MV} {k : Nat} : cutM xs none (some (k : Int)) = xs.take k := by
  unfold cutM
  rw [HT.sIx_none, HT.sIx_nat, List.drop_zero, Nat.sub_zero, List.take_eq_take_iff]
  omega
theorem q_slcm {α : Type} {f : α → MV} {l : List α} {k : Nat} (hf : ∀ x ∈ l, noRef (f x) = true) : bvV (slcV (.ro (l.map f)) none (some (k : Int))) = M.ret (.ro ((l.take k).map f)) := by
  have e : slcV (.ro (l.map f)) none (some (k : Int)) = M.alloc (.lst ((l.take k).map f)) := by
    funext hh
    show M.alloc (.lst (cutM (l.map f) none (some (k : Int)))) hh = _
    rw [cut_take, List.map_take]
  rw [e]
  exact bv_lst (noRefs_map fun x hx => hf x (List.mem_of_mem_take hx))
section
variable {n : Nat} {ns : List Str} {R : Str → List (Pic.Deed Str)} {c : Str → Nat}
theorem iL_ok {a : Str} (ha : a ∈ ns) : idxV (dicL ns R) (.str a) = M.ret (.ro ((R a).map dS)) := q_idxN (f := fun a => rowL (R a)) ha
theorem idx_rowL {r : List (Pic.Deed Str)} {i : Nat} {d : Pic.Deed Str} (h : r[i]? = some d) : idxV (.ro (r.map dS)) (.int (i : Int)) = M.ret (dS d) := by
  refine q_idxr (at_nat ?_)
  rw [List.getElem?_map, h]
  rfl
theorem eq_pair {d : Pic.Deed Str} {k : Bool} {b : Str} (hd : goodName d.other = true) (hb : goodName b = true) : cmpV .eq (.tup [.str (kS d), .str d.other]) (.tup [.str (kk k), .str b]) = M.ret (d.say == k && decide (d.other = b)) :=
  q_eqp (n := 1) (m := 1) (pl_tup (by unfold pls; rw [pl_str (kS_lay d)]; unfold pls; rw [pl_str (good_lay hd)]; rfl)) (pl_tup (by unfold pls; rw [pl_str (kk_lay k)]; unfold pls; rw [pl_str (good_lay hb)]; rfl)) (by omega) (by omega) (by
    rw [Bool.and_eq_true_iff, beq_iff_eq, decide_eq_true_eq]
    constructor
    · rintro ⟨h1, h2⟩
      unfold kS kk
      rw [h1, h2]
    · intro h
      have h0 := MV.tup.inj h
      have h1 := List.cons.inj h0
      have h2 := List.cons.inj h1.2
      exact ⟨kk_inj.mp (MV.str.inj h1.1), MV.str.inj h2.1⟩)
theorem goes_ok (G : GoodRows ns R) {hh : MH} {v : MV} {s : List Str} {a : Str} (hv : lstO hh v = some (s.map .str)) (ha : a ∈ ns) (hle : ∀ a ∈ ns, Pic.cts s a ≤ (R a).length) :
    callF T W0 (n + 1) 37 [dicL ns R, v, .str a] hh = .ok (.bl (Pic.canGo R (Pic.cts s) a)) hh := by
  have ga := G.name a ha
  have hla := hle a ha
  have hRa := G.len a ha
  rw [call_eq (df := d__law_goes) PT.at__law_goes rfl]
  suffices r : RunT hh ((evSL (callF T W0 n) W0 d__law_goes.body ([dicL ns R, v, .str a].map some ++ List.replicate (d__law_goes.ns - d__law_goes.np) none)).bnd retP) [] fun v os => v = .bl (Pic.canGo R (Pic.cts s) a) ∧ os = [] by
    obtain ⟨v, os, e, rfl, rfl⟩ := r
    rw [List.append_nil] at e
    exact bv_ok e (Gr.refl hh) (noRef_byV rfl 60)
  have hv' : lstO (hh ++ []) v = some (s.map .str) := by rw [List.append_nil]; exact hv
  unfold d__law_goes
  walk_at "mr"
  simp only [iL_ok ha, r_bndN]
  refine RunT.bnd (runT_rcvc (P := fun _ os => os = []) hv' rfl) fun _ os q => ?_
  subst q
  refine RunT.bnd (runT_count (P := fun v os => v = .int (Pic.cts s a : Int) ∧ os = []) hv' ga ⟨rfl, rfl⟩) fun w os q => ?_
  obtain ⟨rfl, rfl⟩ := q
  walk_at "mr"
  simp only [q_eqi, List.length_map, r_bndN]
  by_cases hlt : Pic.cts s a < (R a).length
  · rw [show decide ((Pic.cts s a : Int) = ((R a).length : Int)) = false from decide_eq_false (by omega)]
    simp only [b00, if_true]
    have hd : (R a)[Pic.cts s a]? = some (R a)[Pic.cts s a] := List.getElem?_eq_getElem hlt
    generalize (R a)[Pic.cts s a] = d at hd
    obtain ⟨gd, hin, _⟩ := G.deed a ha d (List.mem_of_getElem? hd)
    have cg : Pic.canGo R (Pic.cts s) a = (d.say || decide (Pic.cnt ((R a).take (Pic.cts s a)) false d.other < Pic.cnt ((R d.other).take (Pic.cts s d.other)) true a)) := by
      unfold Pic.canGo
      rw [hd]
    simp only [idx_rowL hd, r_bndN]
    have d0 : idxV (dS d) (.int 0) = M.ret (.str (kS d)) := q_idxt0
    have d1 : idxV (dS d) (.int 1) = M.ret (.str d.other) := q_idxt1
    simp only [d0, r_bndN, q_eqs, kS_say]
    cases hs : d.say with
    | true =>
      rw [hs, Bool.true_or] at cg
      simp only [if_true]
      walk_at "mr"
      rw [show decide ((Pic.cts s a : Int) < ((R a).length : Int)) = true from decide_eq_true (by omega), cg]
      exact runT_ret _ ⟨rfl, rfl⟩
    | false =>
      rw [hs, Bool.false_or] at cg
      simp only [Bool.false_eq_true, if_false]
      walk_at "mr"
      simp only [idx_rowL hd, d1, r_bndN]
      walk_at "mr"
      simp only [q_slcm (f := dS) (l := R a) (k := Pic.cts s a) (fun _ _ => rfl), r_bndN, q_itr]
      have slc2 : ∀ d : Pic.Deed Str, bvV (slcV (dS d) none (some 2)) = M.ret (.tup [.str (kS d), .str d.other]) := fun d => q_slc2 rfl
      rw [lc_filter dS (fun e => e.say == false && decide (e.other = d.other)) dS (lt_W0 (by rw [List.length_take]; omega)) (by rw [List.length_take]; omega) (fun _ _ => rfl)]
      rotate_left
      · intro e he
        have ge := (G.deed a ha e (List.mem_of_mem_take he)).1.1
        refine step_test (b := e.say == false && decide (e.other = d.other)) rfl ?_ fun _ => ?_
        · walk_at "mr"
          simp only [slc2, q_tup2, r_bndN]
          exact eq_pair (k := false) ge gd.1
        · walk_at "mr"
      simp only [r_bndN, q_lenr, List.length_map]
      walk_at "mr"
      simp only [iL_ok hin, r_bndN]
      refine RunT.bnd (runT_val (w := .ro (((((R d.other).take (Pic.cts s d.other)).filter fun e => e.say == true && decide (e.other = a))).map dS)) (P := fun v os => v = .ro ((((R d.other).take (Pic.cts s d.other)).filter fun e => e.say == true && decide (e.other = a)).map dS) ∧ os = []) ?_ ⟨rfl, rfl⟩) fun w os q => ?_
      · simp only [List.append_nil]
        refine RunT.bnd (runT_val (w := .ro (((R d.other).take (Pic.cts s d.other)).map dS)) (P := fun v os => v = .ro (((R d.other).take (Pic.cts s d.other)).map dS) ∧ os = []) ?_ ⟨rfl, rfl⟩) fun w os q => ?_
        · simp only [List.append_nil]
          refine RunT.bnd (runT_rcvc (P := fun _ os => os = []) hv' rfl) fun _ os q => ?_
          subst q
          refine RunT.bnd (runT_count (P := fun v os => v = .int (Pic.cts s d.other : Int) ∧ os = []) hv' gd.1 ⟨rfl, rfl⟩) fun w os q => ?_
          obtain ⟨rfl, rfl⟩ := q
          simp only [q_intO, r_bndN]
          have es : slcV (.ro (List.map dS (R d.other))) none (some (Pic.cts s d.other : Int)) = M.alloc (.lst (((R d.other).take (Pic.cts s d.other)).map dS)) := by
            funext hx
            show M.alloc (.lst (cutM ((R d.other).map dS) none (some (Pic.cts s d.other : Int)))) hx = _
            rw [cut_take, List.map_take]
          rw [es]
          exact runT_alloc _ (byV_lst (by omega) (by rw [loc_get]; rfl) (noRefs_map fun _ _ => rfl))
        · obtain ⟨rfl, rfl⟩ := q
          simp only [q_itr, r_bndN]
          have hRo := G.len d.other hin
          rw [lc_filterR dS (fun e => e.say == true && decide (e.other = a)) dS (lt_W0 (by rw [List.length_take]; omega)) (by rw [List.length_take]; omega)]
          rotate_left
          · intro e he
            have ge := (G.deed d.other hin e (List.mem_of_mem_take he)).1.1
            refine step_test (b := e.say == true && decide (e.other = a)) rfl ?_ fun _ => ?_
            · walk_at "mr"
              simp only [slc2, q_tup2, r_bndN]
              exact eq_pair (k := true) ge ga
            · walk_at "mr"
          simp only [r_bndN]
          exact runT_alloc _ (byV_lst (by omega) (by rw [loc_get]; rfl) (noRefs_map fun _ _ => rfl))
      · obtain ⟨rfl, rfl⟩ := q
        simp only [q_lenr, r_bndN, List.length_map, q_gt]
        walk_at "mr"
        rw [cg]
        refine runT_ret _ ⟨?_, rfl⟩
        congr 1
        rw [Bool.eq_iff_iff, decide_eq_true_eq, decide_eq_true_eq]
        unfold Pic.cnt Pic.sel
        omega
  · rw [show decide ((Pic.cts s a : Int) = ((R a).length : Int)) = true from decide_eq_true (by omega)]
    simp only [b10, Bool.false_eq_true, if_false, if_true]
    walk_at "mr"
    have cg : Pic.canGo R (Pic.cts s) a = false := by
      cases hg : Pic.canGo R (Pic.cts s) a with
      | false => rfl
      | true => exact absurd (Pic.canGo_lt hg) hlt
    rw [show decide ((Pic.cts s a : Int) < ((R a).length : Int)) = false from decide_eq_false (by omega), cg]
    exact runT_ret _ ⟨rfl, rfl⟩
end
end MPV
namespace MPV
open PySem hiding Env
open MP LawT
variable {T : List Def} {W0 : Nat} [PT T] [Wd W0]
local macro_rules | `(tactic| walk_at "mr") => `(tactic| try simp -implicitDefEqProofs only [bnd_assoc, e_dctT, sl_cons, sl_nil, s_asg, s_par, s_par3, s_aug, s_ex, s_ret, s_retN, s_ifs, s_fors, s_whl, s_pas, t_bop, t_not, t_var, t_cmp, t_chain, t_isK, t_call, t_bi, t_isi, t_idx, bt_one, bt_cons, e_var, e_lit, e_glo, e_tup, e_lst, e_dct, e_bin, e_neg, e_cmp, e_chain, e_isK, e_bop, e_not, e_ife, e_call, e_callk, e_bi, e_isi, e_mth, e_idx, e_slc, e_lc, e_val, e_fld, e_con, el_nil, el_cons, eb_one, eb_cons, eo_no, eo_so, ec_no, ec_so, g_nm, g_tp, g_sb, gl_nil, gl_cons, i_vl, i_rg1, i_rg2, i_en, i_its, i_vas, i_zp, after_nx, after_rt, r_bndN, r_opt, w_nil, w_cons, q_inS, retP_nx, retP_rt, List.replicate_zero, Nat.sub_self, q_add, q_sub, q_neg, q_not, q_bop, q_lt, q_le, q_gt, q_ge, q_eqs, q_nes, q_trub, q_int, q_intb, q_lent, q_lenr, q_idxt0, q_idxt1, q_idxt2, q_isi1, q_isi2, q_itt, q_itr, q_itd, q_its, q_intO, q_tupr, q_tupt, List.map_cons, List.map_nil, List.cons_append, List.nil_append, List.replicate, List.getElem?_cons_zero, List.getElem?_cons_succ, List.set_cons_zero, List.set_cons_succ, if_true, if_false, Bool.false_eq_true, b00, b01, b10, b11, Bool.not_true, Bool.not_false, Bool.true_or, Bool.or_true, Bool.false_or, Bool.or_false])
/-! k22: the law's own cuts and rooms. -/
section
variable {n : Nat} {ns : List Str} {R : Str → List (Pic.Deed Str)} {c : Str → Nat}
theorem sort_dicL (G : GoodRows ns R) : bvV (biV .sorted [dicL ns R]) = M.ret (.ro (ns.map .str)) := by
  have few := G.few
  have := q_sortd (ns := ns) (vs := ns.map fun a => rowL (R a)) (by omega)
  rw [G.srt] at this
  exact this
theorem lpassed_ok (G : GoodRows ns R) {s : List Str} (hl : s.length ≤ 1000) : callF T W0 (n + 1) 38 [dicL ns R, .ro (s.map .str)] = M.ret (.ro (cuts ns s (s.length + 1))) := by
  have few := G.few
  refine call_ret (df := d__law_passed) PT.at__law_passed rfl (by show noRefs _ = true; exact noRefs_cuts) ?_
  unfold d__law_passed
  walk_at "mr"
  rw [List.length_map, show ((s.length : Int) + 1) = ((s.length + 1 : Nat) : Int) from rfl, q_rg1n (k := s.length + 1) (by omega)]
  simp -implicitDefEqProofs only [r_bndN]
  rw [lc_map (fun i : Nat => .int (i : Int)) (fun i => cutT ns (Pic.cts (s.take i))) (lt_W0 (by rw [List.length_range]; omega)) (by rw [List.length_range]; omega) (fun _ _ => noRef_cutT)]
  · walk_at "mr"
    rfl
  · intro i hi
    refine step_map rfl ?_
    walk_at "mr"
    simp -implicitDefEqProofs only [sort_dicL G, r_bndN, q_itr]
    rw [lc_map MV.str (fun b => .int (Pic.cts (s.take i) b : Int)) (lt_W0 (by omega)) (by omega) (fun _ _ => rfl)]
    · walk_at "mr"
      rfl
    · intro b hb
      refine step_map rfl ?_
      walk_at "mr"
      simp -implicitDefEqProofs only [q_slcm (f := MV.str) (l := s) (k := i) (fun _ _ => rfl), r_bndN, q_rcvc, q_count (G.name b hb)]
theorem lload_ok (G : GoodRows ns R) (hle : ∀ a ∈ ns, c a ≤ (R a).length) : callF T W0 (n + 1) 39 [dicL ns R, cutT ns c] = M.ret (.int (loadC ns R c)) := by
  have few := G.few
  refine call_run (df := d__law_load) PT.at__law_load rfl rfl ?_
  unfold d__law_load
  walk_at "mr"
  have z : zpV (.ro (ns.map MV.str)) (cutT ns c) = M.ret (.vs (ns.map fun a => .tup [.str a, .int (c a : Int)])) := by
    show M.ret (Itv.vs (((ns.map MV.str).zip (ns.map fun a => MV.int (c a : Int))).map fun p => MV.tup [p.1, p.2])) = _
    rw [zip_self, List.map_map]
    rfl
  simp -implicitDefEqProofs only [sort_dicL G, z, r_bndN]
  refine Run.bnd (run_for (Q := fun p => ∃ o3 o4 o5, p = ([some (dicL ns R), some (cutT ns c), some (.int (loadC ns R c)), o3, o4, o5], .nx)) (fun i ρ => ∃ o3 o4 o5, ρ = [some (dicL ns R), some (cutT ns c), some (.int (loadC (ns.take i) R c)), o3, o4, o5]) ⟨_, _, _, by rw [List.take_zero]; rfl⟩ (lt_W0 (by rw [List.length_map]; omega)) (fun i x ρ hx hi => ?_) (fun ρ hi => ?_)) fun p q => ?_
  · obtain ⟨o3, o4, o5, rfl⟩ := hi
    rw [List.getElem?_map] at hx
    obtain ⟨a, hai, rfl⟩ := Option.map_eq_some_iff.mp hx
    have ha := List.mem_of_getElem? hai
    have hil := (List.getElem?_eq_some_iff.mp hai).1
    have hR := G.len a ha
    walk_at "mr"
    simp -implicitDefEqProofs only [run_ret]
    walk_at "mr"
    simp -implicitDefEqProofs only [iL_ok ha, r_bndN, q_slcm (f := dS) (l := R a) (k := c a) (fun _ _ => rfl), q_itr]
    rw [lc_map dS (fun d => .int (if d.say then (1 : Int) else -1)) (lt_W0 (by rw [List.length_take]; omega)) (by rw [List.length_take]; omega) (fun _ _ => rfl)]
    rotate_left
    · intro d hd
      refine step_map rfl ?_
      have d0 : idxV (dS d) (.int 0) = M.ret (.str (kS d)) := q_idxt0
      walk_at "mr"
      simp -implicitDefEqProofs only [d0, r_bndN, q_eqs, kS_say]
      cases d.say with
      | true => simp -implicitDefEqProofs only [if_true]
      | false => simp -implicitDefEqProofs only [Bool.false_eq_true, if_false]; walk_at "mr"
    simp -implicitDefEqProofs only [r_bndN, q_summ]
    have ea : augV false (.int (loadC (ns.take i) R c)) (.int ((((R a).take (c a)).map fun d => if d.say then (1 : Int) else -1).sum)) = M.ret (.int (loadC (ns.take (i + 1)) R c)) := by
      show M.ret (MV.int (loadC (ns.take i) R c + (((R a).take (c a)).map fun d => if d.say then (1 : Int) else -1).sum)) = _
      congr 2
      unfold loadC
      rw [← List.take_append_getElem hil, (List.getElem?_eq_some_iff.mp hai).2, List.map_append, List.sum_append]
      simp [ld]
    simp -implicitDefEqProofs only [ea, r_bndN]
    walk_at "mr"
    simp -implicitDefEqProofs only [run_ret]
    exact ⟨_, _, _, rfl⟩
  · obtain ⟨o3, o4, o5, rfl⟩ := hi
    rw [List.length_map, List.take_length]
    exact ⟨_, _, _, rfl⟩
  · obtain ⟨o3, o4, o5, rfl⟩ := q
    walk_at "mr"
    simp -implicitDefEqProofs only [run_ret]
theorem cts_take_le {s : List Str} {i : Nat} {a : Str} : Pic.cts (s.take i) a ≤ Pic.cts s a := by
  unfold Pic.cts
  exact List.Sublist.count_le _ (List.take_sublist _ _)
theorem lrun_ok (G : GoodRows ns R) {s : List Str} (hs : ∀ a ∈ s, a ∈ ns) (hl : s.length ≤ 1000) : callF T W0 (n + 2) 40 [dicL ns R, .ro (s.map .str)] = M.ret (.bl (isRun ns R s)) := by
  have few := G.few
  have itd : itV (dicL ns R) = M.ret (.vs (ns.map .str)) := rfl
  refine call_ret (df := d__law_is_run) PT.at__law_is_run rfl rfl ?_
  unfold d__law_is_run
  walk_at "mr"
  simp -implicitDefEqProofs only [itd, r_bndN]
  rw [lc_map MV.str (fun a => .bl (!decide ((Pic.cts s a : Int) = ((R a).length : Int)))) (lt_W0 (by omega)) (by omega) (fun _ _ => rfl)]
  rotate_left
  · intro a ha
    refine step_map rfl ?_
    walk_at "mr"
    simp -implicitDefEqProofs only [q_rcvc, q_count (G.name a ha), iL_ok ha, r_bndN, q_lenr, List.length_map, q_nei]
  simp -implicitDefEqProofs only [r_bndN, q_anym]
  have hany : (ns.any fun a => !decide ((Pic.cts s a : Int) = ((R a).length : Int))) = !fullB ns R (Pic.cts s) := by
    unfold fullB
    rw [Bool.eq_iff_iff, Bool.not_eq_true', List.any_eq_true]
    constructor
    · rintro ⟨a, ha, h⟩
      cases hf : ns.all fun a => decide (Pic.cts s a = (R a).length) with
      | false => rfl
      | true =>
        have := of_decide_eq_true (List.all_eq_true.mp hf a ha)
        rw [decide_eq_true (by omega)] at h
        cases h
    · intro h
      obtain ⟨a, ha, h⟩ := List.all_eq_false.mp h
      refine ⟨a, ha, ?_⟩
      rw [decide_eq_false (fun z => h (decide_eq_true (by omega)))]
      rfl
  rw [hany]
  walk_at "mr"
  rw [lc_map MV.str (fun _ => .bl true) (lt_W0 (by omega)) (by omega) (fun _ _ => rfl)]
  rotate_left
  · intro a ha
    refine step_map rfl ?_
    walk_at "mr"
    have hin : cmpV .isin (.str a) (dicL ns R) = M.ret (decide (a ∈ ns)) := q_inN
    simp -implicitDefEqProofs only [hin, r_bndN, decide_eq_true (hs a ha)]
  simp -implicitDefEqProofs only [r_bndN, q_allm (p := fun _ : Str => true)]
  rw [show (s.all fun _ => true) = true from by simp]
  unfold isRun
  cases hf : fullB ns R (Pic.cts s) with
  | false =>
    simp -implicitDefEqProofs only [Bool.not_false, b10, Bool.false_eq_true, if_false, if_true, Bool.and_false]
    walk_at "mr"
  | true =>
    simp -implicitDefEqProofs only [Bool.not_true, b00, Bool.false_eq_true, if_false, if_true, Bool.and_true]
    walk_at "mr"
    rw [List.length_map, q_rg1n (k := s.length) (by omega)]
    simp -implicitDefEqProofs only [r_bndN]
    have hle : ∀ i, ∀ a ∈ ns, Pic.cts (s.take i) a ≤ (R a).length := fun i a ha => by
      have := of_decide_eq_true (List.all_eq_true.mp hf a ha)
      rw [← this]
      exact cts_take_le
    rw [lc_map (fun i : Nat => .int (i : Int)) (fun i => .bl (Pic.canGo R (Pic.cts (s.take i)) (s.getD i strD))) (lt_W0 (by rw [List.length_range]; omega)) (by rw [List.length_range]; omega) (fun _ _ => rfl)]
    · simp -implicitDefEqProofs only [r_bndN, q_allm]
      walk_at "mr"
      rfl
    · intro i hi
      have hi := List.mem_range.mp hi
      refine step_map rfl ?_
      walk_at "mr"
      have ix : idxV (.ro (s.map MV.str)) (.int (i : Int)) = M.ret (.str (s.getD i strD)) := q_idxr (at_nat (by
        rw [List.getElem?_map, List.getD_eq_getElem?_getD, List.getElem?_eq_getElem hi]
        rfl))
      have hin : s.getD i strD ∈ ns := by
        rw [List.getD_eq_getElem?_getD, List.getElem?_eq_getElem hi]
        exact hs _ (List.getElem_mem hi)
      simp -implicitDefEqProofs only [q_slcm (f := MV.str) (l := s) (k := i) (fun _ _ => rfl), r_bndN, ix]
      funext hh
      exact goes_ok (n := n) G rfl hin (hle i)
end
end MPV
namespace MPV
open PySem hiding Env
open MP LawT
variable {T : List Def} {W0 : Nat} [PT T] [Wd W0]
local macro_rules | `(tactic| walk_at "mr") => `(tactic| try simp -implicitDefEqProofs only [bnd_assoc, e_dctT, sl_cons, sl_nil, s_asg, s_par, s_par3, s_aug, s_ex, s_ret, s_retN, s_ifs, s_fors, s_whl, s_pas, t_bop, t_not, t_var, t_cmp, t_chain, t_isK, t_call, t_bi, t_isi, t_idx, bt_one, bt_cons, e_var, e_lit, e_glo, e_tup, e_lst, e_dct, e_bin, e_neg, e_cmp, e_chain, e_isK, e_bop, e_not, e_ife, e_call, e_callk, e_bi, e_isi, e_mth, e_idx, e_slc, e_lc, e_val, e_fld, e_con, el_nil, el_cons, eb_one, eb_cons, eo_no, eo_so, ec_no, ec_so, g_nm, g_tp, g_sb, gl_nil, gl_cons, i_vl, i_rg1, i_rg2, i_en, i_its, i_vas, i_zp, after_nx, after_rt, r_bndN, r_opt, w_nil, w_cons, q_inS, retP_nx, retP_rt, List.replicate_zero, Nat.sub_self, q_add, q_sub, q_neg, q_not, q_bop, q_lt, q_le, q_gt, q_ge, q_eqs, q_nes, q_trub, q_int, q_intb, q_lent, q_lenr, q_idxt0, q_idxt1, q_idxt2, q_isi1, q_isi2, q_itt, q_itr, q_itd, q_its, q_intO, q_tupr, q_tupt, List.map_cons, List.map_nil, List.cons_append, List.nil_append, List.replicate, List.getElem?_cons_zero, List.getElem?_cons_succ, List.set_cons_zero, List.set_cons_succ, if_true, if_false, Bool.false_eq_true, b00, b01, b10, b11, Bool.not_true, Bool.not_false, Bool.true_or, Bool.or_true, Bool.false_or, Bool.or_false])
/-! k22: repr of simple values; the law's judgement. -/
structure Sh (v : MV) (d : PyData) (k b : Nat) : Prop where
  rd : ∀ h m, k ≤ m → reify h m v = some d
  dp : d.depth ≤ k
  sw : d.showable = true
  lv : d.leavesShort 32 = true
  bk : d.bulk ≤ b
structure Shs (vs : List MV) (ds : List PyData) (k b : Nat) : Prop where
  rd : ∀ h m, k ≤ m → mapO (reify h m) vs = some ds
  dp : PyData.depthAll ds ≤ k
  sw : PyData.showableAll ds = true
  lv : PyData.leavesShortAll 32 ds = true
  bk : PyData.bulkAll ds ≤ b
theorem Sh.le {v : MV} {d : PyData} {k b k' b' : Nat} (s : Sh v d k b) (hk : k ≤ k') (hb : b ≤ b') : Sh v d k' b' := ⟨fun h m hm => s.rd h m (by omega), Nat.le_trans s.dp hk, s.sw, s.lv, Nat.le_trans s.bk hb⟩
theorem Shs.nil : Shs [] [] 0 0 := ⟨fun _ _ _ => rfl, Nat.le_refl _, by unfold PyData.showableAll; rfl, by unfold PyData.leavesShortAll; rfl, Nat.le_refl _⟩
theorem Shs.cons {v : MV} {d : PyData} {vs : List MV} {ds : List PyData} {k b c : Nat} (s : Sh v d k b) (r : Shs vs ds k c) : Shs (v :: vs) (d :: ds) k (b + 1 + c) := by
  refine ⟨fun h m hm => ?_, ?_, ?_, ?_, ?_⟩
  · unfold mapO
    rw [s.rd h m hm, r.rd h m hm]
  · show max d.depth (PyData.depthAll ds) ≤ k
    exact Nat.max_le.mpr ⟨s.dp, r.dp⟩
  · unfold PyData.showableAll
    rw [s.sw, r.sw]
    rfl
  · unfold PyData.leavesShortAll
    rw [s.lv, r.lv]
    rfl
  · show d.bulk + 1 + PyData.bulkAll ds ≤ b + 1 + c
    have := s.bk
    have := r.bk
    omega
theorem Shs.le {vs : List MV} {ds : List PyData} {k b k' b' : Nat} (s : Shs vs ds k b) (hk : k ≤ k') (hb : b ≤ b') : Shs vs ds k' b' := ⟨fun h m hm => s.rd h m (by omega), Nat.le_trans s.dp hk, s.sw, s.lv, Nat.le_trans s.bk hb⟩
theorem Shs.ro {vs : List MV} {ds : List PyData} {k b : Nat} (s : Shs vs ds k b) : Sh (.ro vs) (.list ds) (k + 1) b := by
  refine ⟨fun h m hm => ?_, ?_, ?_, ?_, s.bk⟩
  · cases m with
    | zero => omega
    | succ m =>
      show (mapO (reify h m) vs).map PyData.list = _
      rw [s.rd h m (by omega)]
      rfl
  · show PyData.depthAll ds + 1 ≤ k + 1
    have := s.dp
    omega
  · show PyData.showableAll ds = true
    exact s.sw
  · show PyData.leavesShortAll 32 ds = true
    exact s.lv
theorem Shs.tup {vs : List MV} {ds : List PyData} {k b : Nat} (s : Shs vs ds k b) : Sh (.tup vs) (.tuple ds) (k + 1) b := by
  refine ⟨fun h m hm => ?_, ?_, ?_, ?_, s.bk⟩
  · cases m with
    | zero => omega
    | succ m =>
      show (mapO (reify h m) vs).map PyData.tuple = _
      rw [s.rd h m (by omega)]
      rfl
  · show PyData.depthAll ds + 1 ≤ k + 1
    have := s.dp
    omega
  · show PyData.showableAll ds = true
    exact s.sw
  · show PyData.leavesShortAll 32 ds = true
    exact s.lv
theorem Sh.bl {k : Bool} : Sh (.bl k) (.bool k) 0 0 := ⟨fun h m _ => by cases m <;> rfl, Nat.le_refl _, rfl, rfl, Nat.le_refl _⟩
theorem Sh.int {i : Int} (h : i.natAbs < 10 ^ 6) : Sh (.int i) (.int i) 0 0 := by
  refine ⟨fun h m _ => reify_int, Nat.le_refl _, ?_, ?_, Nat.le_refl _⟩
  · refine decide_eq_true ?_
    by_cases z : i.natAbs = 0
    · rw [z]; decide
    · have := (Nat.log2_lt (k := 20) z).mpr (by omega)
      omega
  · show decide ((PyData.shown (.int i)).length ≤ 32) = true
    have := PyData.shown_int_le (i := i) (Nat.lt_trans h (by decide))
    exact decide_eq_true (by omega)
theorem Sh.str {s : Str} (h : PyData.canLay0 (.str s) = true) : Sh (.str s) (.str s) 0 s.length := by
  refine ⟨fun h m _ => reify_str, Nat.le_refl _, rfl, ?_, Nat.le_refl _⟩
  exact PyData.leavesShort_of_canLay0 32 (.str s) h (by unfold PyData.intsShort; rfl)
theorem Shs.map {α : Type} {f : α → MV} {g : α → PyData} {k b : Nat} : ∀ {xs : List α}, (∀ x ∈ xs, Sh (f x) (g x) k b) → Shs (xs.map f) (xs.map g) k (xs.length * (b + 1))
  | [], _ => Shs.nil.le (Nat.zero_le _) (Nat.zero_le _)
  | x :: r, h => by
    have := Shs.cons (h x List.mem_cons_self) (Shs.map fun y hy => h y (List.mem_cons_of_mem _ hy))
    refine this.le (Nat.le_refl _) ?_
    rw [List.length_cons, Nat.succ_mul]
    omega
theorem q_repr {v : MV} {d : PyData} {k b : Nat} (s : Sh v d k b) (hk : k ≤ 60) (hb : b ≤ 100000) : biV .repr [v] = M.ret (.str d.shown) := by
  funext h
  show reprV v h = _
  unfold reprV
  rw [s.rd h 60 hk]
  dsimp only
  have h1 := PyData.shown_le_bulk 32 (by decide) d s.lv
  have h2 := s.dp
  have h3 := s.bk
  have hf : fits d.shown.length = true := by
    unfold fits
    exact decide_eq_true (by rw [show sizeLine = 16777216 from rfl]; omega)
  rw [if_pos (by rw [decide_eq_true (show d.depth ≤ 62 by omega), s.sw, hf]; rfl)]
  rfl
theorem q_str_ne {s : Str} : cmpV .ne (.str s) (.str s) = M.ret false := by
  show (cmpV .eq (.str s) (.str s)).bnd (fun b => M.ret (!b)) = _
  have : cmpV .eq (.str s) (.str s) = M.ret (s == s) := rfl
  rw [this, beq_self_eq_true]
  rfl
theorem q_str_eq {s : Str} : cmpV .eq (.str s) (.str s) = M.ret true := by
  have : cmpV .eq (.str s) (.str s) = M.ret (s == s) := rfl
  rw [this, beq_self_eq_true]
theorem q_lstN {xs : List MV} (h : xs.length < 1000000) (k : noRefs xs = true) : bvV (lstV xs) = M.ret (.ro xs) := by
  have e : lstV xs = M.alloc (.lst xs) := if_pos (fits_lt h)
  rw [e]
  exact bv_lst k
theorem small63_3 : small63 3 = true := by unfold small63; exact decide_eq_true (by omega)
theorem q_mul3 {x : MV} (k : noRef x = true) : bvV (binV .mul (.ro [x]) (.int 3)) = M.ret (.ro [x, x, x]) := by
  have e : binV .mul (.ro [x]) (.int 3) = M.alloc (.lst [x, x, x]) := by
    funext h
    show (if small63 3 && fits ([x].length * (3 : Int).toNat) then M.alloc (.lst (List.replicate (3 : Int).toNat [x]).flatten) h else .stuck) = _
    rw [if_pos (by rw [small63_3, fits_lt (by show 1 * 3 < 1000000; omega)]; rfl)]
    rfl
  rw [e]
  refine bv_lst ?_
  show (noRef x && (noRef x && (noRef x && true))) = true
  rw [k]
  rfl
section
variable {n : Nat} {ns : List Str} {R : Str → List (Pic.Deed Str)} {c : Str → Nat}
theorem ld_le : ∀ r : List (Pic.Deed Str), (ld r).natAbs ≤ r.length
  | [] => Nat.le_refl _
  | d :: r => by
    have ih := ld_le r
    have e : ld (d :: r) = (if d.say then (1 : Int) else -1) + ld r := rfl
    rw [e, List.length_cons]
    cases d.say
    · simp only [Bool.false_eq_true, if_false]; omega
    · simp only [if_true]; omega
theorem loadC_le (G : GoodRows ns R) : (loadC ns R c).natAbs ≤ 400 := by
  have key : ∀ xs : List Str, (∀ a ∈ xs, (R a).length ≤ 100) → (loadC xs R c).natAbs ≤ xs.length * 100 := by
    intro xs
    induction xs with
    | nil => intro _; exact Nat.le_refl _
    | cons a r ih =>
      intro h
      have h1 := ih fun b hb => h b (List.mem_cons_of_mem _ hb)
      have h2 := ld_le ((R a).take (c a))
      have h3 := h a List.mem_cons_self
      have e : loadC (a :: r) R c = ld ((R a).take (c a)) + loadC r R c := rfl
      rw [List.length_take] at h2
      rw [e, List.length_cons]
      omega
  have := key ns G.len
  have := G.few
  omega
theorem maxI_le {B : Nat} : ∀ {xs : List Int}, (∀ x ∈ xs, x.natAbs ≤ B) → (maxI xs).natAbs ≤ B
  | [], _ => Nat.zero_le _
  | i :: r, h => by
    show (r.foldl (fun a b => if b > a then b else a) i).natAbs ≤ B
    have key : ∀ (r : List Int) (i : Int), i.natAbs ≤ B → (∀ x ∈ r, x.natAbs ≤ B) → (r.foldl (fun a b => if b > a then b else a) i).natAbs ≤ B := by
      intro r
      induction r with
      | nil => intro i hi _; exact hi
      | cons x r ih =>
        intro i hi h
        refine ih _ ?_ fun y hy => h y (List.mem_cons_of_mem _ hy)
        show (if x > i then x else i).natAbs ≤ B
        by_cases z : x > i
        · rw [if_pos z]; exact h x List.mem_cons_self
        · rw [if_neg z]; exact hi
    exact key r i (h i List.mem_cons_self) fun x hx => h x (List.mem_cons_of_mem _ hx)
theorem room_le (G : GoodRows ns R) {s : List Str} : (roomI ns R s).natAbs < 10 ^ 6 := by
  have : (roomI ns R s).natAbs ≤ 400 := maxI_le fun x hx => by
    obtain ⟨i, _, rfl⟩ := List.mem_map.mp hx
    exact loadC_le G
  exact Nat.lt_of_le_of_lt this (by decide)
theorem good_len {s : Str} (h : goodName s = true) : s.length ≤ 6 := by
  unfold goodName at h
  obtain ⟨h, h4⟩ := Bool.and_eq_true_iff.mp h
  obtain ⟨h, h3⟩ := Bool.and_eq_true_iff.mp h
  obtain ⟨h1, h2⟩ := Bool.and_eq_true_iff.mp h
  have := of_decide_eq_true h2
  omega
theorem sh_names {s : List Str} (h : ∀ a ∈ s, goodName a = true) : Sh (.ro (s.map .str)) (.list (s.map PyData.str)) 1 (s.length * 7) := (Shs.map (k := 0) (b := 6) fun a ha => (Sh.str (good_lay (h a ha))).le (Nat.le_refl _) (good_len (h a ha))).ro
theorem judged_ok (P : GoodPic ns R) {s : List Str} (hs : ∀ a ∈ s, a ∈ ns) (hl : s.length ≤ 1000) : callF T W0 (n + 6) 43 [pic ns R, dicL ns R, .ro (s.map .str)] = M.ret (.bl true) := by
  have G := P.rows
  have rs : biV .repr [.ro (s.map .str)] = M.ret (.str (PyData.list (s.map PyData.str)).shown) := q_repr (sh_names fun a ha => G.name a (hs a ha)) (by omega) (by omega)
  have pk : ∀ a b : MV, pick [a, b] [1, 0] = some [b, a] := fun _ _ => rfl
  refine call_ret (df := d__law_judged) PT.at__law_judged rfl rfl ?_
  unfold d__law_judged
  walk_at "mr"
  simp -implicitDefEqProofs only [lrun_ok (T := T) (W0 := W0) (n := n + 3) G hs hl, rs, r_bndN]
  walk_at "mr"
  simp -implicitDefEqProofs only [is_run_ok (T := T) (W0 := W0) (n := n + 1) P hs hl (.inl rfl), is_run_ok (T := T) (W0 := W0) (n := n + 1) P hs hl (.inr rfl), r_bndN, pk, r_opt]
  generalize hb : isRun ns R s = b
  have e3 : bvV (lstV [.bl b, .bl b, .bl b]) = M.ret (.ro [.bl b, .bl b, .bl b]) := q_lstN (by show 3 < 1000000; omega) rfl
  have e1 : bvV (lstV [.bl b]) = M.ret (.ro [.bl b]) := q_lstN (by show 1 < 1000000; omega) rfl
  have m3 : bvV (binV .mul (.ro [.bl b]) (.int 3)) = M.ret (.ro [.bl b, .bl b, .bl b]) := q_mul3 rfl
  have r3 : biV .repr [.ro [.bl b, .bl b, .bl b]] = M.ret (.str (PyData.list [.bool b, .bool b, .bool b]).shown) := q_repr ((Sh.bl.le (Nat.zero_le 0) (Nat.zero_le 0) |> fun z => Shs.cons z (Shs.cons z (Shs.cons z (Shs.nil)))).ro) (by omega) (by omega)
  simp -implicitDefEqProofs only [e3, r_bndN]
  walk_at "mr"
  simp -implicitDefEqProofs only [e1, m3, r3, q_str_ne, rs, r_bndN, b00, if_true, Bool.false_eq_true, if_false]
  walk_at "mr"
  try simp -implicitDefEqProofs only [beq_self_eq_true, Bool.not_true, Bool.false_eq_true, if_false]
  walk_at "mr"
  cases b with
  | false =>
    simp -implicitDefEqProofs only [Bool.not_false, if_true]
    walk_at "mr"
  | true =>
    simp -implicitDefEqProofs only [Bool.not_true, Bool.false_eq_true, if_false]
    walk_at "mr"
    simp -implicitDefEqProofs only [lpassed_ok (T := T) (W0 := W0) (n := n + 4) G hl, r_bndN, q_itr]
    unfold cuts
    have st : Pic.Steps R s := by
      unfold isRun at hb
      exact stepsB_iff.mp (Bool.and_eq_true_iff.mp hb).1
    rw [lc_map (fun i => cutT ns (Pic.cts (s.take i))) (fun i => MV.int (loadC ns R (Pic.cts (s.take i)))) (lt_W0 (by rw [List.length_range]; omega)) (by rw [List.length_range]; omega) (fun _ _ => rfl)]
    rotate_left
    · intro i hi
      refine step_map rfl ?_
      walk_at "mr"
      rw [lload_ok (T := T) (W0 := W0) (n := n + 4) G fun a _ => Pic.steps_le (st.take i) a]
    simp -implicitDefEqProofs only [r_bndN]
    rw [q_maxm (xs := List.range (s.length + 1)) (p := fun i => loadC ns R (Pic.cts (s.take i))) (fun h => by
      have := congrArg List.length h
      rw [List.length_range] at this
      cases this)]
    walk_at "mr"
    have ro1 := room_ok (T := T) (W0 := W0) (n := n) P hs hl (.inl rfl) hb
    have ro2 := room_ok (T := T) (W0 := W0) (n := n) P hs hl (.inr rfl) hb
    have hroom : maxI (List.map (fun i => loadC ns R (Pic.cts (s.take i))) (List.range (s.length + 1))) = roomI ns R s := rfl
    rw [hroom]
    simp -implicitDefEqProofs only [ro1, ro2, r_bndN, pk, r_opt]
    generalize hi : roomI ns R s = i
    have hi6 : i.natAbs < 10 ^ 6 := by rw [← hi]; exact room_le G
    have e2 : bvV (lstV [.int i, .int i]) = M.ret (.ro [.int i, .int i]) := q_lstN (by show 2 < 1000000; omega) rfl
    have r2 : biV .repr [.ro [.int i, .int i]] = M.ret (.str (PyData.list [.int i, .int i]).shown) := q_repr ((Shs.cons (Sh.int hi6) (Shs.cons (Sh.int hi6) Shs.nil)).ro) (by omega) (by omega)
    simp -implicitDefEqProofs only [e2, r2, r_bndN, q_str_eq]
    walk_at "mr"
    try simp -implicitDefEqProofs only [beq_self_eq_true]
end
end MPV
namespace MPV
open PySem hiding Env
open MP LawT
variable {T : List Def} {W0 : Nat} [PT T] [Wd W0]
local macro_rules | `(tactic| walk_at "mr") => `(tactic| try simp -implicitDefEqProofs only [bnd_assoc, e_dctT, sl_cons, sl_nil, s_asg, s_par, s_par3, s_aug, s_ex, s_ret, s_retN, s_ifs, s_fors, s_whl, s_pas, t_bop, t_not, t_var, t_cmp, t_chain, t_isK, t_call, t_bi, t_isi, t_idx, bt_one, bt_cons, e_var, e_lit, e_glo, e_tup, e_lst, e_dct, e_bin, e_neg, e_cmp, e_chain, e_isK, e_bop, e_not, e_ife, e_call, e_callk, e_bi, e_isi, e_mth, e_idx, e_slc, e_lc, e_val, e_fld, e_con, el_nil, el_cons, eb_one, eb_cons, eo_no, eo_so, ec_no, ec_so, g_nm, g_tp, g_sb, gl_nil, gl_cons, i_vl, i_rg1, i_rg2, i_en, i_its, i_vas, i_zp, after_nx, after_rt, r_bndN, r_opt, w_nil, w_cons, q_inS, retP_nx, retP_rt, List.replicate_zero, Nat.sub_self, q_add, q_sub, q_neg, q_not, q_bop, q_lt, q_le, q_gt, q_ge, q_eqs, q_nes, q_trub, q_int, q_intb, q_lent, q_lenr, q_idxt0, q_idxt1, q_idxt2, q_isi1, q_isi2, q_itt, q_itr, q_itd, q_its, q_intO, q_tupr, q_tupt, List.map_cons, List.map_nil, List.cons_append, List.nil_append, List.replicate, List.getElem?_cons_zero, List.getElem?_cons_succ, List.set_cons_zero, List.set_cons_succ, if_true, if_false, Bool.false_eq_true, b00, b01, b10, b11, Bool.not_true, Bool.not_false, Bool.true_or, Bool.or_true, Bool.false_or, Bool.or_false])
/-! k22: draws from a pot that stands in the heap. -/
def PotOk (o : MO) : Prop := ∃ a b : Int, o = .lst [.int a, .int b] ∧ 0 ≤ a ∧ 0 ≤ b ∧ b ≤ 2147483629
def RunP {α : Type} (l : Nat) (hh : MH) (m : M α) (os : List MO) (P : α → List MO → Prop) : Prop := ∀ p, PotOk p → ∃ a os' p', PotOk p' ∧ m (hh.set l p ++ os) = .ok a (hh.set l p' ++ os') ∧ P a os'
section
variable {α β : Type} {l : Nat} {hh : MH} {os : List MO}
theorem RunP.bnd {x : M α} {f : α → M β} {Q : α → List MO → Prop} {P : β → List MO → Prop} (r : RunP l hh x os Q) (k : ∀ a os', Q a os' → RunP l hh (f a) os' P) : RunP l hh (x.bnd f) os P := fun p hp => by
  obtain ⟨a, os', p', hp', e, q⟩ := r p hp
  obtain ⟨b, os2, p2, hp2, e2, q2⟩ := k a os' q p' hp'
  refine ⟨b, os2, p2, hp2, ?_, q2⟩
  unfold M.bnd
  rw [e]
  exact e2
theorem RunP.mono {x : M α} {Q P : α → List MO → Prop} (r : RunP l hh x os Q) (k : ∀ a os', Q a os' → P a os') : RunP l hh x os P := fun p hp => by
  obtain ⟨a, os', p', hp', e, q⟩ := r p hp
  exact ⟨a, os', p', hp', e, k _ _ q⟩
theorem RunP.of {x : M α} {P : α → List MO → Prop} (k : ∀ h : MH, h.length = hh.length → RunT h x os P) : RunP l hh x os P := fun p hp => by
  obtain ⟨a, os', e, q⟩ := k (hh.set l p) (by rw [List.length_set])
  exact ⟨a, os', p, hp, e, q⟩
theorem runP_ret (a : α) {P : α → List MO → Prop} (p : P a os) : RunP l hh (M.ret a) os P := RunP.of fun h _ => runT_ret a p
theorem runP_alloc (o : MO) {P : MV → List MO → Prop} (p : P (.ref (hh.length + os.length)) (os ++ [o])) : RunP l hh (M.alloc o) os P := RunP.of fun h e => runT_alloc o (by rw [e]; exact p)
theorem runP_append {j : Nat} {xs : List MV} {x : MV} {P : MV → List MO → Prop} (e : os[j]? = some (.lst xs)) (hx : xs.length < 1000000) (p : P .non (os.set j (.lst (xs ++ [x])))) : RunP l hh (mtV .append (.ref (hh.length + j)) [x]) os P := RunP.of fun h el => by rw [← el]; exact runT_append e hx p
theorem runP_idxl {j : Nat} {xs : List MV} {i : Int} {x : MV} {P : MV → List MO → Prop} (e : os[j]? = some (.lst xs)) (hx : L2.atI xs i = some x) (p : P x os) : RunP l hh (idxV (.ref (hh.length + j)) (.int i)) os P := RunP.of fun h el => by rw [← el]; exact runT_idxl e hx p
theorem runP_idxd {j : Nat} {t : Bool} {kvs : List (MV × MV)} {k v : MV} {P : MV → List MO → Prop} (e : os[j]? = some (.dct t kvs)) (hk : keyB t k = true) (hf : findM k kvs = some v) (p : P v os) : RunP l hh (idxV (.ref (hh.length + j)) k) os P := RunP.of fun h el => by rw [← el]; exact runT_idxd (by rw [loc_get]; exact e) hk hf p
theorem runP_rcv {m : Mt} {j : Nat} {xs : List MV} {P : Unit → List MO → Prop} (hm : rcvV m (.ref (hh.length + j)) = chkL (hh.length + j)) (e : os[j]? = some (.lst xs)) (p : P () os) : RunP l hh (rcvV m (.ref (hh.length + j))) os P := RunP.of fun h el => by rw [← el] at hm ⊢; exact runT_rcv hm e p
theorem runP_for {asg : MV → Env → M Env} {body : Env → M (Env × Fl)} {xs : List MV} {W : Nat} {ρ0 : Env} {Q : Env × Fl → List MO → Prop} (I : Nat → Env → List MO → Prop) (h0 : I 0 ρ0 os) (hW : xs.length < W)
    (hs : ∀ i x ρ os, xs[i]? = some x → I i ρ os → RunP l hh (asg x ρ) os fun ρ' os' => RunP l hh (body ρ') os' fun p os2 => match p.2 with
      | .nx => I (i + 1) p.1 os2
      | .ct => I (i + 1) p.1 os2
      | .bk => Q (p.1, .nx) os2
      | .rt v => Q (p.1, .rt v) os2) (he : ∀ ρ os, I xs.length ρ os → Q (ρ, .nx) os) : RunP l hh (forLoop asg body (.vs xs) W 0 ρ0) os Q := by
  have key : ∀ (μ i : Nat) (ρ : Env) (os : List MO), xs.length < i + μ → i ≤ xs.length → I i ρ os → RunP l hh (forLoop asg body (.vs xs) μ i ρ) os Q := by
    intro μ
    induction μ with
    | zero => intro i ρ os h1 h2; omega
    | succ μ ih =>
      intro i ρ os h1 h2 hi
      have e : forLoop asg body (.vs xs) (μ + 1) i ρ = fun h => match some xs[i]? with
        | none => .stuck
        | some none => .ok (ρ, .nx) h
        | some (some x) => ((asg x ρ).bnd fun ρ' => (body ρ').bnd fun p => match p.2 with
          | .nx => forLoop asg body (.vs xs) μ (i + 1) p.1
          | .ct => forLoop asg body (.vs xs) μ (i + 1) p.1
          | .bk => .ret (p.1, .nx)
          | .rt v => .ret (p.1, .rt v)) h := rfl
      cases e2 : xs[i]? with
      | none =>
        have := List.getElem?_eq_none_iff.mp e2
        have hh : i = xs.length := by omega
        subst hh
        rw [e2] at e
        rw [e]
        exact fun p hp => ⟨(ρ, .nx), os, p, hp, rfl, he ρ os hi⟩
      | some x =>
        rw [e2] at e
        rw [e]
        show RunP l hh ((asg x ρ).bnd fun ρ' => (body ρ').bnd fun p => match p.2 with
          | .nx => forLoop asg body (.vs xs) μ (i + 1) p.1
          | .ct => forLoop asg body (.vs xs) μ (i + 1) p.1
          | .bk => .ret (p.1, .nx)
          | .rt v => .ret (p.1, .rt v)) os Q
        have hl := (List.getElem?_eq_some_iff.mp e2).1
        refine (hs i x ρ os e2 hi).bnd fun ρ' os' r => r.bnd fun p os2 q => ?_
        obtain ⟨ρ2, fl⟩ := p
        cases fl with
        | nx => exact ih (i + 1) ρ2 os2 (by omega) (by omega) q
        | ct => exact ih (i + 1) ρ2 os2 (by omega) (by omega) q
        | bk => exact runP_ret (a := (ρ2, Fl.nx)) q
        | rt v => exact runP_ret (a := (ρ2, Fl.rt v)) q
  exact key W 0 ρ0 os (by omega) (Nat.zero_le _) h0
theorem runP_whl {test : Env → M Bool} {body : Env → M (Env × Fl)} {W : Nat} {ρ0 : Env} {Q : Env × Fl → List MO → Prop} (I : Nat → Env → List MO → Prop) {m0 : Nat} (hm : m0 < W) (h0 : I m0 ρ0 os)
    (hs : ∀ m ρ os, I m ρ os → RunP l hh (test ρ) os fun k os' => (k = true → RunP l hh (body ρ) os' fun p os2 => match p.2 with
      | .nx => ∃ m', m' < m ∧ I m' p.1 os2
      | .ct => ∃ m', m' < m ∧ I m' p.1 os2
      | .bk => Q (p.1, .nx) os2
      | .rt v => Q (p.1, .rt v) os2) ∧ (k = false → Q (ρ, .nx) os')) : RunP l hh (whlLoop test body W ρ0) os Q := by
  have key : ∀ (w m : Nat) (ρ : Env) (os : List MO), m < w → I m ρ os → RunP l hh (whlLoop test body w ρ) os Q := by
    intro w
    induction w with
    | zero => intro m ρ os h1; omega
    | succ w ih =>
      intro m ρ os h1 hi
      show RunP l hh ((test ρ).bnd fun k => if k then (body ρ).bnd fun p => match p.2 with
        | .nx => whlLoop test body w p.1
        | .ct => whlLoop test body w p.1
        | .bk => .ret (p.1, .nx)
        | .rt v => .ret (p.1, .rt v)
        else .ret (ρ, .nx)) os Q
      refine (hs m ρ os hi).bnd fun k os' r => ?_
      cases k with
      | false => exact runP_ret (a := (ρ, Fl.nx)) (r.2 rfl)
      | true =>
        refine (r.1 rfl).bnd fun p os2 q => ?_
        obtain ⟨ρ2, fl⟩ := p
        cases fl with
        | nx =>
          obtain ⟨m', h3, h4⟩ := q
          exact ih m' ρ2 os2 (by omega) h4
        | ct =>
          obtain ⟨m', h3, h4⟩ := q
          exact ih m' ρ2 os2 (by omega) h4
        | bk => exact runP_ret (a := (ρ2, Fl.nx)) q
        | rt v => exact runP_ret (a := (ρ2, Fl.rt v)) q
  exact key W m0 ρ0 os hm h0
/-- a call that draws and leaves nothing else -/
def Dr (l : Nat) (m : M α) (P : α → Prop) : Prop := ∀ hh : MH, l < hh.length → RunP l hh m [] fun a os => os = [] ∧ P a
theorem RunP.lift {m : M α} {P : α → Prop} (hl : l < hh.length) (r : RunP l (hh ++ os) m [] fun a os => os = [] ∧ P a) : RunP l hh m os fun a os' => os' = os ∧ P a := fun p hp => by
  obtain ⟨a, os', p', hp', e, rfl, q⟩ := r p hp
  rw [List.append_nil, List.append_nil, List.set_append_left _ _ hl, List.set_append_left _ _ hl] at e
  exact ⟨a, os, p', hp', e, rfl, q⟩
theorem Dr.toP {m : M α} {P : α → Prop} (d : Dr l m P) (hl : l < hh.length) : RunP l hh m os fun a os' => os' = os ∧ P a := RunP.lift hl (d (hh ++ os) (by rw [List.length_append]; omega))
theorem noRefO_pot {p : MO} (h : PotOk p) : noRefO p = true := by
  obtain ⟨a, b, rfl, _⟩ := h
  rfl
theorem call_P {T : List Def} {W n f : Nat} {ws : List MV} {df : Def} {P : MV → Prop} (hl : l < hh.length) (e : T[f]? = some df) (hw : ws.length = df.np) (hc : df.cl = true)
    (b : RunP l hh ((evSL (callF T W n) W df.body (ws.map some ++ List.replicate (df.ns - df.np) none)).bnd retP) [] fun v os => ∃ w, (∀ h : MH, h.length = hh.length → byV (h ++ os) h.length 60 v = some w) ∧ P w) : RunP l hh (callF T W (n + 1) f ws) [] fun v os => os = [] ∧ P v := fun p hp => by
  obtain ⟨v, os', p', hp', e2, w, bw, q⟩ := b p hp
  rw [List.append_nil] at e2
  refine ⟨w, [], p', hp', ?_, rfl, q⟩
  rw [call_eq e hw]
  show clV df.cl ((evSL (callF T W n) W df.body (ws.map some ++ List.replicate (df.ns - df.np) none)).bnd retP) _ = _
  rw [hc, List.append_nil, List.append_nil]
  show bvV ((evSL (callF T W n) W df.body (ws.map some ++ List.replicate (df.ns - df.np) none)).bnd retP) _ = _
  unfold bvV
  rw [e2]
  dsimp only
  have hcln : Cln (hh.set l p) (hh.set l p' ++ os') := by
    refine ⟨by rw [List.length_append, List.length_set, List.length_set]; omega, fun i hi => ?_⟩
    rw [List.length_set] at hi
    by_cases h : i = l
    · subst h
      exact .inr ⟨p', by rw [List.getElem?_append_left (by rw [List.length_set]; exact hi), List.getElem?_set_self hi], noRefO_pot hp'⟩
    · left
      rw [List.getElem?_append_left (by rw [List.length_set]; exact hi), List.getElem?_set_ne (fun z => h z.symm), List.getElem?_set_ne (fun z => h z.symm)]
  rw [if_pos hcln]
  have hl2 : (hh.set l p).length = (hh.set l p').length := by rw [List.length_set, List.length_set]
  rw [hl2, bw (hh.set l p') (by rw [List.length_set])]
  dsimp only
  rw [List.take_append_of_le_length (Nat.le_refl _), List.take_length]
theorem bnd_at {x : M α} {f : α → M β} {H H' : MH} {a : α} (e : x H = .ok a H') : (x.bnd f) H = f a H' := by
  unfold M.bnd
  rw [e]
end
theorem idx_at {H : MH} {l : Nat} {xs : List MV} {i : Int} {x : MV} (e : H[l]? = some (.lst xs)) (hx : L2.atI xs i = some x) : idxV (.ref l) (.int i) H = .ok x H := by
  unfold idxV
  dsimp only
  rw [e]
  dsimp only
  unfold idxL
  dsimp only
  have : seqOf H (.ref l) = some xs := by
    unfold seqOf
    dsimp only
    rw [e]
  rw [this]
  show (match L2.atI xs i with
    | some x => Res.ok x H
    | none => .stuck) = _
  rw [hx]
theorem set_at {H : MH} {l j : Nat} {xs : List MV} {k : Int} {v : MV} (e : H[l]? = some (.lst xs)) (hx : L2.ixN xs.length k = some j) : setV (.ref l) (.int k) v H = .ok () (H.set l (.lst (xs.set j v))) := by
  unfold setV
  dsimp only
  rw [e]
  dsimp only
  unfold setL
  dsimp only
  rw [e]
  dsimp only
  rw [hx]
theorem okDiv_of {k : Int} (h : 0 < k) (h2 : k < 1073741824) : okDiv k = true := by
  unfold okDiv
  exact decide_eq_true ⟨h, h2⟩
theorem small_48271 : small64 48271 = true := by unfold small64; exact decide_eq_true (by omega)
theorem small_b {b : Int} (h : 0 ≤ b) (h2 : b ≤ 2147483629) : small64 b = true := by unfold small64; exact decide_eq_true (by omega)
section
variable {n l : Nat}
theorem draw_ok {k : Int} (hk : 0 < k) (hk2 : k < 1073741824) : Dr l (callF T W0 (n + 1) 33 [.ref l, .int k]) fun v => ∃ d : Int, v = .int d ∧ 0 ≤ d ∧ d < k := fun hh hl => by
  refine call_P (df := d__law_draw) (P := fun v => ∃ d : Int, v = .int d ∧ 0 ≤ d ∧ d < k) hl PT.at__law_draw rfl rfl fun p hp => ?_
  obtain ⟨a, b, rfl, ha, hb, hb2⟩ := hp
  rw [List.append_nil]
  have h0 : ∀ x y : Int, (hh.set l (.lst [.int x, .int y]))[l]? = some (.lst [.int x, .int y]) := fun x y => List.getElem?_set_self hl
  have a0 : ∀ x y : Int, L2.atI [MV.int x, .int y] 0 = some (.int x) := fun _ _ => rfl
  have a1 : ∀ x y : Int, L2.atI [MV.int x, .int y] 1 = some (.int y) := fun _ _ => rfl
  have s0 : L2.ixN 2 0 = some 0 := rfl
  have s1 : L2.ixN 2 1 = some 1 := rfl
  have dm : biV .divmod [.int a, .int k] = M.ret (.tup [.int (a / k), .int (a % k)]) := if_pos (okDiv_of hk hk2)
  unfold d__law_draw
  walk_at "mr"
  rw [bnd_at (idx_at (h0 a b) (a0 a b))]
  simp -implicitDefEqProofs only [q_gt, r_bndN]
  by_cases hz : 0 < a
  · rw [decide_eq_true hz]
    simp -implicitDefEqProofs only [if_true]
    walk_at "mr"
    rw [bnd_at (idx_at (h0 a b) (a0 a b))]
    simp -implicitDefEqProofs only [dm, r_bndN]
    walk_at "mr"
    rw [bnd_at (set_at (h0 a b) s0)]
    walk_at "mr"
    refine ⟨_, [], .lst [.int (a / k), .int b], ⟨_, _, rfl, Int.ediv_nonneg ha (by omega), hb, hb2⟩, ?_, .int (a % k), fun h _ => noRef_byV rfl 60, a % k, rfl, Int.emod_nonneg _ (by omega), Int.emod_lt_of_pos _ hk⟩
    rw [List.append_nil, List.set_set]
    rfl
  · rw [decide_eq_false hz]
    simp -implicitDefEqProofs only [Bool.false_eq_true, if_false]
    walk_at "mr"
    rw [bnd_at (idx_at (h0 a b) (a1 a b))]
    have m1 : binV .mul (.int b) (.int 48271) = M.ret (.int (b * 48271)) := if_pos (by rw [small_48271, Bool.or_true])
    simp -implicitDefEqProofs only [m1, r_bndN]
    walk_at "mr"
    have hm : ∀ x : Int, binV .mod (.int x) (.int 2147483629) = M.ret (.int (x % 2147483629)) := fun x => by rw [q_mod, if_pos (by omega)]
    simp -implicitDefEqProofs only [hm, r_bndN]
    rw [bnd_at (set_at (h0 a b) s1), List.set_set]
    generalize hb' : (b * 48271 + 11213) % 2147483629 = b'
    have b0 : 0 ≤ b' := by rw [← hb']; exact Int.emod_nonneg _ (by omega)
    have b1 : b' < 2147483629 := by rw [← hb']; exact Int.emod_lt_of_pos _ (by omega)
    show ∃ v os' p', PotOk p' ∧ _ = Res.ok v _ ∧ _
    walk_at "mr"
    rw [bnd_at (idx_at (h0 a b') (a1 a b')), bnd_at (idx_at (h0 a b') (a1 a b'))]
    have m2 : binV .mul (.int b') (.int b') = M.ret (.int (b' * b')) := if_pos (by rw [small_b b0 (by omega)]; rfl)
    have hm2 : ∀ x : Int, binV .mod (.int x) (.int 2147483549) = M.ret (.int (x % 2147483549)) := fun x => by rw [q_mod, if_pos (by omega)]
    have hd : ∀ x : Int, binV .fdiv (.int x) (.int 13) = M.ret (.int (x / 13)) := fun x => by rw [q_fdiv, if_pos (okDiv_of (by omega) (by omega))]
    have hk3 : ∀ x : Int, binV .mod (.int x) (.int k) = M.ret (.int (x % k)) := fun x => by rw [q_mod, if_pos hk]
    simp -implicitDefEqProofs only [m2, r_bndN, q_int, hm2, hd, hk3]
    walk_at "mr"
    refine ⟨.int (b' * b' % 2147483549 / 13 % k), [], .lst [.int a, .int b'], ⟨_, _, rfl, ha, b0, by omega⟩, ?_, .int (b' * b' % 2147483549 / 13 % k), fun h _ => noRef_byV rfl 60, b' * b' % 2147483549 / 13 % k, rfl, Int.emod_nonneg _ (by omega), Int.emod_lt_of_pos _ hk⟩
    rw [List.append_nil]
    rfl
end
end MPV
namespace MPV
open PySem hiding Env
open MP LawT
variable {T : List Def} {W0 : Nat} [PT T] [Wd W0]
local macro_rules | `(tactic| walk_at "mr") => `(tactic| try simp -implicitDefEqProofs only [bnd_assoc, e_dctT, sl_cons, sl_nil, s_asg, s_par, s_par3, s_aug, s_ex, s_ret, s_retN, s_ifs, s_fors, s_whl, s_pas, t_bop, t_not, t_var, t_cmp, t_chain, t_isK, t_call, t_bi, t_isi, t_idx, bt_one, bt_cons, e_var, e_lit, e_glo, e_tup, e_lst, e_dct, e_bin, e_neg, e_cmp, e_chain, e_isK, e_bop, e_not, e_ife, e_call, e_callk, e_bi, e_isi, e_mth, e_idx, e_slc, e_lc, e_val, e_fld, e_con, el_nil, el_cons, eb_one, eb_cons, eo_no, eo_so, ec_no, ec_so, g_nm, g_tp, g_sb, gl_nil, gl_cons, i_vl, i_rg1, i_rg2, i_en, i_its, i_vas, i_zp, after_nx, after_rt, r_bndN, r_opt, w_nil, w_cons, q_inS, retP_nx, retP_rt, List.replicate_zero, Nat.sub_self, q_add, q_sub, q_neg, q_not, q_bop, q_lt, q_le, q_gt, q_ge, q_eqs, q_nes, q_trub, q_int, q_intb, q_lent, q_lenr, q_idxt0, q_idxt1, q_idxt2, q_isi1, q_isi2, q_itt, q_itr, q_itd, q_its, q_intO, q_tupr, q_tupt, List.map_cons, List.map_nil, List.cons_append, List.nil_append, List.replicate, List.getElem?_cons_zero, List.getElem?_cons_succ, List.set_cons_zero, List.set_cons_succ, if_true, if_false, Bool.false_eq_true, b00, b01, b10, b11, Bool.not_true, Bool.not_false, Bool.true_or, Bool.or_true, Bool.false_or, Bool.or_false])
/-! k22: picks, names. -/
theorem len_at {H : MH} {v : MV} {xs : List MV} (hv : lstO H v = some xs) : biV .len [v] H = .ok (.int xs.length) H := by
  cases v with
  | ro ys => cases hv; rfl
  | ref i =>
    unfold lstO at hv
    dsimp only at hv
    split at hv
    · rename_i ys e
      cases hv
      show (match H[i]? with
        | some (.lst xs) => Res.ok (MV.int xs.length) H
        | some (.dct false kvs) => .ok (.int kvs.length) H
        | _ => .stuck) = _
      rw [e]
    · cases hv
  | _ => cases hv
theorem idx_any {H : MH} {v : MV} {xs : List MV} {i : Int} {x : MV} (hv : lstO H v = some xs) (hx : L2.atI xs i = some x) : idxV v (.int i) H = .ok x H := by
  cases v with
  | ro ys =>
    cases hv
    exact congrFun (q_idxr hx) H
  | ref l =>
    unfold lstO at hv
    dsimp only at hv
    split at hv
    · rename_i ys e
      cases hv
      exact idx_at e hx
    · cases hv
  | _ => cases hv
theorem at_int {α : Type} {xs : List α} {i : Int} (h : 0 ≤ i) (h2 : i < xs.length) : ∃ x, L2.atI xs i = some x ∧ x ∈ xs := by
  obtain ⟨k, rfl⟩ := Int.eq_ofNat_of_zero_le h
  have hk : k < xs.length := by omega
  exact ⟨xs[k], at_nat (List.getElem?_eq_getElem hk), List.getElem_mem hk⟩
section
variable {n l : Nat} {hh : MH} {os : List MO}
theorem runP_len {v : MV} {xs : List MV} {P : MV → List MO → Prop} (hv : ∀ p, lstO (hh.set l p ++ os) v = some xs) (p : P (.int xs.length) os) : RunP l hh (biV .len [v]) os P := fun q hq => ⟨_, os, q, hq, len_at (hv q), p⟩
theorem runP_idx {v : MV} {xs : List MV} {i : Int} {x : MV} {P : MV → List MO → Prop} (hv : ∀ p, lstO (hh.set l p ++ os) v = some xs) (hx : L2.atI xs i = some x) (p : P x os) : RunP l hh (idxV v (.int i)) os P := fun q hq => ⟨_, os, q, hq, idx_any (hv q) hx, p⟩
theorem pick_ok {v : MV} {xs : List MV} (hl : l < hh.length) (hv : ∀ p, lstO (hh.set l p) v = some xs) (hne : xs ≠ []) (hlen : xs.length ≤ 1000) (hn : ∀ x ∈ xs, noRef x = true) :
    RunP l hh (callF T W0 (n + 2) 34 [.ref l, v]) [] fun w os => os = [] ∧ w ∈ xs := by
  have hpos := List.length_pos_iff.mpr hne
  have hv' : ∀ p, lstO (hh.set l p ++ []) v = some xs := fun p => by rw [List.append_nil]; exact hv p
  refine call_P (df := d__law_pick) (P := fun v => v ∈ xs) hl PT.at__law_pick rfl rfl ?_
  unfold d__law_pick
  walk_at "mr"
  refine RunP.bnd (runP_len (P := fun v os => v = .int xs.length ∧ os = []) hv' ⟨rfl, rfl⟩) fun w os q => ?_
  obtain ⟨rfl, rfl⟩ := q
  walk_at "mr"
  refine RunP.bnd ((draw_ok (T := T) (W0 := W0) (n := n) (k := xs.length) (by omega) (by omega)).toP hl) fun w os q => ?_
  obtain ⟨rfl, d, rfl, h1, h2⟩ := q
  obtain ⟨x, hx, hm⟩ := at_int h1 h2
  refine RunP.bnd (runP_idx (P := fun v os => v = x ∧ os = []) hv' hx ⟨rfl, rfl⟩) fun w os q => ?_
  obtain ⟨rfl, rfl⟩ := q
  walk_at "mr"
  exact runP_ret _ ⟨w, fun h _ => noRef_byV (hn w hm) 60, hm⟩
/-- a pick from what stands in the list of locals -/
theorem pick_toP {v : MV} {xs : List MV} (hl : l < hh.length) (hv : ∀ p, lstO (hh.set l p ++ os) v = some xs) (hne : xs ≠ []) (hlen : xs.length ≤ 1000) (hn : ∀ x ∈ xs, noRef x = true) :
    RunP l hh (callF T W0 (n + 2) 34 [.ref l, v]) os fun w os' => os' = os ∧ w ∈ xs := RunP.lift hl (pick_ok (by rw [List.length_append]; omega) (fun p => by rw [List.set_append_left _ _ hl]; exact hv p) hne hlen hn)
theorem runT_popAt {h : MH} {j : Nat} {xs : List MV} {i : Int} {k : Nat} {y : MV} {P : MV → List MO → Prop} (e : os[j]? = some (.lst xs)) (hi : small63 i = true) (hx : L2.ixN xs.length i = some k) (hy : xs[k]? = some y) (p : P y (os.set j (.lst (xs.eraseIdx k)))) : RunT h (mtV .popAt (.ref (h.length + j)) [.int i]) os P := by
  refine ⟨y, os.set j (.lst (xs.eraseIdx k)), ?_, p⟩
  show (match (h ++ os)[h.length + j]? with
    | some (.lst xs) => if small63 i then (match seqIndex? i xs.length with
      | some k => (match xs[k]? with
        | some y => Res.ok y ((h ++ os).set (h.length + j) (.lst (xs.eraseIdx k)))
        | none => .stuck)
      | none => .stuck) else .stuck
    | _ => .stuck) = _
  rw [loc_get, e]
  dsimp only
  rw [if_pos hi, (L2.ixN_seq hx).1]
  dsimp only
  rw [hy]
  dsimp only
  rw [loc_set]
theorem runP_popAt {j : Nat} {xs : List MV} {i : Int} {k : Nat} {y : MV} {P : MV → List MO → Prop} (e : os[j]? = some (.lst xs)) (hi : small63 i = true) (hx : L2.ixN xs.length i = some k) (hy : xs[k]? = some y) (p : P y (os.set j (.lst (xs.eraseIdx k)))) : RunP l hh (mtV .popAt (.ref (hh.length + j)) [.int i]) os P := RunP.of fun h el => by rw [← el]; exact runT_popAt e hi hx hy p
end
/-! ### texts in their sequence -/
theorem leS_iff {a b : Str} : leS a b = true ↔ a.cps.toList ≤ b.cps.toList := by
  unfold leS
  rw [Bool.not_eq_true', decide_eq_false_iff_not]
  exact List.not_lt
theorem leS_trans (a b c : Str) (h : leS a b = true) (k : leS b c = true) : leS a c = true := leS_iff.mpr (List.le_trans (leS_iff.mp h) (leS_iff.mp k))
theorem leS_total (a b : Str) : (leS a b || leS b a) = true := by
  rw [Bool.or_eq_true_iff, leS_iff, leS_iff]
  exact List.le_total _ _
theorem sort_sort (xs : List Str) : sortS (sortS xs) = sortS xs := by
  unfold sortS
  exact List.mergeSort_of_pairwise (List.pairwise_mergeSort leS_trans leS_total xs)
theorem sort_perm (xs : List Str) : (sortS xs).Perm xs := List.mergeSort_perm xs leS
/-- names that are told sorted -/
structure GoodNames (ns : List Str) : Prop where
  ne : ns ≠ []
  few : ns.length ≤ 4
  nd : ns.Nodup
  srt : sortS ns = ns
  name : ∀ a ∈ ns, goodName a = true
def pool : List Str := [Str.ofString "a", Str.ofString "b", Str.ofString "ab", Str.ofString "ba", Str.ofString "z", Str.ofString "end", Str.ofString "say", Str.ofString "get", Str.ofString "zzzzzz", Str.ofString "go"]
theorem pool_nd : pool.Nodup := by decide +kernel
theorem pool_good : ∀ a ∈ pool, goodName a = true := by
  have : (pool.all goodName) = true := by decide +kernel
  exact List.all_eq_true.mp this
theorem good_of_pool {rest found : List Str} (hp : (rest ++ found).Perm pool) (hne : found ≠ []) (hl : found.length ≤ 4) : GoodNames (sortS found) := by
  have p := sort_perm found
  have nd : found.Nodup := by
    have := hp.nodup_iff.mpr pool_nd
    rw [List.nodup_append] at this
    exact this.2.1
  refine ⟨fun h => hne ?_, by rw [p.length_eq]; exact hl, p.nodup_iff.mpr nd, sort_sort found, fun a ha => pool_good a (hp.subset (List.mem_append_right _ (p.subset ha)))⟩
  rw [h] at p
  exact List.Perm.eq_nil p.symm
theorem map_erase {α β : Type} (f : α → β) : ∀ (xs : List α) (k : Nat), (xs.map f).eraseIdx k = (xs.eraseIdx k).map f
  | [], _ => rfl
  | _ :: _, 0 => rfl
  | x :: r, k + 1 => by
    show f x :: (r.map f).eraseIdx k = f x :: (r.eraseIdx k).map f
    rw [map_erase f r k]
theorem erase_perm {α : Type} : ∀ (xs : List α) (k : Nat) (h : k < xs.length), (xs[k] :: xs.eraseIdx k).Perm xs
  | x :: r, 0, _ => List.Perm.refl _
  | x :: r, k + 1, h => by
    have hk : k < r.length := Nat.lt_of_succ_lt_succ h
    have ih := erase_perm r k hk
    show (r[k] :: x :: r.eraseIdx k).Perm (x :: r)
    exact (List.Perm.swap _ _ _).trans (ih.cons x)
theorem small63_nat {k : Nat} (h : k ≤ 1000000) : small63 (k : Int) = true := by
  unfold small63
  exact decide_eq_true (by omega)
theorem ixN_nat {n k : Nat} (h : k < n) : L2.ixN n (k : Int) = some k := by
  unfold L2.ixN
  rw [if_pos (by omega), if_pos (by omega)]
  rfl
section
variable {n l : Nat}
theorem names_ok {k : Nat} (hk1 : 1 ≤ k) (hk4 : k ≤ 4) : Dr l (callF T W0 (n + 2) 35 [.ref l, .int (k : Int)]) fun v => ∃ ns : List Str, v = .ro (ns.map .str) ∧ GoodNames ns := fun hh hl => by
  refine call_P (df := d__law_names) (P := fun v => ∃ ns : List Str, v = .ro (ns.map .str) ∧ GoodNames ns) hl PT.at__law_names rfl rfl ?_
  have l10 : ∀ xs : List MV, xs.length < 1000 → lstV xs = M.alloc (.lst xs) := fun xs h => if_pos (fits_lt (by omega))
  unfold d__law_names
  walk_at "mr"
  simp -implicitDefEqProofs only [l10 _ (show [MV.str (Str.ofString "a"), .str (Str.ofString "b"), .str (Str.ofString "ab"), .str (Str.ofString "ba"), .str (Str.ofString "z"), .str (Str.ofString "end"), .str (Str.ofString "say"), .str (Str.ofString "get"), .str (Str.ofString "zzzzzz"), .str (Str.ofString "go")].length < 1000 by decide), q_lst0]
  refine RunP.bnd (runP_alloc (P := fun v os => v = .ref (hh.length + 0) ∧ os = [.lst (pool.map .str)]) _ ⟨rfl, rfl⟩) fun v os q => ?_
  obtain ⟨rfl, rfl⟩ := q
  refine RunP.bnd (runP_alloc (P := fun v os => v = .ref (hh.length + 1) ∧ os = [.lst (pool.map .str), .lst []]) _ ⟨rfl, rfl⟩) fun v os q => ?_
  obtain ⟨rfl, rfl⟩ := q
  walk_at "mr"
  simp -implicitDefEqProofs only [q_rg1n (k := k) (by omega), r_bndN]
  refine RunP.bnd (runP_for (Q := fun p os => ∃ o2, ∃ rest found : List Str, p = ([some (.ref l), some (.int (k : Int)), o2, some (.ref (hh.length + 0)), some (.ref (hh.length + 1))], .nx) ∧ os = [.lst (rest.map MV.str), .lst (found.map MV.str)] ∧ (rest ++ found).Perm pool ∧ found.length = k)
    (fun i ρ os => ∃ o2, ∃ rest found : List Str, ρ = [some (.ref l), some (.int (k : Int)), o2, some (.ref (hh.length + 0)), some (.ref (hh.length + 1))] ∧ os = [.lst (rest.map MV.str), .lst (found.map MV.str)] ∧ (rest ++ found).Perm pool ∧ found.length = i) ⟨_, pool, [], rfl, rfl, by rw [List.append_nil], rfl⟩ (lt_W0 (by rw [List.length_map, List.length_range]; omega)) (fun i x ρ os hx hi => ?_) (fun ρ os hi => ?_)) fun p os q => ?_
  · obtain ⟨o2, rest, found, rfl, rfl, hp, hfl⟩ := hi
    rw [List.getElem?_map] at hx
    obtain ⟨i', hi', rfl⟩ := Option.map_eq_some_iff.mp hx
    have hik := (List.getElem?_eq_some_iff.mp hi').1
    rw [List.length_range] at hik
    have htot : rest.length + found.length = 10 := by
      have := hp.length_eq
      rw [List.length_append] at this
      exact this
    refine runP_ret _ ?_
    walk_at "mr"
    refine RunP.bnd (runP_rcv (m := .append) (j := 1) (P := fun _ os => os = [.lst (rest.map MV.str), .lst (found.map MV.str)]) rfl rfl rfl) fun _ os q => ?_
    subst q
    refine RunP.bnd (runP_rcv (m := .popAt) (j := 0) (P := fun _ os => os = [.lst (rest.map MV.str), .lst (found.map MV.str)]) rfl rfl rfl) fun _ os q => ?_
    subst q
    have hr : ∀ p, lstO (hh.set l p ++ [.lst (rest.map MV.str), .lst (found.map MV.str)]) (.ref (hh.length + 0)) = some (rest.map MV.str) := fun p => by
      unfold lstO
      dsimp only
      rw [show hh.length + 0 = (hh.set l p).length + 0 from by rw [List.length_set], loc_get]
      rfl
    refine RunP.bnd (runP_len (P := fun v os => v = .int (rest.map MV.str).length ∧ os = [.lst (rest.map MV.str), .lst (found.map MV.str)]) hr ⟨rfl, rfl⟩) fun w os q => ?_
    obtain ⟨rfl, rfl⟩ := q
    walk_at "mr"
    refine RunP.bnd ((draw_ok (T := T) (W0 := W0) (n := n) (k := (rest.map MV.str).length) (by rw [List.length_map]; omega) (by rw [List.length_map]; omega)).toP hl) fun w os q => ?_
    obtain ⟨rfl, d, rfl, h1, h2⟩ := q
    obtain ⟨m, rfl⟩ := Int.eq_ofNat_of_zero_le h1
    rw [List.length_map] at h2
    have hm : m < rest.length := by omega
    walk_at "mr"
    refine RunP.bnd (runP_popAt (j := 0) (k := m) (y := .str rest[m]) (P := fun v os => v = .str rest[m] ∧ os = [.lst ((rest.eraseIdx m).map MV.str), .lst (found.map MV.str)]) rfl (small63_nat (by omega)) (ixN_nat (by rw [List.length_map]; exact hm)) (by rw [List.getElem?_map, List.getElem?_eq_getElem hm]; rfl) ⟨rfl, by
      rw [map_erase]
      rfl⟩) fun w os q => ?_
    obtain ⟨rfl, rfl⟩ := q
    walk_at "mr"
    refine RunP.bnd (runP_append (j := 1) (P := fun _ os => os = [.lst ((rest.eraseIdx m).map MV.str), .lst ((found ++ [rest[m]]).map MV.str)]) rfl (by rw [List.length_map]; omega) (by
      rw [List.map_append]
      rfl)) fun w os q => ?_
    subst q
    refine runP_ret _ ⟨_, rest.eraseIdx m, found ++ [rest[m]], rfl, rfl, ?_, by rw [List.length_append, hfl]; rfl⟩
    refine List.Perm.trans ?_ hp
    have e1 : (rest[m] :: rest.eraseIdx m).Perm rest := erase_perm rest m hm
    have e2 : ((rest.eraseIdx m) ++ (found ++ [rest[m]])).Perm (rest[m] :: ((rest.eraseIdx m) ++ found)) := by
      rw [← List.append_assoc]
      exact List.perm_append_singleton _ _
    exact e2.trans (e1.append_right found)
  · obtain ⟨o2, rest, found, rfl, rfl, hp, hfl⟩ := hi
    rw [List.length_map, List.length_range] at hfl
    exact ⟨_, rest, found, rfl, rfl, hp, hfl⟩
  · obtain ⟨o2, rest, found, rfl, rfl, hp, hfl⟩ := q
    walk_at "mr"
    refine RunP.bnd (RunP.of (P := fun v os => v = .ro ((sortS found).map .str) ∧ os = [.lst (rest.map MV.str), .lst (found.map MV.str)]) fun h el => ?_) fun w os q => ?_
    · rw [← el]
      refine runT_val (w := .ro ((sortS found).map .str)) ?_ ⟨rfl, rfl⟩
      have e : ∀ H : MH, H[h.length + 1]? = some (.lst (found.map MV.str)) → biV .sorted [.ref (h.length + 1)] H = M.alloc (.lst ((sortS found).map .str)) H := fun H hH => by
        show (match (lstO H (.ref (h.length + 1))).bind allStrs with
          | some xs => if decide (xs.length < 64) then M.alloc (.lst ((sortS xs).map .str)) H else .stuck
          | none => .stuck) = _
        unfold lstO
        dsimp only
        rw [hH]
        show (match allStrs (found.map MV.str) with
          | some xs => if decide (xs.length < 64) then M.alloc (.lst ((sortS xs).map .str)) H else .stuck
          | none => .stuck) = _
        rw [allStrs_map]
        dsimp only
        rw [if_pos (decide_eq_true (by omega))]
      generalize hH : h ++ [MO.lst (rest.map MV.str), .lst (found.map MV.str)] = H
      have e1 := e H (by rw [← hH, loc_get]; rfl)
      refine ⟨.ref H.length, [.lst ((sortS found).map .str)], ?_, byV_lst (Nat.le_refl _) app_self' (noRefs_map fun _ _ => rfl)⟩
      rw [List.append_nil, e1]
      rfl
    · obtain ⟨rfl, rfl⟩ := q
      walk_at "mr"
      refine runP_ret _ ⟨.ro ((sortS found).map .str), fun h _ => noRef_byV (by show noRefs _ = true; exact noRefs_map fun _ _ => rfl) 60, sortS found, rfl, good_of_pool hp ?_ (by omega)⟩
      intro z
      rw [z] at hfl
      simp at hfl
      omega
end
end MPV
/-! k22: rows that grow along a run. -/
namespace MPV
open PySem hiding Env
open MP LawT Pic
abbrev Rows := Str → List (Deed Str)
def addD (R : Rows) (a : Str) (d : Deed Str) : Rows := fun b => if b = a then R b ++ [d] else R b
theorem addD_self {R : Rows} {a : Str} {d : Deed Str} : addD R a d a = R a ++ [d] := if_pos rfl
theorem addD_ne {R : Rows} {a b : Str} {d : Deed Str} (h : b ≠ a) : addD R a d b = R b := if_neg h
theorem addD_ext {R : Rows} {a : Str} {d : Deed Str} (b : Str) : ∃ t, addD R a d b = R b ++ t := by
  by_cases h : b = a
  · subst h; exact ⟨[d], addD_self⟩
  · exact ⟨[], by rw [addD_ne h, List.append_nil]⟩
theorem canGo_ext {R R' : Rows} {c : Str → Nat} {a : Str} (hx : ∀ b, ∃ t, R' b = R b ++ t) (hc : ∀ b, c b ≤ (R b).length) (g : canGo R c a = true) : canGo R' c a = true := by
  have tk : ∀ b, (R' b).take (c b) = (R b).take (c b) := fun b => by
    obtain ⟨t, e⟩ := hx b
    rw [e, List.take_append_of_le_length (hc b)]
  unfold canGo at g ⊢
  have hlt : c a < (R a).length := by
    split at g
    · cases g
    · rename_i d e
      exact (List.getElem?_eq_some_iff.mp e).1
  obtain ⟨t, e⟩ := hx a
  have e1 : (R' a)[c a]? = (R a)[c a]? := by rw [e, List.getElem?_append_left hlt]
  rw [e1]
  split at g
  · cases g
  · rename_i d ed
    rw [ed]
    dsimp only
    rw [tk a, tk d.other]
    exact g
theorem steps_ext {R R' : Rows} {s : List Str} (hx : ∀ b, ∃ t, R' b = R b ++ t) (h : Steps R s) : Steps R' s := fun i a e => canGo_ext hx (fun b => steps_le (h.take i) b) (h i a e)
theorem sel_snoc {r : List (Deed Str)} {d : Deed Str} {k : Bool} {b : Str} : sel (r ++ [d]) k b = sel r k b ++ (if isD k b d then [d] else []) := by
  unfold sel
  rw [List.filter_append]
  congr 1
  rw [List.filter_cons]
  rfl
abbrev Wt := List (Str × Str × Str)
def isP (a b : Str) (e : Str × Str × Str) : Bool := decide (e.1 = a) && decide (e.2.1 = b)
structure LInv (ns : List Str) (R : Rows) (W : Wt) (left : Nat) : Prop where
  ex : ∃ E, Steps R E ∧ (∀ a, cts E a = (R a).length) ∧ (∀ a ∈ E, a ∈ ns) ∧ E.length + 2 * left + W.length ≤ 16
  wt : ∀ e ∈ W, e.1 ∈ ns ∧ e.2.1 ∈ ns ∧ e.1 ≠ e.2.1 ∧ goodName e.2.2 = true
  deed : ∀ a, ∀ d ∈ R a, goodDeed d ∧ d.other ∈ ns ∧ d.other ≠ a
  fifo : ∀ a b, (sel (R a) true b).map (·.w) = (sel (R b) false a).map (·.w) ++ (W.filter (isP a b)).map (·.2.2)
theorem LInv.zero {ns : List Str} {left : Nat} (h : left ≤ 8) : LInv ns (fun _ => []) [] left := ⟨⟨[], (fun i a e => by simp at e), fun _ => rfl, (fun a h => by cases h), by simp; omega⟩, (fun e h => by cases h), (fun a d h => by cases h), fun a b => rfl⟩
section
variable {ns : List Str} {R : Rows} {W : Wt} {left : Nat}
theorem cnt_eq {r : List (Deed Str)} {k : Bool} {b : Str} : cnt r k b = ((sel r k b).map (·.w)).length := by rw [List.length_map]; rfl
theorem LInv.say (I : LInv ns R W (left + 1)) {one other w : Str} (h1 : one ∈ ns) (h2 : other ∈ ns) (h3 : other ≠ one) (hg : ∀ a ∈ ns, goodName a = true) (hw : goodName w = true) : LInv ns (addD R one ⟨true, other, w⟩) (W ++ [(one, other, w)]) left := by
  obtain ⟨E, e1, e2, e3, e4⟩ := I.ex
  refine ⟨⟨E ++ [one], ?_, fun a => ?_, fun a ha => ?_, ?_⟩, fun e he => ?_, fun a d hd => ?_, fun a b => ?_⟩
  · refine (steps_ext addD_ext e1).snoc ?_
    unfold canGo
    rw [e2, addD_self, List.getElem?_append_right (Nat.le_refl _), Nat.sub_self]
    rfl
  · rw [cts_snoc, e2]
    by_cases h : a = one
    · subst h; rw [addD_self, if_pos rfl, List.length_append]; rfl
    · rw [addD_ne h, if_neg fun z => h z.symm]; rfl
  · rcases List.mem_append.mp ha with h | h
    · exact e3 a h
    · rw [List.mem_singleton.mp h]; exact h1
  · rw [List.length_append, List.length_append, List.length_singleton, List.length_singleton]; omega
  · rcases List.mem_append.mp he with h | h
    · exact I.wt e h
    · rw [List.mem_singleton.mp h]; exact ⟨h1, h2, fun z => h3 z.symm, hw⟩
  · by_cases h : a = one
    · subst h
      rw [addD_self] at hd
      rcases List.mem_append.mp hd with h | h
      · exact I.deed a d h
      · rw [List.mem_singleton.mp h]; exact ⟨⟨hg _ h2, hw⟩, h2, h3⟩
    · rw [addD_ne h] at hd
      exact I.deed a d hd
  · have f := I.fifo a b
    have s2 : sel (addD R one ⟨true, other, w⟩ b) false a = sel (R b) false a := by
      by_cases h : b = one
      · subst h
        rw [addD_self, sel_snoc]
        show _ ++ (if (true == false && decide (other = a)) = true then _ else _) = _
        rw [if_neg (by simp), List.append_nil]
      · rw [addD_ne h]
    have s3 : ([(one, other, w)] : Wt).filter (isP a b) = if isP a b (one, other, w) then [(one, other, w)] else [] := by
      rw [List.filter_cons]; rfl
    rw [s2, List.filter_append, List.map_append, ← List.append_assoc, ← f, s3]
    by_cases h : one = a
    · subst h
      rw [addD_self, sel_snoc, List.map_append]
      congr 1
      show (if (true == true && decide (other = b)) = true then [(⟨true, other, w⟩ : Deed Str)] else []).map (·.w) = (if (decide (one = one) && decide (other = b)) = true then [(one, other, w)] else []).map (·.2.2)
      by_cases h : other = b
      · rw [if_pos (by simp [h]), if_pos (by simp [h])]; rfl
      · rw [if_neg (by simp [h]), if_neg (by simp [h])]; rfl
    · rw [addD_ne fun z => h z.symm]
      have : isP a b (one, other, w) = false := by
        show (decide (one = a) && decide (other = b)) = false
        rw [decide_eq_false h, Bool.false_and]
      rw [this, if_neg Bool.false_ne_true]
      simp
theorem filter_first {α : Type} {p : α → Bool} : ∀ (W : List α) (i : Nat) (e : α), W[i]? = some e → p e = true → (∀ j f, j < i → W[j]? = some f → p f = false) → W.filter p = e :: (W.eraseIdx i).filter p
  | [], _, _, h, _, _ => by cases h
  | x :: r, 0, e, h, hp, _ => by
    cases h
    rw [List.filter_cons, if_pos hp]
    rfl
  | x :: r, i + 1, e, h, hp, hb => by
    have hx : p x = false := hb 0 x (by omega) rfl
    have ih := filter_first r i e (by simpa using h) hp fun j f hj hf => hb (j + 1) f (by omega) (by simpa using hf)
    show (x :: r).filter p = e :: (x :: r.eraseIdx i).filter p
    rw [List.filter_cons, List.filter_cons, hx, if_neg Bool.false_ne_true, if_neg Bool.false_ne_true, ih]
theorem filter_other {α : Type} {p : α → Bool} : ∀ (W : List α) (i : Nat) (e : α), W[i]? = some e → p e = false → (W.eraseIdx i).filter p = W.filter p
  | [], _, _, h, _ => by cases h
  | x :: r, 0, e, h, hp => by
    cases h
    show r.filter p = (x :: r).filter p
    rw [List.filter_cons, hp, if_neg Bool.false_ne_true]
  | x :: r, i + 1, e, h, hp => by
    have ih := filter_other r i e (by simpa using h) hp
    show (x :: r.eraseIdx i).filter p = (x :: r).filter p
    rw [List.filter_cons, List.filter_cons, ih]
theorem LInv.get (I : LInv ns R W left) {i : Nat} {one other w : Str} (hi : W[i]? = some (one, other, w)) (hf : ∀ j f, j < i → W[j]? = some f → isP one other f = false) (hg : ∀ a ∈ ns, goodName a = true) : LInv ns (addD R other ⟨false, one, w⟩) (W.eraseIdx i) left := by
  obtain ⟨E, e1, e2, e3, e4⟩ := I.ex
  obtain ⟨h1, h2, h3, hw⟩ := I.wt _ (List.mem_of_getElem? hi)
  have h1 : one ∈ ns := h1
  have h2 : other ∈ ns := h2
  have h3 : one ≠ other := h3
  have hw : goodName w = true := hw
  have hpp : isP one other (one, other, w) = true := by
    show (decide (one = one) && decide (other = other)) = true
    simp
  have ff := filter_first W i _ hi hpp hf
  have hlen := (List.getElem?_eq_some_iff.mp hi).1
  refine ⟨⟨E ++ [other], ?_, fun a => ?_, fun a ha => ?_, ?_⟩, fun e he => ?_, fun a d hd => ?_, fun a b => ?_⟩
  · refine (steps_ext addD_ext e1).snoc ?_
    unfold canGo
    rw [e2, addD_self, List.getElem?_append_right (Nat.le_refl _), Nat.sub_self, List.getElem?_cons_zero]
    dsimp only
    rw [addD_ne h3, e2, List.take_append_of_le_length (Nat.le_refl _), List.take_length, List.take_length, Bool.false_or]
    have f := congrArg List.length (I.fifo one other)
    rw [List.length_append, ← cnt_eq, ← cnt_eq, ff] at f
    refine decide_eq_true ?_
    rw [f, List.map_cons, List.length_cons]
    omega
  · rw [cts_snoc, e2]
    by_cases h : a = other
    · subst h; rw [addD_self, if_pos rfl, List.length_append]; rfl
    · rw [addD_ne h, if_neg fun z => h z.symm]; rfl
  · rcases List.mem_append.mp ha with h | h
    · exact e3 a h
    · rw [List.mem_singleton.mp h]; exact h2
  · rw [List.length_append, List.length_singleton, List.length_eraseIdx_of_lt hlen]; omega
  · exact I.wt e (List.mem_of_mem_eraseIdx he)
  · by_cases h : a = other
    · subst h
      rw [addD_self] at hd
      rcases List.mem_append.mp hd with h | h
      · exact I.deed a d h
      · rw [List.mem_singleton.mp h]; exact ⟨⟨hg _ h1, hw⟩, h1, h3⟩
    · rw [addD_ne h] at hd
      exact I.deed a d hd
  · have f := I.fifo a b
    have s2 : sel (addD R other ⟨false, one, w⟩ a) true b = sel (R a) true b := by
      by_cases h : a = other
      · subst h
        rw [addD_self, sel_snoc]
        show _ ++ (if (false == true && decide (one = b)) = true then _ else _) = _
        rw [if_neg (by simp), List.append_nil]
      · rw [addD_ne h]
    rw [s2, f]
    by_cases hab : one = a ∧ other = b
    · obtain ⟨rfl, rfl⟩ := hab
      rw [addD_self, sel_snoc, ff]
      show _ = ((sel (R other) false one) ++ (if (false == false && decide (one = one)) = true then [(⟨false, one, w⟩ : Deed Str)] else [])).map (·.w) ++ _
      rw [if_pos (by simp), List.map_append, List.append_assoc]
      rfl
    · have hp : isP a b (one, other, w) = false := by
        show (decide (one = a) && decide (other = b)) = false
        rw [Bool.and_eq_false_iff, decide_eq_false_iff_not, decide_eq_false_iff_not]
        by_cases z : one = a
        · exact .inr fun y => hab ⟨z, y⟩
        · exact .inl z
      rw [filter_other W i _ hi hp]
      by_cases h : b = other
      · subst h
        rw [addD_self, sel_snoc]
        show _ = ((sel (R b) false a) ++ (if (false == false && decide (one = a)) = true then _ else _)).map (·.w) ++ _
        rw [if_neg (by
          have : one ≠ a := fun z => hab ⟨z, rfl⟩
          simp [this]), List.append_nil]
      · rw [addD_ne h]
theorem sum_ind_le {q : Str → Bool} (hq : ∀ b c, q b = true → q c = true → b = c) : ∀ xs : List Str, xs.Nodup → (xs.map fun b => if q b then 1 else 0).sum ≤ 1
  | [], _ => Nat.zero_le _
  | a :: r, nd => by
    rw [List.map_cons, List.sum_cons]
    have nd' := List.nodup_cons.mp nd
    by_cases h : q a = true
    · rw [if_pos h]
      have z : ∀ xs : List Str, (∀ b ∈ xs, b ∈ r) → (xs.map fun b => if q b then 1 else 0).sum = 0 := by
        intro xs
        induction xs with
        | nil => intro _; rfl
        | cons b s ih =>
          intro hb
          rw [List.map_cons, List.sum_cons, ih fun c hc => hb c (List.mem_cons_of_mem _ hc)]
          have : ¬ q b = true := fun z => nd'.1 (by rw [hq a b h z]; exact hb b List.mem_cons_self)
          rw [if_neg this]
      rw [z r fun _ h => h]
      exact Nat.le_refl _
    · rw [if_neg h, Nat.zero_add]
      exact sum_ind_le hq r nd'.2
theorem sum_add {f g : Str → Nat} : ∀ xs : List Str, (xs.map fun b => f b + g b).sum = (xs.map f).sum + (xs.map g).sum
  | [] => rfl
  | a :: r => by
    rw [List.map_cons, List.sum_cons, List.map_cons, List.sum_cons, List.map_cons, List.sum_cons, sum_add r]
    omega
theorem pigeon {α : Type} {p : Str → α → Bool} (hp : ∀ b c x, p b x = true → p c x = true → b = c) (hn : ns.Nodup) : ∀ xs : List α, (ns.map fun b => (xs.filter (p b)).length).sum ≤ xs.length
  | [] => by
    have : ∀ ns : List Str, (ns.map fun b => (([] : List α).filter (p b)).length).sum = 0 := by
      intro ns
      induction ns with
      | nil => rfl
      | cons a r ih => rw [List.map_cons, List.sum_cons, ih]; rfl
    rw [this]
    exact Nat.le_refl _
  | x :: r => by
    have e : ∀ b, ((x :: r).filter (p b)).length = (if p b x then 1 else 0) + (r.filter (p b)).length := fun b => by
      rw [List.filter_cons]
      by_cases h : p b x = true
      · rw [if_pos h, if_pos h, List.length_cons]; omega
      · rw [if_neg h, if_neg h]; omega
    rw [show (ns.map fun b => ((x :: r).filter (p b)).length) = ns.map fun b => (if p b x then 1 else 0) + (r.filter (p b)).length from List.map_congr_left fun b _ => e b, sum_add]
    have h1 := sum_ind_le (q := fun b => p b x) (fun b c hb hc => hp b c x hb hc) ns hn
    have h2 := pigeon hp hn r
    rw [List.length_cons]
    omega
theorem sum_le {f g : Str → Nat} (h : ∀ a, f a ≤ g a) : ∀ xs : List Str, (xs.map f).sum ≤ (xs.map g).sum
  | [] => Nat.le_refl _
  | a :: r => by
    rw [List.map_cons, List.sum_cons, List.map_cons, List.sum_cons]
    have := h a
    have := sum_le h r
    omega
theorem sum_cts {s : List Str} (hn : ns.Nodup) : (ns.map fun a => cts s a).sum ≤ s.length := by
  have := pigeon (p := fun b x => x == b) (ns := ns) (fun b c x h1 h2 => (eq_of_beq h1).symm.trans (eq_of_beq h2)) hn s
  refine Nat.le_trans (Nat.le_of_eq ?_) this
  congr 1
  apply List.map_congr_left
  intro a _
  unfold cts
  rw [List.count_eq_length_filter]
theorem LInv.good (I : LInv ns R [] left) (G : GoodNames ns) : GoodPic ns R := by
  obtain ⟨E, e1, e2, e3, e4⟩ := I.ex
  have hl : ∀ a, (R a).length ≤ 16 := fun a => by
    rw [← e2]
    have : cts E a ≤ E.length := List.count_le_length
    omega
  have h3 : (ns.map fun a => (R a).length).sum = (ns.map fun a => cts E a).sum := by
    congr 1
    apply List.map_congr_left
    intro a _
    exact (e2 a).symm
  have h4 := sum_cts (s := E) G.nd
  refine ⟨⟨G.ne, G.few, G.nd, G.srt, G.name, fun a _ => Nat.le_trans (hl a) (by omega), fun a _ d hd => I.deed a d hd⟩, fun a _ b _ => ?_, ⟨E, e1, fun a _ => e2 a, e3⟩, ?_, by omega⟩
  · have := I.fifo a b
    rw [List.filter_nil, List.map_nil, List.append_nil] at this
    exact this
  · have h1 : ∀ a, (ns.map fun b => cnt (R a) true b).sum ≤ (R a).length := fun a => by
      have := pigeon (p := fun b (d : Deed Str) => d.say == true && decide (d.other = b)) (ns := ns) (fun b c x h1 h2 => by
        have h1 := of_decide_eq_true (Bool.and_eq_true_iff.mp h1).2
        have h2 := of_decide_eq_true (Bool.and_eq_true_iff.mp h2).2
        exact h1.symm.trans h2) G.nd (R a)
      exact this
    have h2 := sum_le h1 ns
    omega
end
end MPV
namespace MPV
open PySem hiding Env
open MP LawT
variable {T : List Def} {W0 : Nat} [PT T] [Wd W0]
local macro_rules | `(tactic| walk_at "mr") => `(tactic| try simp -implicitDefEqProofs only [bnd_assoc, e_dctT, sl_cons, sl_nil, s_asg, s_par, s_par3, s_aug, s_ex, s_ret, s_retN, s_ifs, s_fors, s_whl, s_pas, t_bop, t_not, t_var, t_cmp, t_chain, t_isK, t_call, t_bi, t_isi, t_idx, bt_one, bt_cons, e_var, e_lit, e_glo, e_tup, e_lst, e_dct, e_bin, e_neg, e_cmp, e_chain, e_isK, e_bop, e_not, e_ife, e_call, e_callk, e_bi, e_isi, e_mth, e_idx, e_slc, e_lc, e_val, e_fld, e_con, el_nil, el_cons, eb_one, eb_cons, eo_no, eo_so, ec_no, ec_so, g_nm, g_tp, g_sb, gl_nil, gl_cons, i_vl, i_rg1, i_rg2, i_en, i_its, i_vas, i_zp, after_nx, after_rt, r_bndN, r_opt, w_nil, w_cons, q_inS, retP_nx, retP_rt, List.replicate_zero, Nat.sub_self, q_add, q_sub, q_neg, q_not, q_bop, q_lt, q_le, q_gt, q_ge, q_eqs, q_nes, q_trub, q_int, q_intb, q_lent, q_lenr, q_idxt0, q_idxt1, q_idxt2, q_isi1, q_isi2, q_itt, q_itr, q_itd, q_its, q_intO, q_tupr, q_tupt, List.map_cons, List.map_nil, List.cons_append, List.nil_append, List.replicate, List.getElem?_cons_zero, List.getElem?_cons_succ, List.set_cons_zero, List.set_cons_succ, if_true, if_false, Bool.false_eq_true, b00, b01, b10, b11, Bool.not_true, Bool.not_false, Bool.true_or, Bool.or_true, Bool.false_or, Bool.or_false])
/-! k22: tools for the law's rows. -/
open Pic
theorem runT_lc {h : MH} {os : List MO} {step : MV → M (Option MV)} {xs : List MV} {W : Nat} (I : Nat → List MV → List MO → Prop) (h0 : I 0 [] os) (hW : xs.length < W) (hlen : xs.length ≤ 100000)
    (hs : ∀ i x acc os, xs[i]? = some x → I i acc os → RunT h (step x) os fun o os' => match o with
      | some y => I (i + 1) (acc ++ [y]) os'
      | none => I (i + 1) acc os') : RunT h (lcLoop step (.vs xs) W 0 []) os fun ys os' => I xs.length ys os' := by
  have key : ∀ (μ i : Nat) (acc : List MV) (os : List MO), xs.length < i + μ → i ≤ xs.length → acc.length ≤ i → I i acc os → RunT h (lcLoop step (.vs xs) μ i acc) os fun ys os' => I xs.length ys os' := by
    intro μ
    induction μ with
    | zero => intro i acc os h1 h2; omega
    | succ μ ih =>
      intro i acc os h1 h2 h3 hi
      have e : lcLoop step (.vs xs) (μ + 1) i acc = fun h => match some xs[i]? with
        | none => .stuck
        | some none => .ok acc h
        | some (some x) => ((step x).bnd fun o => match o with
          | some y => if fitsL acc.length then lcLoop step (.vs xs) μ (i + 1) (acc ++ [y]) else .stk
          | none => lcLoop step (.vs xs) μ (i + 1) acc) h := rfl
      cases e2 : xs[i]? with
      | none =>
        have := List.getElem?_eq_none_iff.mp e2
        have hh : i = xs.length := by omega
        subst hh
        rw [e2] at e
        rw [e]
        exact ⟨acc, os, rfl, hi⟩
      | some x =>
        rw [e2] at e
        rw [e]
        have hl := (List.getElem?_eq_some_iff.mp e2).1
        show RunT h ((step x).bnd fun o => match o with
          | some y => if fitsL acc.length then lcLoop step (.vs xs) μ (i + 1) (acc ++ [y]) else .stk
          | none => lcLoop step (.vs xs) μ (i + 1) acc) os _
        refine (hs i x acc os e2 hi).bnd fun o os' q => ?_
        cases o with
        | none => exact ih (i + 1) acc os' (by omega) (by omega) (by omega) q
        | some y =>
          dsimp only
          rw [if_pos (fitsL_lt' (by omega))]
          exact ih (i + 1) _ os' (by omega) (by omega) (by rw [List.length_append]; show acc.length + 1 ≤ _; omega) q
  exact key W 0 [] os (by omega) (Nat.zero_le _) (Nat.le_refl _) h0
/-- a comprehension over a list that stands still -/
theorem lc_il {α : Type} {enc : α → MV} {step : MV → M (Option MV)} {xs : List α} {f : α → MV} {W l : Nat} {H : MH} (e : H[l]? = some (.lst (xs.map enc))) (hs : ∀ x ∈ xs, step (enc x) = M.ret (some (f x))) (hW : xs.length < W) (hlen : xs.length ≤ 1000000) : lcLoop step (.il l) W 0 [] H = .ok (xs.map f) H := by
  have key : ∀ (w i : Nat) (acc : List MV), lcLoop step (.il l) w i acc H = lcLoop step (.vs (xs.map enc)) w i acc H := by
    intro w
    induction w with
    | zero => intro i acc; rfl
    | succ w ih =>
      intro i acc
      have e1 : lcLoop step (.il l) (w + 1) i acc H = match nxt H (.il l) i with
        | none => .stuck
        | some none => .ok acc H
        | some (some x) => ((step x).bnd fun o => match o with
          | some y => if fitsL acc.length then lcLoop step (.il l) w (i + 1) (acc ++ [y]) else .stk
          | none => lcLoop step (.il l) w (i + 1) acc) H := rfl
      have e2 : lcLoop step (.vs (xs.map enc)) (w + 1) i acc H = match some (xs.map enc)[i]? with
        | none => .stuck
        | some none => .ok acc H
        | some (some x) => ((step x).bnd fun o => match o with
          | some y => if fitsL acc.length then lcLoop step (.vs (xs.map enc)) w (i + 1) (acc ++ [y]) else .stk
          | none => lcLoop step (.vs (xs.map enc)) w (i + 1) acc) H := rfl
      have e3 : nxt H (.il l) i = some (xs.map enc)[i]? := by
        unfold nxt
        dsimp only
        rw [e]
      rw [e1, e2, e3, List.getElem?_map]
      cases hx : xs[i]? with
      | none => rfl
      | some x =>
        dsimp only [Option.map]
        rw [hs x (List.mem_of_getElem? hx), r_bnd, r_bnd]
        dsimp only
        split
        · exact ih _ _
        · rfl
  rw [key, lc_mapR enc f hW hlen hs]
  rfl
theorem mapO_of {f : MV → Option MV} {g k : Str → MV} : ∀ xs : List Str, (∀ a ∈ xs, f (g a) = some (k a)) → mapO f (xs.map g) = some (xs.map k)
  | [], _ => rfl
  | a :: r, h => by
    rw [List.map_cons]
    unfold mapO
    rw [h a List.mem_cons_self, mapO_of r fun b hb => h b (List.mem_cons_of_mem _ hb)]
    rfl
theorem fold_putG {f : Str → MV} : ∀ (ns : List Str) (pre : List Str), (pre ++ ns).Nodup → ((ns.map fun a => (MV.str a, f a)).foldl (fun d p => putM p.1 p.2 d) (pre.map fun a => (MV.str a, f a))) = (pre ++ ns).map fun a => (MV.str a, f a)
  | [], pre, _ => by simp
  | a :: r, pre, h => by
    show ((r.map fun a => (MV.str a, f a)).foldl (fun d p => putM p.1 p.2 d) (putM (.str a) (f a) (pre.map fun a => (MV.str a, f a)))) = _
    have hn : ¬ a ∈ pre := fun z => by
      rw [List.nodup_append] at h
      exact h.2.2 a z a List.mem_cons_self rfl
    have e : putM (.str a) (f a) (pre.map fun a => (MV.str a, f a)) = (pre ++ [a]).map fun a => (MV.str a, f a) := by
      rw [put_new (f := f) hn, List.map_append]
      rfl
    rw [e, fold_putG r (pre ++ [a]) (by rw [List.append_assoc]; exact h), List.append_assoc]
    rfl
def pos : List Str → Str → Nat
  | [], _ => 0
  | b :: r, a => if b = a then 0 else pos r a + 1
theorem pos_get {a : Str} : ∀ {ns : List Str}, a ∈ ns → ns[pos ns a]? = some a
  | [], h => by cases h
  | b :: r, h => by
    unfold pos
    by_cases e : b = a
    · rw [if_pos e, e]; rfl
    · rw [if_neg e, List.getElem?_cons_succ]
      exact pos_get ((List.mem_cons.mp h).resolve_left fun z => e z.symm)
theorem pos_lt {a : Str} {ns : List Str} (h : a ∈ ns) : pos ns a < ns.length := (List.getElem?_eq_some_iff.mp (pos_get h)).1
theorem nodup_idx {ns : List Str} (nd : ns.Nodup) {i j : Nat} {a : Str} (hi : ns[i]? = some a) (hj : ns[j]? = some a) : i = j := by
  obtain ⟨h1, e1⟩ := List.getElem?_eq_some_iff.mp hi
  obtain ⟨h2, e2⟩ := List.getElem?_eq_some_iff.mp hj
  rcases Nat.lt_trichotomy i j with h | h | h
  · exact absurd (e1.trans e2.symm) (List.pairwise_iff_getElem.mp nd i j h1 h2 h)
  · exact h
  · exact absurd (e2.trans e1.symm) (List.pairwise_iff_getElem.mp nd j i h2 h1 h)
theorem pos_eq {ns : List Str} (nd : ns.Nodup) {i : Nat} {a : Str} (hi : ns[i]? = some a) : pos ns a = i := nodup_idx nd (pos_get (List.mem_of_getElem? hi)) hi
/-- a list in the heap beside a value -/
theorem eq_ref {H : MH} {l n m : Nat} {xs : List MV} {w : MV} {b : Bool} (e : H[l]? = some (.lst xs)) (hx : pls n xs = true) (hw : pl m w = true) (hn : n < 60) (hm : m ≤ 60) (hb : b = true ↔ MV.ro xs = w) : cmpV .eq (.ref l) w H = .ok b H := by
  have hp : pl (n + 1) (.ro xs) = true := pl_ro hx
  have hr : reify H 60 (.ref l) = some (dOf (.ro xs)) := by
    show (match H[l]? with
      | some (.lst xs) => (mapO (reify H 59) xs).map PyData.list
      | some (.dct false kvs) => (match mapO (reify H 59) (kvs.map fun p : MV × MV => p.1), mapO (reify H 59) (kvs.map fun p : MV × MV => p.2) with
        | some ks, some vs => some (.dict (ks.zip vs))
        | _, _ => none)
      | _ => none) = _
    rw [e]
    dsimp only
    rw [reifys_pl (fun v hv => reify_pl n 59 v hv (by omega)) xs hx]
    rfl
  have ev : eqV (.ref l) w = eqD (.ref l) w := by
    unfold eqV
    cases w <;> rfl
  show eqV (.ref l) w H = _
  rw [ev]
  unfold eqD
  rw [hr, reify_pl m 60 w hw hm]
  dsimp only
  rw [if_pos (by rw [shaped_pl hp (by omega), shaped_pl hw hm]; rfl)]
  have : PyData.eqv (dOf (.ro xs)) (dOf w) = b := by rw [Bool.eq_iff_iff, eqv_pl (n + 1) m (.ro xs) w hp hw, hb]
  rw [this]
theorem ne_ref {H : MH} {l n m : Nat} {xs : List MV} {w : MV} {b : Bool} (e : H[l]? = some (.lst xs)) (hx : pls n xs = true) (hw : pl m w = true) (hn : n < 60) (hm : m ≤ 60) (hb : b = true ↔ MV.ro xs = w) : cmpV .ne (.ref l) w H = .ok (!b) H := by
  show ((cmpV .eq (.ref l) w).bnd fun b => M.ret (!b)) H = _
  rw [bnd_at (eq_ref e hx hw hn hm hb)]
  rfl
theorem findIdx_pl {n m : Nat} {y : MV} (hy : pl m y = true) : ∀ {xs : List MV}, pls n xs = true → y ∈ xs → ∃ j, xs[j]? = some y ∧ (∀ i, i < j → xs[i]? ≠ some y) ∧ (dOfs xs).findIdx? (fun z => PyData.eqv z (dOf y)) = some j
  | [], _, h => by cases h
  | x :: r, hx, h => by
    obtain ⟨h3, h4⟩ := Bool.and_eq_true_iff.mp (show (pl n x && pls n r) = true by unfold pls at hx; exact hx)
    by_cases e : x = y
    · subst e
      refine ⟨0, rfl, (fun i hi => by omega), ?_⟩
      show (dOf x :: dOfs r).findIdx? _ = _
      rw [List.findIdx?_cons, if_pos ((eqv_pl n m x x h3 hy).mpr rfl)]
    · obtain ⟨j, j1, j2, j3⟩ := findIdx_pl hy h4 ((List.mem_cons.mp h).resolve_left fun z => e z.symm)
      refine ⟨j + 1, by rw [List.getElem?_cons_succ]; exact j1, fun i hi => ?_, ?_⟩
      · cases i with
        | zero => exact fun z => e (Option.some.inj z)
        | succ i => rw [List.getElem?_cons_succ]; exact j2 i (by omega)
      · show (dOf x :: dOfs r).findIdx? _ = _
        rw [List.findIdx?_cons, if_neg (fun z => e ((eqv_pl n m x y h3 hy).mp z)), j3]
        rfl
theorem index_at {H : MH} {v y : MV} {xs : List MV} {n m : Nat} (hv : lstO H v = some xs) (hx : pls n xs = true) (hy : pl m y = true) (hn : n < 59) (hm : m ≤ 60) (hin : y ∈ xs) : ∃ j, xs[j]? = some y ∧ (∀ i, i < j → xs[i]? ≠ some y) ∧ mtV .index v [y] H = .ok (.int (j : Nat)) H := by
  obtain ⟨j, j1, j2, j3⟩ := findIdx_pl hy hx hin
  refine ⟨j, j1, j2, ?_⟩
  show index1 v y H = _
  unfold index1
  rw [hv, reify_pl m 60 y hy hm]
  show (match mapO (reify H 59) xs, some (dOf y) with
    | some ds, some d => if SeqAt.shaped (.list ds) && SeqAt.shaped d then (match ds.findIdx? fun z => PyData.eqv z d with
      | some j => Res.ok (MV.int (j : Nat)) H
      | none => .stuck) else .stuck
    | _, _ => .stuck) = _
  rw [reifys_pl (fun v hv => reify_pl n 59 v hv (by omega)) xs hx]
  dsimp only
  have hp : pl (n + 1) (.ro xs) = true := pl_ro hx
  have s1 : SeqAt.shaped (.list (dOfs xs)) = true := shaped_pl hp (by omega)
  rw [if_pos (by rw [s1, shaped_pl hy hm]; rfl), j3]
section
variable {l : Nat} {hh : MH} {os : List MO}
theorem lstO_loc {h : MH} {j : Nat} {xs : List MV} (e : os[j]? = some (.lst xs)) : lstO (h ++ os) (.ref (h.length + j)) = some xs := by
  unfold lstO
  dsimp only
  rw [loc_get, e]
theorem lstO_locP {j : Nat} {xs : List MV} (e : os[j]? = some (.lst xs)) (p : MO) : lstO (hh.set l p ++ os) (.ref (hh.length + j)) = some xs := by
  have := lstO_loc (h := hh.set l p) e
  rw [List.length_set] at this
  exact this
theorem runP_eqr {j n m : Nat} {xs : List MV} {w : MV} {b : Bool} {P : Bool → List MO → Prop} (e : os[j]? = some (.lst xs)) (hx : pls n xs = true) (hw : pl m w = true) (hn : n < 60) (hm : m ≤ 60) (hb : b = true ↔ MV.ro xs = w) (p : P b os) : RunP l hh (cmpV .eq (.ref (hh.length + j)) w) os P := RunP.of fun h el => by
  rw [← el]
  exact ⟨b, os, eq_ref (by rw [loc_get]; exact e) hx hw hn hm hb, p⟩
theorem runP_ner {j n m : Nat} {xs : List MV} {w : MV} {b : Bool} {P : Bool → List MO → Prop} (e : os[j]? = some (.lst xs)) (hx : pls n xs = true) (hw : pl m w = true) (hn : n < 60) (hm : m ≤ 60) (hb : b = true ↔ MV.ro xs = w) (p : P (!b) os) : RunP l hh (cmpV .ne (.ref (hh.length + j)) w) os P := RunP.of fun h el => by
  rw [← el]
  exact ⟨!b, os, ne_ref (by rw [loc_get]; exact e) hx hw hn hm hb, p⟩
theorem runP_index {j n m : Nat} {xs : List MV} {y : MV} {P : MV → List MO → Prop} (e : os[j]? = some (.lst xs)) (hx : pls n xs = true) (hy : pl m y = true) (hn : n < 59) (hm : m ≤ 60) (hin : y ∈ xs) (p : ∀ k : Nat, xs[k]? = some y → (∀ i, i < k → xs[i]? ≠ some y) → P (.int (k : Int)) os) : RunP l hh (mtV .index (.ref (hh.length + j)) [y]) os P := RunP.of fun h el => by
  rw [← el]
  obtain ⟨k, k1, k2, k3⟩ := index_at (lstO_loc (h := h) e) hx hy hn hm hin
  exact ⟨_, os, k3, p k k1 k2⟩
end
end MPV
namespace MPV
open PySem hiding Env
open MP LawT
variable {T : List Def} {W0 : Nat} [PT T] [Wd W0]
local macro_rules | `(tactic| walk_at "mr") => `(tactic| try simp -implicitDefEqProofs only [bnd_assoc, e_dctT, sl_cons, sl_nil, s_asg, s_par, s_par3, s_aug, s_ex, s_ret, s_retN, s_ifs, s_fors, s_whl, s_pas, t_bop, t_not, t_var, t_cmp, t_chain, t_isK, t_call, t_bi, t_isi, t_idx, bt_one, bt_cons, e_var, e_lit, e_glo, e_tup, e_lst, e_dct, e_bin, e_neg, e_cmp, e_chain, e_isK, e_bop, e_not, e_ife, e_call, e_callk, e_bi, e_isi, e_mth, e_idx, e_slc, e_lc, e_val, e_fld, e_con, el_nil, el_cons, eb_one, eb_cons, eo_no, eo_so, ec_no, ec_so, g_nm, g_tp, g_sb, gl_nil, gl_cons, i_vl, i_rg1, i_rg2, i_en, i_its, i_vas, i_zp, after_nx, after_rt, r_bndN, r_opt, w_nil, w_cons, q_inS, retP_nx, retP_rt, List.replicate_zero, Nat.sub_self, q_add, q_sub, q_neg, q_not, q_bop, q_lt, q_le, q_gt, q_ge, q_eqs, q_nes, q_trub, q_int, q_intb, q_lent, q_lenr, q_idxt0, q_idxt1, q_idxt2, q_isi1, q_isi2, q_itt, q_itr, q_itd, q_its, q_intO, q_tupr, q_tupt, List.map_cons, List.map_nil, List.cons_append, List.nil_append, List.replicate, List.getElem?_cons_zero, List.getElem?_cons_succ, List.set_cons_zero, List.set_cons_succ, if_true, if_false, Bool.false_eq_true, b00, b01, b10, b11, Bool.not_true, Bool.not_false, Bool.true_or, Bool.or_true, Bool.false_or, Bool.or_false])
/-! k22: the law's rows. -/
open Pic
def encW (e : Str × Str × Str) : MV := .tup [.str e.1, .str e.2.1, .str e.2.2]
def encP (e : Str × Str × Str) : MV := .tup [.str e.1, .str e.2.1]
def kvD (L : Nat) (ns : List Str) : List (MV × MV) := ns.map fun a => (MV.str a, MV.ref (L + pos ns a))
def osR (L : Nat) (ns : List Str) (R : Rows) (PL : List MV) (W : Wt) (g : List MO) : List MO := (ns.map fun a => MO.lst ((R a).map dS)) ++ (.lst PL :: .dct false (kvD L ns) :: .lst (W.map encW) :: g)
section
variable {L : Nat} {ns : List Str} {R : Rows} {PL : List MV} {W W' : Wt} {g : List MO} {a : Str} {d : Deed Str}
theorem osR_row (ha : a ∈ ns) : (osR L ns R PL W g)[pos ns a]? = some (.lst ((R a).map dS)) := by
  unfold osR
  rw [List.getElem?_append_left (by rw [List.length_map]; exact pos_lt ha), List.getElem?_map, pos_get ha]
  rfl
theorem osR_tail (k : Nat) : (osR L ns R PL W g)[ns.length + k]? = (MO.lst PL :: .dct false (kvD L ns) :: .lst (W.map encW) :: g)[k]? := by
  unfold osR
  rw [List.getElem?_append_right (by rw [List.length_map]; omega), List.length_map]
  congr 1
  omega
theorem osR_dict : (osR L ns R PL W g)[ns.length + 1]? = some (.dct false (kvD L ns)) := by rw [osR_tail]; rfl
theorem osR_wait : (osR L ns R PL W g)[ns.length + 2]? = some (.lst (W.map encW)) := by rw [osR_tail]; rfl
theorem osR_len : (osR L ns R PL W g).length = ns.length + (3 + g.length) := by
  unfold osR
  rw [List.length_append, List.length_map]
  show ns.length + (g.length + 1 + 1 + 1) = _
  omega
theorem osR_snoc (o : MO) : osR L ns R PL W g ++ [o] = osR L ns R PL W (g ++ [o]) := by
  unfold osR
  rw [List.append_assoc]
  rfl
theorem set_map_pos {f : Str → MO} {x : MO} (nd : ns.Nodup) (ha : a ∈ ns) : (ns.map f).set (pos ns a) x = ns.map fun b => if b = a then x else f b := by
  apply List.ext_getElem?
  intro i
  rw [List.getElem?_set, List.getElem?_map, List.getElem?_map]
  by_cases h : pos ns a = i
  · subst h
    rw [if_pos rfl, if_pos (by rw [List.length_map]; exact pos_lt ha), pos_get ha]
    show some x = some (if a = a then x else f a)
    rw [if_pos rfl]
  · rw [if_neg h]
    cases e : ns[i]? with
    | none => rfl
    | some b =>
      have : b ≠ a := fun z => h (pos_eq nd (by rw [e, z]))
      show some (f b) = some (if b = a then x else f b)
      rw [if_neg this]
theorem osR_set_row (nd : ns.Nodup) (ha : a ∈ ns) : (osR L ns R PL W g).set (pos ns a) (.lst ((R a).map dS ++ [dS d])) = osR L ns (addD R a d) PL W g := by
  unfold osR
  rw [List.set_append_left _ _ (by rw [List.length_map]; exact pos_lt ha), set_map_pos nd ha]
  congr 1
  apply List.map_congr_left
  intro b _
  by_cases h : b = a
  · subst h
    rw [if_pos rfl, addD_self, List.map_append]
    rfl
  · rw [if_neg h, addD_ne h]
theorem osR_set_wait : (osR L ns R PL W g).set (ns.length + 2) (.lst (W'.map encW)) = osR L ns R PL W' g := by
  unfold osR
  rw [List.set_append_right _ _ (by rw [List.length_map]; omega), List.length_map, show ns.length + 2 - ns.length = 2 from by omega]
  rfl
theorem pls_W (I : ∀ e ∈ W, goodName e.1 = true ∧ goodName e.2.1 = true ∧ goodName e.2.2 = true) : pls 1 (W.map encW) = true := pls_map fun e he => by
  obtain ⟨h1, h2, h3⟩ := I e he
  unfold encW
  refine pl_tup ?_
  unfold pls
  rw [pl_str (good_lay h1)]
  unfold pls
  rw [pl_str (good_lay h2)]
  unfold pls
  rw [pl_str (good_lay h3)]
  unfold pls
  rfl
theorem pl_encP {e : Str × Str × Str} (h1 : goodName e.1 = true) (h2 : goodName e.2.1 = true) : pl 1 (encP e) = true := by
  unfold encP
  refine pl_tup ?_
  unfold pls
  rw [pl_str (good_lay h1)]
  unfold pls
  rw [pl_str (good_lay h2)]
  unfold pls
  rfl
theorem encP_inj {e f : Str × Str × Str} : encP e = encP f ↔ isP f.1 f.2.1 e = true := by
  unfold encP isP
  rw [Bool.and_eq_true_iff, decide_eq_true_eq, decide_eq_true_eq]
  constructor
  · intro h
    have h0 := MV.tup.inj h
    have h1 := List.cons.inj h0
    have h2 := List.cons.inj h1.2
    exact ⟨MV.str.inj h1.1, MV.str.inj h2.1⟩
  · rintro ⟨h1, h2⟩
    rw [h1, h2]
end
section
variable {n l : Nat} {ns : List Str}
theorem pairs_fold {L : Nat} (nd : ns.Nodup) : mapO pairOf (ns.map fun a => MV.tup [.str a, .ref (L + pos ns a)]) = some (kvD L ns) ∧ (kvD L ns).foldl (fun d p => putM p.1 p.2 d) [] = kvD L ns := by
  refine ⟨?_, ?_⟩
  · have : ∀ xs : List Str, mapO pairOf (xs.map fun a => MV.tup [.str a, .ref (L + pos ns a)]) = some (xs.map fun a => (MV.str a, MV.ref (L + pos ns a))) := by
      intro xs
      induction xs with
      | nil => rfl
      | cons a r ih =>
        rw [List.map_cons]
        unfold mapO
        rw [ih]
        rfl
    exact this ns
  · have := fold_putG (f := fun a => MV.ref (L + pos ns a)) ns [] (by simpa using nd)
    rw [List.nil_append] at this
    exact this
theorem dict_at {H : MH} {j L : Nat} (nd : ns.Nodup) (e : H[j]? = some (.lst (ns.map fun a => MV.tup [.str a, .ref (L + pos ns a)]))) : biV .dict [.ref j] H = M.alloc (.dct false (kvD L ns)) H := by
  obtain ⟨p1, p2⟩ := pairs_fold (L := L) nd
  show ((lstOf (.ref j)).bnd fun xs => (M.opt (mapO pairOf xs)).bnd fun ps => M.alloc (.dct false (ps.foldl (fun d p => putM p.1 p.2 d) []))) H = _
  have e1 : lstOf (.ref j) H = .ok (ns.map fun a => MV.tup [.str a, .ref (L + pos ns a)]) H := by
    unfold lstOf lstO
    dsimp only
    rw [e]
  rw [bnd_at e1, p1, r_opt, r_bnd, p2]
theorem rows_ok (G : GoodNames ns) {many : Nat} (hm : many ≤ 8) : Dr l (callF T W0 (n + 3) 36 [.ref l, .ro (ns.map .str), .int (many : Int)]) fun v => ∃ R, v = dicL ns R ∧ GoodPic ns R := fun hh hl => by
  have few := G.few
  have nd := G.nd
  refine call_P (df := d__law_rows) (P := fun v => ∃ R, v = dicL ns R ∧ GoodPic ns R) hl PT.at__law_rows rfl rfl ?_
  unfold d__law_rows
  walk_at "mr"
  -- the dict of empty rows
  refine RunP.bnd (RunP.of (P := fun ys os => ys = (ns.map fun a => MV.tup [.str a, .ref (hh.length + pos ns a)]) ∧ os = ns.map fun _ => MO.lst []) fun h el => (runT_lc (fun i acc os => acc = ((ns.take i).map fun a => MV.tup [.str a, .ref (hh.length + pos ns a)]) ∧ os = (ns.take i).map fun _ => MO.lst []) ⟨by rw [List.take_zero]; rfl, by rw [List.take_zero]; rfl⟩ (lt_W0 (by rw [List.length_map]; omega)) (by rw [List.length_map]; omega) (fun i x acc os hx hi => ?_)).mono fun ys os q => ?_) fun ys os q => ?_
  · obtain ⟨rfl, rfl⟩ := hi
    rw [List.getElem?_map] at hx
    obtain ⟨a, hai, rfl⟩ := Option.map_eq_some_iff.mp hx
    have hil := (List.getElem?_eq_some_iff.mp hai).1
    unfold lcStep
    walk_at "mr"
    simp -implicitDefEqProofs only [q_lst0, if_true]
    refine RunT.bnd (runT_alloc (P := fun v os => v = .ref (hh.length + pos ns a) ∧ os = (ns.take (i + 1)).map fun _ => MO.lst []) _ ⟨?_, ?_⟩) fun v os q => ?_
    · rw [List.length_map, List.length_take, el, pos_eq nd hai, Nat.min_eq_left (by omega)]
    · rw [← List.take_append_getElem hil, List.map_append]
      rfl
    · obtain ⟨rfl, rfl⟩ := q
      simp -implicitDefEqProofs only [q_tup2, r_bndN]
      refine runT_ret _ ⟨?_, rfl⟩
      rw [← List.take_append_getElem hil, List.map_append, (List.getElem?_eq_some_iff.mp hai).2]
      rfl
  · rw [List.length_map, List.take_length] at q
    exact q
  obtain ⟨rfl, rfl⟩ := q
  refine RunP.bnd (runP_alloc (P := fun v os => v = .ref (hh.length + ns.length) ∧ os = (ns.map fun _ => MO.lst []) ++ [.lst (ns.map fun a => MV.tup [.str a, .ref (hh.length + pos ns a)])]) _ ⟨by rw [List.length_map], rfl⟩) fun v os q => ?_
  obtain ⟨rfl, rfl⟩ := q
  walk_at "mr"
  generalize hPL : (ns.map fun a => MV.tup [.str a, .ref (hh.length + pos ns a)]) = PL
  refine RunP.bnd (RunP.of (P := fun v os => v = .ref (hh.length + (ns.length + 1)) ∧ os = (ns.map fun _ => MO.lst []) ++ [.lst PL, .dct false (kvD hh.length ns)]) fun h el => ?_) fun v os q => ?_
  · have ed := dict_at (H := h ++ ((ns.map fun _ => MO.lst []) ++ [MO.lst PL])) (j := hh.length + ns.length) (L := hh.length) nd (by
      rw [← el, loc_get, List.getElem?_append_right (by rw [List.length_map]; omega), List.length_map, Nat.sub_self, el, hPL]
      rfl)
    refine ⟨_, _, ed.trans ?_, rfl, rfl⟩
    show Res.ok (MV.ref (h ++ ((ns.map fun _ => MO.lst []) ++ [MO.lst PL])).length) ((h ++ ((ns.map fun _ => MO.lst []) ++ [MO.lst PL])) ++ [MO.dct false (kvD hh.length ns)]) = _
    rw [List.length_append, List.length_append, List.length_map, List.append_assoc, List.append_assoc, el]
    rfl
  obtain ⟨rfl, rfl⟩ := q
  simp -implicitDefEqProofs only [q_lst0]
  refine RunP.bnd (runP_alloc (P := fun v os => v = .ref (hh.length + (ns.length + 2)) ∧ os = osR hh.length ns (fun _ => []) PL [] []) _ ⟨by rw [List.length_append, List.length_map]; rfl, by
    unfold osR
    rw [List.append_assoc]
    rfl⟩) fun v os q => ?_
  obtain ⟨rfl, rfl⟩ := q
  have hleft : ∃ left : Nat, left ≤ 8 ∧ (0 < left → 1 < ns.length) ∧ (if decide ((1 : Int) < ((ns.map MV.str).length : Int)) = true then M.ret (MV.int (many : Int)) else M.ret (MV.int 0)) = M.ret (.int (left : Int)) := by
    rw [List.length_map]
    by_cases h : 1 < ns.length
    · exact ⟨many, hm, fun _ => h, by rw [if_pos (decide_eq_true (by omega))]⟩
    · exact ⟨0, by omega, fun z => by omega, by rw [if_neg (by rw [decide_eq_true_eq]; omega)]; rfl⟩
  obtain ⟨left, hl8, hl1, hle⟩ := hleft
  walk_at "mr"
  rw [hle]
  simp -implicitDefEqProofs only [r_bndN]
  walk_at "mr"
  refine RunP.bnd ((draw_ok (T := T) (W0 := W0) (n := n + 1) (k := 3) (by omega) (by omega)).toP hl) fun w os q => ?_
  obtain ⟨rfl, d3, rfl, h31, h32⟩ := q
  walk_at "mr"
  generalize hev : MV.int (1 + d3) = ev
  have hW : ∀ {R : Rows} {W : Wt} {left : Nat}, LInv ns R W left → ∀ e ∈ W, goodName e.1 = true ∧ goodName e.2.1 = true ∧ goodName e.2.2 = true := fun I e he => by
    obtain ⟨h1, h2, _, h4⟩ := I.wt e he
    exact ⟨G.name _ h1, G.name _ h2, h4⟩
  have emp : bvV (lstV []) = M.ret (.ro []) := q_lstN (by show 0 < 1000000; omega) rfl
  have plE : pl 1 (.ro []) = true := pl_ro rfl
  have eqE : ∀ W : Wt, (W.isEmpty = true ↔ MV.ro (W.map encW) = .ro []) := fun W => by
    cases W with
    | nil => exact ⟨fun _ => rfl, fun _ => rfl⟩
    | cons e r => exact ⟨(fun h => by cases h), (fun h => by cases h)⟩
  have itn : itV (.ro (ns.map MV.str)) = M.ret (.vs (ns.map MV.str)) := rfl
  refine RunP.bnd (runP_whl (Q := fun p os => ∃ R g left o6 o7 o8 o9 o10 o11 o12, p = ([some (.ref l), some (.ro (ns.map .str)), some (.int (many : Int)), some ev, some (.ref (hh.length + (ns.length + 1))), some (.ref (hh.length + (ns.length + 2))), o6, o7, o8, o9, o10, o11, o12], .nx) ∧ os = osR hh.length ns R PL [] g ∧ LInv ns R [] left)
    (fun m ρ os => ∃ R W g left o7 o8 o9 o10 o11 o12, ρ = [some (.ref l), some (.ro (ns.map .str)), some (.int (many : Int)), some ev, some (.ref (hh.length + (ns.length + 1))), some (.ref (hh.length + (ns.length + 2))), some (.int ((left : Nat) : Int)), o7, o8, o9, o10, o11, o12] ∧ os = osR hh.length ns R PL W g ∧ LInv ns R W left ∧ (0 < left → 1 < ns.length) ∧ m = 2 * left + W.length) (m0 := 2 * left) (lt_W0 (by omega)) ⟨fun _ => [], [], [], left, _, _, _, _, _, _, rfl, rfl, LInv.zero hl8, hl1, rfl⟩ (fun m ρ os hi => ?_)) fun p os q => ?_
  · obtain ⟨R, W, g, left, o7, o8, o9, o10, o11, o12, rfl, rfl, I, hl1, rfl⟩ := hi
    have body : (0 < left ∨ W ≠ []) → RunP l hh (evSL (callF T W0 (n + 2)) W0 (.cons (.ifs (.bop true (.cons (.cmp .gt (.var 6) (.lit (.int 0))) (.cons (.bop false (.cons (.cmp .eq (.var 5) (.val (.lst .nil))) (.cons (.cmp .lt (.call 33 (.cons (.var 0) (.cons (.lit (.int 4)) .nil))) (.var 3)) .nil))) .nil))) (.cons (.asg (.tp (.cons (.nm 10) (.cons (.nm 11) .nil))) (.tup (.cons (.call 34 (.cons (.var 0) (.cons (.var 1) .nil))) (.cons (.call 34 (.cons (.var 0) (.cons (.val (.lst (.cons (.lit (.str (Str.ofString "x"))) (.cons (.lit (.str (Str.ofString "y"))) (.cons (.lit (.str (Str.ofString "x"))) (.cons (.lit (.str (Str.ofString "end"))) (.cons (.lit (.str (Str.ofString "a"))) .nil))))))) .nil))) .nil)))) (.cons (.asg (.nm 7) (.call 34 (.cons (.var 0) (.cons (.val (.lc (.var 12) (.nm 12) (.vl (.var 1)) (.so (.cmp .ne (.var 12) (.var 10))) [12])) .nil)))) (.cons (.ex (.mth .append (.idx (.var 4) (.var 10)) (.cons (.tup (.cons (.lit (.str (Str.ofString "say"))) (.cons (.var 7) (.cons (.var 11) .nil)))) .nil))) (.cons (.ex (.mth .append (.var 5) (.cons (.tup (.cons (.var 10) (.cons (.var 7) (.cons (.var 11) .nil)))) .nil))) (.cons (.aug true 6 (.lit (.int 1))) .nil))))) (.cons (.asg (.nm 8) (.lc (.val (.slc (.var 9) .no (.so (.lit (.int 2))))) (.nm 9) (.vl (.var 5)) .no [9])) (.cons (.asg (.tp (.cons (.nm 10) (.cons (.nm 7) .nil))) (.call 34 (.cons (.var 0) (.cons (.var 8) .nil)))) (.cons (.asg (.nm 9) (.mth .popAt (.var 5) (.cons (.mth .index (.var 8) (.cons (.tup (.cons (.var 10) (.cons (.var 7) .nil))) .nil)) .nil))) (.cons (.ex (.mth .append (.idx (.var 4) (.var 7)) (.cons (.tup (.cons (.lit (.str (Str.ofString "get"))) (.cons (.var 10) (.cons (.idx (.var 9) (.lit (.int 2))) .nil)))) .nil))) .nil))))) .nil)
        [some (.ref l), some (.ro (ns.map .str)), some (.int (many : Int)), some ev, some (.ref (hh.length + (ns.length + 1))), some (.ref (hh.length + (ns.length + 2))), some (.int ((left : Nat) : Int)), o7, o8, o9, o10, o11, o12]) (osR hh.length ns R PL W g) fun p os => p.2 = .nx ∧ ∃ m', m' < 2 * left + W.length ∧ ∃ R W g left o7 o8 o9 o10 o11 o12, p.1 = [some (.ref l), some (.ro (ns.map .str)), some (.int (many : Int)), some ev, some (.ref (hh.length + (ns.length + 1))), some (.ref (hh.length + (ns.length + 2))), some (.int ((left : Nat) : Int)), o7, o8, o9, o10, o11, o12] ∧ os = osR hh.length ns R PL W g ∧ LInv ns R W left ∧ (0 < left → 1 < ns.length) ∧ m' = 2 * left + W.length := by
      intro hor
      simp -implicitDefEqProofs only [sl_cons, s_ifs, bnd_assoc]
      refine RunP.bnd (Q := fun b os' => os' = osR hh.length ns R PL W g ∧ (b = true → 0 < left) ∧ (b = false → W ≠ [])) ?_ fun b os q => ?_
      · subst hev
        walk_at "mr"
        by_cases h0 : 0 < left
        · rw [show decide ((0 : Int) < (left : Int)) = true from decide_eq_true (by omega)]
          simp -implicitDefEqProofs only [b11, if_true, emp, r_bndN]
          refine RunP.bnd (runP_eqr (P := fun b os => b = W.isEmpty ∧ os = osR hh.length ns R PL W g) (n := 1) (m := 1) (b := W.isEmpty) osR_wait (pls_W (hW I)) plE (by omega) (by omega) (eqE W) ⟨rfl, rfl⟩) fun b os q => ?_
          obtain ⟨rfl, rfl⟩ := q
          cases hWe : W.isEmpty with
          | true =>
            simp -implicitDefEqProofs only [b10, Bool.false_eq_true, if_false]
            exact runP_ret _ ⟨rfl, fun _ => h0, fun z => nomatch z⟩
          | false =>
            simp -implicitDefEqProofs only [b00, if_true]
            refine RunP.bnd ((draw_ok (T := T) (W0 := W0) (n := n + 1) (k := 4) (by omega) (by omega)).toP hl) fun w os q => ?_
            obtain ⟨rfl, d4, rfl, _, _⟩ := q
            simp -implicitDefEqProofs only [q_lt]
            exact runP_ret _ ⟨rfl, fun _ => h0, fun _ => fun y => by subst y; cases hWe⟩
        · rw [show decide ((0 : Int) < (left : Int)) = false from decide_eq_false (by omega)]
          simp -implicitDefEqProofs only [b01, Bool.false_eq_true, if_false]
          exact runP_ret _ ⟨rfl, fun z => (nomatch z), fun _ => hor.resolve_left h0⟩
      · obtain ⟨rfl, hb1, hb2⟩ := q
        cases b with
        | true =>
          have h0 := hb1 rfl
          obtain ⟨left', rfl⟩ : ∃ k, left = k + 1 := ⟨left - 1, by omega⟩
          have h2 := hl1 h0
          simp -implicitDefEqProofs only [if_true]
          walk_at "mr"
          refine RunP.bnd (pick_toP (T := T) (W0 := W0) (n := n) (xs := ns.map MV.str) hl (fun _ => rfl) (fun z => G.ne (List.map_eq_nil_iff.mp z)) (by rw [List.length_map]; omega) (fun x hx => by
            obtain ⟨a, _, rfl⟩ := List.mem_map.mp hx
            rfl)) fun w os q => ?_
          obtain ⟨rfl, hw⟩ := q
          obtain ⟨one, hone, rfl⟩ := List.mem_map.mp hw
          have ew : bvV (lstV [.str (Str.ofString "x"), .str (Str.ofString "y"), .str (Str.ofString "x"), .str (Str.ofString "end"), .str (Str.ofString "a")]) = M.ret (.ro (([Str.ofString "x", Str.ofString "y", Str.ofString "x", Str.ofString "end", Str.ofString "a"]).map .str)) := q_lstN (by show 5 < 1000000; omega) rfl
          simp -implicitDefEqProofs only [ew, r_bndN]
          refine RunP.bnd (pick_toP (T := T) (W0 := W0) (n := n) (xs := ([Str.ofString "x", Str.ofString "y", Str.ofString "x", Str.ofString "end", Str.ofString "a"]).map .str) hl (fun _ => rfl) (fun z => by cases z) (by rw [List.length_map]; show 5 ≤ 1000; omega) (fun x hx => by
            obtain ⟨a, _, rfl⟩ := List.mem_map.mp hx
            rfl)) fun w os q => ?_
          obtain ⟨rfl, hw⟩ := q
          obtain ⟨wd, hwd, rfl⟩ := List.mem_map.mp hw
          have hgw : goodName wd = true := by
            have : (([Str.ofString "x", Str.ofString "y", Str.ofString "x", Str.ofString "end", Str.ofString "a"]).all goodName) = true := by decide +kernel
            exact List.all_eq_true.mp this wd hwd
          simp -implicitDefEqProofs only [q_tup2, r_bndN]
          walk_at "mr"
          rw [lc_filter MV.str (fun b => !(b == one)) MV.str (lt_W0 (by omega)) (by omega) (fun _ _ => rfl)]
          rotate_left
          · intro b hb
            refine step_test (b := !(b == one)) rfl ?_ fun _ => ?_
            · walk_at "mr"
            · walk_at "mr"
          simp -implicitDefEqProofs only [r_bndN]
          have hfil : ns.filter (fun b => !(b == one)) ≠ [] := by
            intro z
            have z := List.filter_eq_nil_iff.mp z
            have all : ∀ b ∈ ns, b = one := fun b hb => by
              have := z b hb
              simpa using this
            have e0 := all ns[0] (List.getElem_mem (by omega))
            have e1 := all ns[1] (List.getElem_mem (by omega))
            exact List.pairwise_iff_getElem.mp nd 0 1 (by omega) (by omega) (by omega) (e0.trans e1.symm)
          refine RunP.bnd (pick_toP (T := T) (W0 := W0) (n := n) (xs := (ns.filter fun b => !(b == one)).map MV.str) hl (fun _ => rfl) (fun z => hfil (List.map_eq_nil_iff.mp z)) (by
            rw [List.length_map]
            have := List.length_filter_le (fun b => !(b == one)) ns
            omega) (fun x hx => by
            obtain ⟨a, _, rfl⟩ := List.mem_map.mp hx
            rfl)) fun w os q => ?_
          obtain ⟨rfl, hw⟩ := q
          obtain ⟨other, hot, rfl⟩ := List.mem_map.mp hw
          obtain ⟨hother, hne⟩ := List.mem_filter.mp hot
          have hne : other ≠ one := by simpa using hne
          walk_at "mr"
          refine RunP.bnd (runP_idxd (P := fun v os => v = .ref (hh.length + pos ns one) ∧ os = osR hh.length ns R PL W g) osR_dict rfl (find_map (f := fun a => MV.ref (hh.length + pos ns a)) hone) ⟨rfl, rfl⟩) fun w os q => ?_
          obtain ⟨rfl, rfl⟩ := q
          refine RunP.bnd (runP_rcv (m := .append) (P := fun _ os => os = osR hh.length ns R PL W g) rfl (osR_row hone) rfl) fun w os q => ?_
          subst q
          simp -implicitDefEqProofs only [q_tup3, r_bndN]
          have hRl : ∀ a, (R a).length ≤ 16 := fun a => by
            obtain ⟨E, _, e2, _, e4⟩ := I.ex
            rw [← e2]
            have : cts E a ≤ E.length := List.count_le_length
            omega
          have hWl : W.length ≤ 16 := by
            obtain ⟨E, _, _, _, e4⟩ := I.ex
            omega
          refine RunP.bnd (runP_append (P := fun _ os => os = osR hh.length ns (addD R one ⟨true, other, wd⟩) PL W g) (osR_row hone) (by
            rw [List.length_map]
            have := hRl one
            omega) (osR_set_row (d := ⟨true, other, wd⟩) nd hone)) fun w os q => ?_
          subst q
          walk_at "mr"
          refine RunP.bnd (runP_rcv (m := .append) (P := fun _ os => os = osR hh.length ns (addD R one ⟨true, other, wd⟩) PL W g) rfl osR_wait rfl) fun w os q => ?_
          subst q
          try simp -implicitDefEqProofs only [q_tup3, r_bndN]
          refine RunP.bnd (runP_append (P := fun _ os => os = osR hh.length ns (addD R one ⟨true, other, wd⟩) PL (W ++ [(one, other, wd)]) g) osR_wait (by
            rw [List.length_map]
            omega) (by
            have := osR_set_wait (L := hh.length) (ns := ns) (R := addD R one ⟨true, other, wd⟩) (PL := PL) (W := W) (W' := W ++ [(one, other, wd)]) (g := g)
            rw [List.map_append] at this
            exact this)) fun w os q => ?_
          subst q
          walk_at "mr"
          have ea : augV true (.int ((left' + 1 : Nat) : Int)) (.int 1) = M.ret (.int ((left' : Nat) : Int)) := by
            show M.ret (MV.int (((left' + 1 : Nat) : Int) - 1)) = _
            congr 2
            omega
          simp -implicitDefEqProofs only [ea, r_bndN]
          walk_at "mr"
          refine runP_ret _ ⟨rfl, 2 * left' + (W ++ [(one, other, wd)]).length, ?_, _, _, g, left', _, _, _, _, _, _, rfl, rfl, I.say hone hother hne G.name hgw, fun _ => h2, rfl⟩
          rw [List.length_append, List.length_singleton]
          omega
        | false =>
          have hWne := hb2 rfl
          simp -implicitDefEqProofs only [Bool.false_eq_true, if_false]
          walk_at "mr"
          have itl : ∀ j, itV (.ref j) = (chkL j).bnd fun _ => M.ret (.il j) := fun _ => rfl
          simp -implicitDefEqProofs only [itl, bnd_assoc, r_bndN]
          refine RunP.bnd (Q := fun _ os => os = osR hh.length ns R PL W g) (runP_rcv (m := .pop) rfl osR_wait rfl) fun _ os q => ?_
          subst q
          have hWl : W.length ≤ 16 := by
            obtain ⟨E, _, _, _, e4⟩ := I.ex
            omega
          have hRl : ∀ a, (R a).length ≤ 16 := fun a => by
            obtain ⟨E, _, e2, _, e4⟩ := I.ex
            rw [← e2]
            have : cts E a ≤ E.length := List.count_le_length
            omega
          refine RunP.bnd (RunP.of (P := fun ys os => ys = W.map encP ∧ os = osR hh.length ns R PL W g) fun h el => ?_) fun ys os q => ?_
          · refine ⟨_, _, lc_il (enc := encW) (f := encP) (xs := W) (by rw [← el, loc_get]; exact osR_wait) (fun e he => ?_) (lt_W0 (by omega)) (by omega), rfl, rfl⟩
            refine step_map rfl ?_
            walk_at "mr"
            exact q_slc2 rfl
          obtain ⟨rfl, rfl⟩ := q
          refine RunP.bnd (runP_alloc (P := fun v os => v = .ref (hh.length + (ns.length + (3 + g.length))) ∧ os = osR hh.length ns R PL W (g ++ [.lst (W.map encP)])) _ ⟨by rw [osR_len], osR_snoc _⟩) fun v os q => ?_
          obtain ⟨rfl, rfl⟩ := q
          have hJ : (osR hh.length ns R PL W (g ++ [.lst (W.map encP)]))[ns.length + (3 + g.length)]? = some (.lst (W.map encP)) := by
            rw [osR_tail, show 3 + g.length = g.length + 1 + 1 + 1 from by omega]
            show (g ++ [MO.lst (W.map encP)])[g.length]? = _
            rw [List.getElem?_append_right (Nat.le_refl _), Nat.sub_self]
            rfl
          generalize hg' : g ++ [MO.lst (W.map encP)] = g' at hJ
          generalize hJ' : ns.length + (3 + g.length) = J at hJ
          walk_at "mr"
          refine RunP.bnd (pick_toP (T := T) (W0 := W0) (n := n) (xs := W.map encP) hl (fun p => lstO_locP hJ p) (fun z => hWne (List.map_eq_nil_iff.mp z)) (by rw [List.length_map]; omega) (fun x hx => by
            obtain ⟨a, _, rfl⟩ := List.mem_map.mp hx
            rfl)) fun w os q => ?_
          obtain ⟨rfl, hw⟩ := q
          obtain ⟨e, he, rfl⟩ := List.mem_map.mp hw
          obtain ⟨g1, g2, g3⟩ := hW I e he
          have ue : encP e = .tup [.str e.1, .str e.2.1] := rfl
          rw [ue]
          walk_at "mr"
          refine RunP.bnd (runP_rcv (m := .popAt) (P := fun _ os => os = osR hh.length ns R PL W g') rfl osR_wait rfl) fun w os q => ?_
          subst q
          refine RunP.bnd (runP_rcv (m := .index) (P := fun _ os => os = osR hh.length ns R PL W g') rfl hJ rfl) fun w os q => ?_
          subst q
          simp -implicitDefEqProofs only [q_tup2, r_bndN]
          rw [← ue]
          refine RunP.bnd (runP_index (n := 1) (m := 1) (P := fun v os => (∃ k : Nat, v = .int (k : Int) ∧ (W.map encP)[k]? = some (encP e) ∧ ∀ i, i < k → (W.map encP)[i]? ≠ some (encP e)) ∧ os = osR hh.length ns R PL W g') hJ (pls_map fun f hf => pl_encP (hW I f hf).1 (hW I f hf).2.1) (pl_encP g1 g2) (by omega) (by omega) hw (fun k k1 k2 => ⟨⟨k, rfl, k1, k2⟩, rfl⟩)) fun w os q => ?_
          obtain ⟨⟨k, rfl, k1, k2⟩, rfl⟩ := q
          rw [List.getElem?_map] at k1
          obtain ⟨f, hf, hfe⟩ := Option.map_eq_some_iff.mp k1
          have hfe' : encP f = encP e := hfe
          obtain ⟨hf1, hf2⟩ : f.1 = e.1 ∧ f.2.1 = e.2.1 := by
            have := encP_inj.mp hfe'
            unfold isP at this
            exact ⟨of_decide_eq_true (Bool.and_eq_true_iff.mp this).1, of_decide_eq_true (Bool.and_eq_true_iff.mp this).2⟩
          obtain ⟨f1, f2, f3⟩ := f
          have hf1 : f1 = e.1 := hf1
          have hf2 : f2 = e.2.1 := hf2
          subst hf1 hf2
          have hfirst : ∀ j f, j < k → W[j]? = some f → isP e.1 e.2.1 f = false := fun j f hj hjf => by
            cases z : isP e.1 e.2.1 f with
            | false => rfl
            | true =>
              exact absurd (by rw [List.getElem?_map, hjf]; exact congrArg some (encP_inj.mpr z)) (k2 j hj)
          have hkl := (List.getElem?_eq_some_iff.mp hf).1
          obtain ⟨w1, w2, w3, w4⟩ := I.wt _ (List.mem_of_getElem? hf)
          have w2 : e.2.1 ∈ ns := w2
          walk_at "mr"
          refine RunP.bnd (runP_popAt (k := k) (y := encW (e.1, e.2.1, f3)) (P := fun v os => v = encW (e.1, e.2.1, f3) ∧ os = osR hh.length ns R PL (W.eraseIdx k) g') osR_wait (small63_nat (by omega)) (ixN_nat (by rw [List.length_map]; exact hkl)) (by rw [List.getElem?_map, hf]; rfl) ⟨rfl, by
            rw [map_erase]
            exact osR_set_wait⟩) fun w os q => ?_
          obtain ⟨rfl, rfl⟩ := q
          walk_at "mr"
          refine RunP.bnd (runP_idxd (P := fun v os => v = .ref (hh.length + pos ns e.2.1) ∧ os = osR hh.length ns R PL (W.eraseIdx k) g') osR_dict rfl (find_map (f := fun a => MV.ref (hh.length + pos ns a)) w2) ⟨rfl, rfl⟩) fun w os q => ?_
          obtain ⟨rfl, rfl⟩ := q
          refine RunP.bnd (runP_rcv (m := .append) (P := fun _ os => os = osR hh.length ns R PL (W.eraseIdx k) g') rfl (osR_row w2) rfl) fun w os q => ?_
          subst q
          have i2 : idxV (encW (e.1, e.2.1, f3)) (.int 2) = M.ret (.str f3) := q_idxt2
          simp -implicitDefEqProofs only [i2, q_tup3, r_bndN]
          refine RunP.bnd (runP_append (P := fun _ os => os = osR hh.length ns (addD R e.2.1 ⟨false, e.1, f3⟩) PL (W.eraseIdx k) g') (osR_row w2) (by
            rw [List.length_map]
            have := hRl e.2.1
            omega) (osR_set_row (d := ⟨false, e.1, f3⟩) nd w2)) fun w os q => ?_
          subst q
          walk_at "mr"
          refine runP_ret _ ⟨rfl, 2 * left + (W.eraseIdx k).length, ?_, _, _, g', left, _, _, _, _, _, _, rfl, rfl, I.get hf hfirst G.name, hl1, rfl⟩
          rw [List.length_eraseIdx_of_lt hkl]
          omega
    refine RunP.mono (Q := fun k os' => os' = osR hh.length ns R PL W g ∧ (k = true → (0 < left ∨ W ≠ [])) ∧ (k = false → W = [])) ?_ fun k os' q => ?_
    · walk_at "mr"
      by_cases h0 : 0 < left
      · rw [show decide ((0 : Int) < (left : Int)) = true from decide_eq_true (by omega)]
        simp -implicitDefEqProofs only [b10, Bool.false_eq_true, if_false]
        exact runP_ret _ ⟨rfl, fun _ => .inl h0, fun z => nomatch z⟩
      · rw [show decide ((0 : Int) < (left : Int)) = false from decide_eq_false (by omega)]
        simp -implicitDefEqProofs only [b00, if_true, emp, r_bndN]
        refine runP_ner (n := 1) (m := 1) (b := W.isEmpty) osR_wait (pls_W (hW I)) plE (by omega) (by omega) (eqE W) ⟨rfl, fun z => .inr (fun y => by subst y; cases z), fun z => ?_⟩
        cases W with
        | nil => rfl
        | cons e r => cases z
    · obtain ⟨rfl, q1, q2⟩ := q
      refine ⟨fun hk => (body (q1 hk)).mono fun p os q => ?_, fun hk => ?_⟩
      · obtain ⟨ρ, fl⟩ := p
        obtain ⟨q1, q2⟩ := q
        have q1 : fl = .nx := q1
        subst q1
        exact q2
      · have hWe := q2 hk
        subst hWe
        exact ⟨R, g, left, _, _, _, _, _, _, _, rfl, rfl, I⟩
  · obtain ⟨R, g, left, o6, o7, o8, o9, o10, o11, o12, rfl, rfl, I⟩ := q
    walk_at "mr"
    refine runP_ret _ ⟨dicL ns R, fun h el => ?_, R, rfl, I.good G⟩
    rw [← el]
    have hd : (h ++ osR h.length ns R PL [] g)[h.length + (ns.length + 1)]? = some (.dct false (kvD h.length ns)) := by rw [loc_get]; exact osR_dict
    have e1 : (kvD h.length ns).map (·.1) = ns.map .str := by unfold kvD; rw [List.map_map]; rfl
    have e2 : (kvD h.length ns).map (·.2) = ns.map fun a => .ref (h.length + pos ns a) := by unfold kvD; rw [List.map_map]; rfl
    unfold byV
    rw [if_neg (by unfold noRef; exact Bool.false_ne_true)]
    dsimp only
    rw [if_pos (by omega), hd]
    dsimp only
    rw [e1, e2, if_pos (noRefs_map fun _ _ => rfl), mapO_of (k := fun a => rowL (R a)) ns fun a ha => byV_lst (by omega) (by rw [loc_get]; exact osR_row ha) (noRefs_map fun _ _ => rfl)]
    rfl
end
end MPV
namespace MPV
open PySem hiding Env
open MP LawT
variable {T : List Def} {W0 : Nat} [PT T] [Wd W0]
local macro_rules | `(tactic| walk_at "mr") => `(tactic| try simp -implicitDefEqProofs only [bnd_assoc, e_dctT, sl_cons, sl_nil, s_asg, s_par, s_par3, s_aug, s_ex, s_ret, s_retN, s_ifs, s_fors, s_whl, s_pas, t_bop, t_not, t_var, t_cmp, t_chain, t_isK, t_call, t_bi, t_isi, t_idx, bt_one, bt_cons, e_var, e_lit, e_glo, e_tup, e_lst, e_dct, e_bin, e_neg, e_cmp, e_chain, e_isK, e_bop, e_not, e_ife, e_call, e_callk, e_bi, e_isi, e_mth, e_idx, e_slc, e_lc, e_val, e_fld, e_con, el_nil, el_cons, eb_one, eb_cons, eo_no, eo_so, ec_no, ec_so, g_nm, g_tp, g_sb, gl_nil, gl_cons, i_vl, i_rg1, i_rg2, i_en, i_its, i_vas, i_zp, after_nx, after_rt, r_bndN, r_opt, w_nil, w_cons, q_inS, retP_nx, retP_rt, List.replicate_zero, Nat.sub_self, q_add, q_sub, q_neg, q_not, q_bop, q_lt, q_le, q_gt, q_ge, q_eqs, q_nes, q_trub, q_int, q_intb, q_lent, q_lenr, q_idxt0, q_idxt1, q_idxt2, q_isi1, q_isi2, q_itt, q_itr, q_itd, q_its, q_intO, q_tupr, q_tupt, List.map_cons, List.map_nil, List.cons_append, List.nil_append, List.replicate, List.getElem?_cons_zero, List.getElem?_cons_succ, List.set_cons_zero, List.set_cons_succ, if_true, if_false, Bool.false_eq_true, b00, b01, b10, b11, Bool.not_true, Bool.not_false, Bool.true_or, Bool.or_true, Bool.false_or, Bool.or_false])
/-! k22: the law's runs. -/
open Pic
section
variable {n l : Nat} {ns : List Str} {R : Rows}
theorem chk_id {h : MH} {os : List MO} {P : Bool → List MO → Prop} {b : Bool} (p : P b os) : RunT h (truV (.bl b)) os P := ⟨b, os, rfl, p⟩
/-- who may go on, with the beginning of a run in the heap -/
theorem goers_val (G : GoodRows ns R) {h : MH} {os : List MO} {v : MV} {s : List Str} {ρ : Env} (hv : lstO (h ++ os) v = some (s.map .str)) (hle : ∀ a ∈ ns, cts s a ≤ (R a).length)
    (h1 : ρ[1]? = some (some (dicL ns R))) (h2 : ρ[2]? = some (some v)) (hl : ρ.length = 6) {P : MV → List MO → Prop} (p : P (.ro ((ns.filter fun a => canGo R (cts s) a).map .str)) os) :
    RunT h (bvV (evE (callF T W0 (n + 1)) W0 (.lc (.var 5) (.nm 5) (.vl (.val (.bi .sorted (.cons (.var 1) .nil)))) (.so (.call 37 (.cons (.var 1) (.cons (.var 2) (.cons (.var 5) .nil))))) [5]) ρ)) os P := by
  have few := G.few
  obtain ⟨r0, r1, r2, r3, r4, r5, rfl⟩ : ∃ a b c d e f, ρ = [a, b, c, d, e, f] := by
    match ρ, hl with
    | [a, b, c, d, e, f], _ => exact ⟨a, b, c, d, e, f, rfl⟩
  have e1 : r1 = some (dicL ns R) := Option.some.inj h1
  have e2 : r2 = some v := Option.some.inj h2
  clear h1 h2
  subst e1 e2
  refine runT_val (w := .ro ((ns.filter fun a => canGo R (cts s) a).map .str)) ?_ p
  generalize h ++ os = H at hv
  walk_at "mr"
  simp -implicitDefEqProofs only [sort_dicL G, r_bndN, q_itr]
  refine RunT.bnd (Q := fun ys os => ys = ((ns.filter fun a => canGo R (cts s) a).map .str) ∧ os = []) ((runT_lc (fun i acc os => acc = (((ns.take i).filter fun a => canGo R (cts s) a).map .str) ∧ os = []) ⟨by rw [List.take_zero]; rfl, rfl⟩ (lt_W0 (by rw [List.length_map]; omega)) (by rw [List.length_map]; omega) (fun i x acc os hx hi => ?_)).mono fun ys os q => ?_) fun ys os q => ?_
  · obtain ⟨rfl, rfl⟩ := hi
    rw [List.getElem?_map] at hx
    obtain ⟨a, hai, rfl⟩ := Option.map_eq_some_iff.mp hx
    have ha := List.mem_of_getElem? hai
    have hil := (List.getElem?_eq_some_iff.mp hai).1
    unfold lcStep
    walk_at "mr"
    have go := goes_ok (T := T) (W0 := W0) (n := n) (s := s) (v := v) (hh := H ++ []) (a := a) G (by rw [List.append_nil]; exact hv) ha hle
    refine RunT.bnd (Q := fun v os => v = .bl (canGo R (cts s) a) ∧ os = []) ⟨_, _, go, rfl, rfl⟩ fun v os q => ?_
    obtain ⟨rfl, rfl⟩ := q
    simp -implicitDefEqProofs only [q_trub, r_bndN]
    have et : ns.take (i + 1) = ns.take i ++ [a] := by rw [← List.take_append_getElem hil, (List.getElem?_eq_some_iff.mp hai).2]
    rw [et, List.filter_append, List.map_append]
    cases hg : canGo R (cts s) a with
    | true =>
      simp -implicitDefEqProofs only [if_true]
      walk_at "mr"
      refine runT_ret _ ⟨?_, rfl⟩
      rw [List.filter_cons, if_pos hg]
      rfl
    | false =>
      simp -implicitDefEqProofs only [Bool.false_eq_true, if_false]
      refine runT_ret _ ⟨?_, rfl⟩
      rw [List.filter_cons, hg, if_neg Bool.false_ne_true]
      simp
  · obtain ⟨rfl, rfl⟩ := q
    rw [List.length_map, List.take_length]
    exact ⟨rfl, rfl⟩
  · obtain ⟨rfl, rfl⟩ := q
    exact runT_alloc _ (byV_lst (by omega) (by rw [loc_get]; rfl) (noRefs_map fun _ _ => rfl))
/-- what all rows hold -/
def totR (ns : List Str) (R : Rows) : Nat := (ns.map fun a => (R a).length).sum
theorem not_stuck (P : GoodPic ns R) {s : List Str} (st : Steps R s) (hlt : s.length < totR ns R) : ns.filter (fun a => canGo R (cts s) a) ≠ [] := by
  obtain ⟨E, hE, hf, hn⟩ := P.once
  have hex : ∃ a ∈ ns, cts s a < (R a).length := by
    apply Classical.byContradiction
    intro hno
    have all : ∀ a ∈ ns, cts s a = (R a).length := fun a ha => Nat.le_antisymm (steps_le st a) (Nat.le_of_not_lt fun z => hno ⟨a, ha, z⟩)
    have h1 := sum_cts (s := s) P.rows.nd
    have h2 : (ns.map fun a => cts s a) = ns.map fun a => (R a).length := List.map_congr_left all
    rw [h2] at h1
    unfold totR at hlt
    omega
  obtain ⟨b, hb, g⟩ := goes_on hE hf hn (c := cts s) (fun a => steps_le st a) hex
  intro z
  exact absurd g (List.filter_eq_nil_iff.mp z b hb)
/-- a list of names -/
def Nm (ns : List Str) (B : Nat) (v : MV) : Prop := ∃ s : List Str, v = .ro (s.map .str) ∧ (∀ a ∈ s, a ∈ ns) ∧ s.length ≤ B
theorem run_ok (P : GoodPic ns R) : Dr l (callF T W0 (n + 3) 41 [.ref l, dicL ns R]) (Nm ns 40) := fun hh hl => by
  have G := P.rows
  have few := G.few
  have tot : totR ns R ≤ 40 := P.deeds
  refine call_P (df := d__law_run) (P := Nm ns 40) hl PT.at__law_run rfl rfl ?_
  unfold d__law_run
  walk_at "mr"
  simp -implicitDefEqProofs only [q_lst0]
  refine RunP.bnd (runP_alloc (P := fun v os => v = .ref (hh.length + 0) ∧ os = [.lst []]) _ ⟨rfl, rfl⟩) fun v os q => ?_
  obtain ⟨rfl, rfl⟩ := q
  have va : vasV (dicL ns R) = M.ret (.vs (ns.map fun a => rowL (R a))) := rfl
  simp -implicitDefEqProofs only [va, r_bndN]
  rw [lc_map (fun a => rowL (R a)) (fun a => MV.int ((R a).length : Int)) (lt_W0 (by omega)) (by omega) (fun _ _ => rfl)]
  rotate_left
  · intro a ha
    refine step_map rfl ?_
    walk_at "mr"
    unfold rowL
    rw [q_lenr, List.length_map]
  have hsum : (ns.map fun a => ((R a).length : Int)).sum = ((totR ns R : Nat) : Int) := by
    unfold totR
    have : ∀ xs : List Str, (xs.map fun a => ((R a).length : Int)).sum = (((xs.map fun a => (R a).length).sum : Nat) : Int) := by
      intro xs
      induction xs with
      | nil => rfl
      | cons a r ih => rw [List.map_cons, List.sum_cons, List.map_cons, List.sum_cons, ih]; omega
    exact this ns
  simp -implicitDefEqProofs only [r_bndN, q_summ, hsum, q_tup2]
  walk_at "mr"
  refine RunP.bnd (runP_whl (Q := fun p os => ∃ o4 o5, ∃ s : List Str, p = ([some (.ref l), some (dicL ns R), some (.ref (hh.length + 0)), some (.int ((totR ns R : Nat) : Int)), o4, o5], .nx) ∧ os = [.lst (s.map .str)] ∧ (∀ a ∈ s, a ∈ ns) ∧ s.length ≤ totR ns R)
    (fun m ρ os => ∃ o4 o5, ∃ s : List Str, ρ = [some (.ref l), some (dicL ns R), some (.ref (hh.length + 0)), some (.int ((totR ns R : Nat) : Int)), o4, o5] ∧ os = [.lst (s.map .str)] ∧ (∀ a ∈ s, a ∈ ns) ∧ s.length ≤ totR ns R ∧ Steps R s ∧ m = totR ns R - s.length) (m0 := totR ns R) (lt_W0 (by omega)) ⟨_, _, [], rfl, rfl, (fun a h => by cases h), Nat.zero_le _, (fun i a e => by simp at e), rfl⟩ (fun m ρ os hi => ?_)) fun p os q => ?_
  · obtain ⟨o4, o5, s, rfl, rfl, hs, hsl, st, rfl⟩ := hi
    have hr : ∀ p, lstO (hh.set l p ++ [.lst (s.map MV.str)]) (.ref (hh.length + 0)) = some (s.map MV.str) := fun p => lstO_locP rfl p
    refine RunP.mono (Q := fun k os' => os' = [.lst (s.map .str)] ∧ k = decide (s.length < totR ns R)) ?_ fun k os' q => ?_
    · walk_at "mr"
      refine RunP.bnd (runP_len (P := fun v os => v = .int (s.map MV.str).length ∧ os = [.lst (s.map .str)]) hr ⟨rfl, rfl⟩) fun w os q => ?_
      obtain ⟨rfl, rfl⟩ := q
      simp -implicitDefEqProofs only [q_lt, List.length_map]
      refine runP_ret _ ⟨rfl, ?_⟩
      rw [Bool.eq_iff_iff, decide_eq_true_eq, decide_eq_true_eq]
      omega
    · obtain ⟨rfl, rfl⟩ := q
      refine ⟨fun hk => ?_, fun hk => ⟨_, _, s, rfl, rfl, hs, hsl⟩⟩
      have hlt := of_decide_eq_true hk
      simp -implicitDefEqProofs only [sl_cons, s_ex, e_mth, bnd_assoc, e_var, List.getElem?_cons_zero, List.getElem?_cons_succ, r_bndN]
      refine RunP.bnd (runP_rcv (m := .append) (j := 0) (P := fun _ os => os = [.lst (s.map .str)]) rfl rfl rfl) fun _ os q => ?_
      subst q
      simp -implicitDefEqProofs only [el_cons, el_nil, e_call, bnd_assoc, e_var, List.getElem?_cons_zero, List.getElem?_cons_succ, r_bndN, e_val]
      refine RunP.bnd (RunP.of (P := fun v os => v = .ro ((ns.filter fun a => canGo R (cts s) a).map .str) ∧ os = [.lst (s.map .str)]) fun h el => ?_) fun w os q => ?_
      · refine goers_val (T := T) (W0 := W0) (n := n + 1) (s := s) (v := .ref (hh.length + 0)) G (by rw [← el]; exact lstO_loc rfl) (fun a _ => steps_le st a) rfl rfl rfl ⟨rfl, rfl⟩
      · obtain ⟨rfl, rfl⟩ := q
        have hfl := List.length_filter_le (fun a => canGo R (cts s) a) ns
        refine RunP.bnd (pick_toP (T := T) (W0 := W0) (n := n) (xs := (ns.filter fun a => canGo R (cts s) a).map MV.str) hl (fun _ => rfl) (fun z => not_stuck P st hlt (List.map_eq_nil_iff.mp z)) (by rw [List.length_map]; omega) (fun x hx => by
          obtain ⟨a, _, rfl⟩ := List.mem_map.mp hx
          rfl)) fun w os q => ?_
        obtain ⟨rfl, hw⟩ := q
        obtain ⟨a, ha, rfl⟩ := List.mem_map.mp hw
        obtain ⟨ha, hg⟩ := List.mem_filter.mp ha
        refine RunP.bnd (runP_append (j := 0) (P := fun _ os => os = [.lst ((s ++ [a]).map .str)]) rfl (by rw [List.length_map]; omega) (by rw [List.map_append]; rfl)) fun w os q => ?_
        subst q
        walk_at "mr"
        refine runP_ret _ ⟨totR ns R - (s ++ [a]).length, ?_, _, _, s ++ [a], rfl, rfl, fun b hb => ?_, ?_, st.snoc hg, rfl⟩
        · rw [List.length_append, List.length_singleton]; omega
        · rcases List.mem_append.mp hb with h | h
          · exact hs b h
          · rw [List.mem_singleton.mp h]; exact ha
        · rw [List.length_append, List.length_singleton]; omega
  · obtain ⟨o4, o5, s, rfl, rfl, hs, hsl⟩ := q
    walk_at "mr"
    refine runP_ret _ ⟨.ro (s.map .str), fun h el => ?_, s, rfl, hs, by omega⟩
    rw [← el]
    exact byV_lst (by omega) (by rw [loc_get]; rfl) (noRefs_map fun _ _ => rfl)
end
end MPV
namespace MPV
open PySem hiding Env
open MP LawT
variable {T : List Def} {W0 : Nat} [PT T] [Wd W0]
local macro_rules | `(tactic| walk_at "mr") => `(tactic| try simp -implicitDefEqProofs only [bnd_assoc, e_dctT, sl_cons, sl_nil, s_asg, s_par, s_par3, s_aug, s_ex, s_ret, s_retN, s_ifs, s_fors, s_whl, s_pas, t_bop, t_not, t_var, t_cmp, t_chain, t_isK, t_call, t_bi, t_isi, t_idx, bt_one, bt_cons, e_var, e_lit, e_glo, e_tup, e_lst, e_dct, e_bin, e_neg, e_cmp, e_chain, e_isK, e_bop, e_not, e_ife, e_call, e_callk, e_bi, e_isi, e_mth, e_idx, e_slc, e_lc, e_val, e_fld, e_con, el_nil, el_cons, eb_one, eb_cons, eo_no, eo_so, ec_no, ec_so, g_nm, g_tp, g_sb, gl_nil, gl_cons, i_vl, i_rg1, i_rg2, i_en, i_its, i_vas, i_zp, after_nx, after_rt, r_bndN, r_opt, w_nil, w_cons, q_inS, retP_nx, retP_rt, List.replicate_zero, Nat.sub_self, q_add, q_sub, q_neg, q_not, q_bop, q_lt, q_le, q_gt, q_ge, q_eqs, q_nes, q_trub, q_int, q_intb, q_lent, q_lenr, q_idxt0, q_idxt1, q_idxt2, q_isi1, q_isi2, q_itt, q_itr, q_itd, q_its, q_intO, q_tupr, q_tupt, List.map_cons, List.map_nil, List.cons_append, List.nil_append, List.replicate, List.getElem?_cons_zero, List.getElem?_cons_succ, List.set_cons_zero, List.set_cons_succ, if_true, if_false, Bool.false_eq_true, b00, b01, b10, b11, Bool.not_true, Bool.not_false, Bool.true_or, Bool.or_true, Bool.false_or, Bool.or_false])
/-! k22: runs with one thing otherwise. -/
open Pic
def cutS {α : Type} (s : List α) (lo hi : Option Int) : List α := (s.drop (HT.sIx s.length 0 lo)).take (HT.sIx s.length s.length hi - HT.sIx s.length 0 lo)
theorem cutM_map {α : Type} {f : α → MV} {s : List α} {lo hi : Option Int} : cutM (s.map f) lo hi = (cutS s lo hi).map f := by
  unfold cutM cutS
  rw [List.length_map, List.map_take, List.map_drop]
theorem cutS_mem {α : Type} {s : List α} {lo hi : Option Int} {a : α} (h : a ∈ cutS s lo hi) : a ∈ s := List.mem_of_mem_drop (List.mem_of_mem_take h)
theorem cutS_len {α : Type} {s : List α} {lo hi : Option Int} : (cutS s lo hi).length ≤ s.length := by
  unfold cutS
  rw [List.length_take, List.length_drop]
  omega
theorem q_slcS {α : Type} {f : α → MV} {s : List α} {lo hi : Option Int} (hf : ∀ x ∈ s, noRef (f x) = true) : bvV (slcV (.ro (s.map f)) lo hi) = M.ret (.ro ((cutS s lo hi).map f)) := by
  have e : slcV (.ro (s.map f)) lo hi = M.alloc (.lst ((cutS s lo hi).map f)) := by
    funext hh
    show M.alloc (.lst (cutM (s.map f) lo hi)) hh = _
    rw [cutM_map]
  rw [e]
  exact bv_lst (noRefs_map fun x hx => hf x (cutS_mem hx))
theorem q_catS {a b : List Str} (h : a.length + b.length < 1000000) : binV .add (.ro (a.map .str)) (.ro (b.map .str)) = M.alloc (.lst ((a ++ b).map .str)) := by
  funext hh
  show (if fits ((a.map MV.str).length + (b.map MV.str).length) then M.alloc (.lst (a.map .str ++ b.map .str)) hh else .stuck) = _
  rw [if_pos (fits_lt (by rw [List.length_map, List.length_map]; exact h)), List.map_append]
theorem q_catV {a b : List Str} (h : a.length + b.length < 1000000) : bvV (binV .add (.ro (a.map .str)) (.ro (b.map .str))) = M.ret (.ro ((a ++ b).map .str)) := by
  rw [q_catS h]
  exact bv_lst (noRefs_map fun _ _ => rfl)
section
variable {l : Nat} {hh : MH}
theorem val_P {f : M MV} {P : MV → Prop} (hl : l < hh.length) (b : RunP l hh f [] fun v os => ∃ w, (∀ h : MH, h.length = hh.length → byV (h ++ os) h.length 60 v = some w) ∧ P w) : RunP l hh (bvV f) [] fun v os => os = [] ∧ P v := fun p hp => by
  obtain ⟨v, os', p', hp', e2, w, bw, q⟩ := b p hp
  rw [List.append_nil] at e2
  refine ⟨w, [], p', hp', ?_, rfl, q⟩
  rw [List.append_nil, List.append_nil]
  unfold bvV
  rw [e2]
  dsimp only
  have hcln : Cln (hh.set l p) (hh.set l p' ++ os') := by
    refine ⟨by rw [List.length_append, List.length_set, List.length_set]; omega, fun i hi => ?_⟩
    rw [List.length_set] at hi
    by_cases h : i = l
    · subst h
      exact .inr ⟨p', by rw [List.getElem?_append_left (by rw [List.length_set]; exact hi), List.getElem?_set_self hi], noRefO_pot hp'⟩
    · left
      rw [List.getElem?_append_left (by rw [List.length_set]; exact hi), List.getElem?_set_ne (fun z => h z.symm), List.getElem?_set_ne (fun z => h z.symm)]
  rw [if_pos hcln]
  have hl2 : (hh.set l p).length = (hh.set l p').length := by rw [List.length_set, List.length_set]
  rw [hl2, bw (hh.set l p') (by rw [List.length_set])]
  dsimp only
  rw [List.take_append_of_le_length (Nat.le_refl _), List.take_length]
theorem runP_lst {xs : List MV} {P : MV → Prop} (k : noRefs xs = true) (p : P (.ro xs)) : RunP l hh (M.alloc (.lst xs)) [] fun v os => ∃ w, (∀ h : MH, h.length = hh.length → byV (h ++ os) h.length 60 v = some w) ∧ P w :=
  runP_alloc _ ⟨.ro xs, fun h el => by rw [List.length_nil, ← el]; exact byV_lst (by omega) (by rw [loc_get]; rfl) k, p⟩
end
theorem lc_ilF {α : Type} {enc : α → MV} {step : MV → M (Option MV)} {xs : List α} {g : α → Option MV} {W l : Nat} {H : MH} (e : H[l]? = some (.lst (xs.map enc))) (hs : ∀ x ∈ xs, step (enc x) = M.ret (g x)) (hW : xs.length < W) (hlen : xs.length ≤ 1000000) : lcLoop step (.il l) W 0 [] H = .ok (xs.filterMap g) H := by
  have key : ∀ (w i : Nat) (acc : List MV), lcLoop step (.il l) w i acc H = lcLoop step (.vs (xs.map enc)) w i acc H := by
    intro w
    induction w with
    | zero => intro i acc; rfl
    | succ w ih =>
      intro i acc
      have e1 : lcLoop step (.il l) (w + 1) i acc H = match nxt H (.il l) i with
        | none => .stuck
        | some none => .ok acc H
        | some (some x) => ((step x).bnd fun o => match o with
          | some y => if fitsL acc.length then lcLoop step (.il l) w (i + 1) (acc ++ [y]) else .stk
          | none => lcLoop step (.il l) w (i + 1) acc) H := rfl
      have e2 : lcLoop step (.vs (xs.map enc)) (w + 1) i acc H = match some (xs.map enc)[i]? with
        | none => .stuck
        | some none => .ok acc H
        | some (some x) => ((step x).bnd fun o => match o with
          | some y => if fitsL acc.length then lcLoop step (.vs (xs.map enc)) w (i + 1) (acc ++ [y]) else .stk
          | none => lcLoop step (.vs (xs.map enc)) w (i + 1) acc) H := rfl
      have e3 : nxt H (.il l) i = some (xs.map enc)[i]? := by
        unfold nxt
        dsimp only
        rw [e]
      rw [e1, e2, e3, List.getElem?_map]
      cases hx : xs[i]? with
      | none => rfl
      | some x =>
        dsimp only [Option.map]
        rw [hs x (List.mem_of_getElem? hx), r_bnd, r_bnd]
        cases g x with
        | none => exact ih _ _
        | some y =>
          dsimp only
          split
          · exact ih _ _
          · rfl
  rw [key, lc_vs hs hW hlen]
  rfl
/-- a text or nothing -/
def encO : Option Str → MV
  | some a => .str a
  | none => .non
theorem runT_insert {h : MH} {os : List MO} {j k : Nat} {xs : List MV} {y : MV} {P : MV → List MO → Prop} (e : os[j]? = some (.lst xs)) (hk : k ≤ 1000000) (hx : xs.length < 1000000) (p : P .non (os.set j (.lst (xs.take k ++ [y] ++ xs.drop k)))) : RunT h (mtV .insert (.ref (h.length + j)) [.int (k : Int), y]) os P := by
  refine ⟨.non, os.set j (.lst (xs.take k ++ [y] ++ xs.drop k)), ?_, p⟩
  show (match (h ++ os)[h.length + j]? with
    | some (.lst xs) => if small63 (k : Int) && decide (0 ≤ (k : Int)) && fitsL xs.length then Res.ok MV.non ((h ++ os).set (h.length + j) (.lst (xs.take (k : Int).toNat ++ [y] ++ xs.drop (k : Int).toNat))) else .stuck
    | _ => .stuck) = _
  rw [loc_get, e]
  dsimp only
  rw [if_pos (by rw [small63_nat hk, decide_eq_true (by omega : (0 : Int) ≤ (k : Int)), fitsL_lt' hx]; rfl), loc_set]
  rfl
section
variable {n l : Nat} {ns : List Str} {R : Rows}
theorem Nm.le {ns : List Str} {B C : Nat} {v : MV} (h : Nm ns B v) (k : B ≤ C) : Nm ns C v := by
  obtain ⟨s, e, h1, h2⟩ := h
  exact ⟨s, e, h1, by omega⟩
theorem bent_ok (G : GoodRows ns R) {s : List Str} (hs : ∀ a ∈ s, a ∈ ns) (hsl : s.length ≤ 40) : Dr l (callF T W0 (n + 3) 42 [.ref l, dicL ns R, .ro (s.map .str)]) (Nm ns 200) := fun hh hl => by
  have few := G.few
  refine call_P (df := d__law_bent) (P := Nm ns 200) hl PT.at__law_bent rfl rfl ?_
  unfold d__law_bent
  walk_at "mr"
  refine RunP.bnd ((draw_ok (T := T) (W0 := W0) (n := n + 1) (k := 7) (by omega) (by omega)).toP hl) fun w os q => ?_
  obtain ⟨rfl, d7, rfl, h71, h72⟩ := q
  rw [List.length_map]
  refine RunP.bnd ((draw_ok (T := T) (W0 := W0) (n := n + 1) (k := (s.length : Int) + 1) (by omega) (by omega)).toP hl) fun w os q => ?_
  obtain ⟨rfl, d, rfl, hd1, hd2⟩ := q
  obtain ⟨m, rfl⟩ := Int.eq_ofNat_of_zero_le hd1
  have hm : m ≤ s.length := by omega
  have slq : ∀ lo hi, bvV (slcV (.ro (s.map .str)) lo hi) = M.ret (.ro ((cutS s lo hi).map .str)) := fun lo hi => q_slcS fun _ _ => rfl
  have ret_ok : ∀ t : List Str, (∀ a ∈ t, a ∈ ns) → t.length ≤ 200 → RunP l hh (M.ret (MV.ro (t.map .str))) [] fun v os => ∃ w, (∀ h : MH, h.length = hh.length → byV (h ++ os) h.length 60 v = some w) ∧ Nm ns 200 w := fun t h1 h2 => runP_ret _ ⟨.ro (t.map .str), fun h _ => noRef_byV (by show noRefs _ = true; exact noRefs_map fun _ _ => rfl) 60, t, rfl, h1, h2⟩
  have cm : ∀ lo hi, ∀ a ∈ cutS s lo hi, a ∈ ns := fun lo hi a h => hs a (cutS_mem h)
  have cl : ∀ lo hi, (cutS s lo hi).length ≤ 40 := fun lo hi => Nat.le_trans cutS_len hsl
  have ap : ∀ x y : List Str, (∀ a ∈ x, a ∈ ns) → (∀ a ∈ y, a ∈ ns) → ∀ a ∈ x ++ y, a ∈ ns := fun x y h1 h2 a h => (List.mem_append.mp h).elim (h1 a) (h2 a)
  simp -implicitDefEqProofs only [q_eqi, r_bndN]
  have hd7 : d7 = 0 ∨ d7 = 1 ∨ d7 = 2 ∨ d7 = 3 ∨ d7 = 4 ∨ d7 = 5 ∨ d7 = 6 := by omega
  have pickN : RunP l hh (callF T W0 (n + 2) 34 [.ref l, .ro (ns.map .str)]) [] fun w os' => os' = [] ∧ w ∈ ns.map MV.str := pick_toP (T := T) (W0 := W0) (n := n) (xs := ns.map MV.str) hl (fun _ => rfl) (fun z => G.ne (List.map_eq_nil_iff.mp z)) (by rw [List.length_map]; omega) (fun x hx => by
      obtain ⟨a, _, rfl⟩ := List.mem_map.mp hx
      rfl)
  rcases hd7 with rfl | rfl | rfl | rfl | rfl | rfl | rfl
  · simp -implicitDefEqProofs only [decide_true, if_true]
    walk_at "mr"
    have a1 := cl none (some (m : Int))
    have a2 := cl (some ((m : Int) + 1)) (some ((m : Int) + 2))
    have a3 := cl (some (m : Int)) (some ((m : Int) + 1))
    have a4 := cl (some ((m : Int) + 2)) none
    simp -implicitDefEqProofs only [slq, r_bndN]
    rw [q_catV (by omega)]
    simp -implicitDefEqProofs only [slq, r_bndN]
    rw [q_catV (by rw [List.length_append]; omega)]
    simp -implicitDefEqProofs only [slq, r_bndN]
    rw [q_catV (by rw [List.length_append, List.length_append]; omega)]
    walk_at "mr"
    exact ret_ok _ (ap _ _ (ap _ _ (ap _ _ (cm _ _) (cm _ _)) (cm _ _)) (cm _ _)) (by rw [List.length_append, List.length_append, List.length_append]; omega)
  · simp -implicitDefEqProofs only [Int.reduceEq, decide_true, decide_false, Bool.false_eq_true, if_false, if_true]
    walk_at "mr"
    simp -implicitDefEqProofs only [q_eqi, r_bndN, Int.reduceEq, decide_true, decide_false, Bool.false_eq_true, if_false, if_true]
    walk_at "mr"
    have a1 := cl none (some (m : Int))
    have a2 := cl (some ((m : Int) + 1)) none
    simp -implicitDefEqProofs only [slq, r_bndN]
    rw [q_catV (by omega)]
    walk_at "mr"
    exact ret_ok _ (ap _ _ (cm _ _) (cm _ _)) (by rw [List.length_append]; omega)
  · simp -implicitDefEqProofs only [q_eqi, r_bndN, Int.reduceEq, decide_true, decide_false, Bool.false_eq_true, if_false, if_true]
    walk_at "mr"
    simp -implicitDefEqProofs only [q_eqi, r_bndN, Int.reduceEq, decide_true, decide_false, Bool.false_eq_true, if_false, if_true]
    walk_at "mr"
    simp -implicitDefEqProofs only [q_eqi, r_bndN, Int.reduceEq, decide_true, decide_false, Bool.false_eq_true, if_false, if_true]
    walk_at "mr"
    refine RunP.bnd (val_P (P := Nm ns 150) hl ?_) fun w os q => ?_
    · refine RunP.bnd (val_P (P := Nm ns 100) hl ?_) fun w os q => ?_
      · simp -implicitDefEqProofs only [slq, r_bndN]
        refine RunP.bnd (val_P (P := Nm ns 1) hl ?_) fun w os q => ?_
        · simp -implicitDefEqProofs only [sort_dicL G, r_bndN]
          refine RunP.bnd pickN fun w os q => ?_
          obtain ⟨rfl, hw⟩ := q
          obtain ⟨a, ha, rfl⟩ := List.mem_map.mp hw
          rw [q_lst1]
          exact runP_lst rfl ⟨[a], rfl, (fun b hb => by rw [List.mem_singleton.mp hb]; exact ha), Nat.le_refl _⟩
        · obtain ⟨rfl, s1, rfl, h1, h2⟩ := q
          have a1 := cl none (some (m : Int))
          rw [q_catS (by omega)]
          exact runP_lst (noRefs_map fun _ _ => rfl) ⟨_, rfl, ap _ _ (cm _ _) h1, by rw [List.length_append]; omega⟩
      · obtain ⟨rfl, s1, rfl, h1, h2⟩ := q
        have a1 := cl (some (m : Int)) none
        simp -implicitDefEqProofs only [slq, r_bndN]
        rw [q_catS (by omega)]
        exact runP_lst (noRefs_map fun _ _ => rfl) ⟨_, rfl, ap _ _ h1 (cm _ _), by rw [List.length_append]; omega⟩
    · obtain ⟨rfl, s1, rfl, h1, h2⟩ := q
      walk_at "mr"
      exact ret_ok _ h1 (by omega)
  · simp -implicitDefEqProofs only [q_eqi, r_bndN, Int.reduceEq, decide_true, decide_false, Bool.false_eq_true, if_false, if_true]
    walk_at "mr"
    simp -implicitDefEqProofs only [q_eqi, r_bndN, Int.reduceEq, decide_true, decide_false, Bool.false_eq_true, if_false, if_true]
    walk_at "mr"
    simp -implicitDefEqProofs only [q_eqi, r_bndN, Int.reduceEq, decide_true, decide_false, Bool.false_eq_true, if_false, if_true]
    walk_at "mr"
    simp -implicitDefEqProofs only [q_eqi, r_bndN, Int.reduceEq, decide_true, decide_false, Bool.false_eq_true, if_false, if_true]
    walk_at "mr"
    refine RunP.bnd (val_P (P := Nm ns 150) hl ?_) fun w os q => ?_
    · refine RunP.bnd (val_P (P := Nm ns 100) hl ?_) fun w os q => ?_
      · simp -implicitDefEqProofs only [slq, r_bndN]
        refine RunP.bnd (val_P (P := Nm ns 1) hl ?_) fun w os q => ?_
        · simp -implicitDefEqProofs only [sort_dicL G, r_bndN]
          refine RunP.bnd pickN fun w os q => ?_
          obtain ⟨rfl, hw⟩ := q
          obtain ⟨a, ha, rfl⟩ := List.mem_map.mp hw
          rw [q_lst1]
          exact runP_lst rfl ⟨[a], rfl, (fun b hb => by rw [List.mem_singleton.mp hb]; exact ha), Nat.le_refl _⟩
        · obtain ⟨rfl, s1, rfl, h1, h2⟩ := q
          have a1 := cl none (some (m : Int))
          rw [q_catS (by omega)]
          exact runP_lst (noRefs_map fun _ _ => rfl) ⟨_, rfl, ap _ _ (cm _ _) h1, by rw [List.length_append]; omega⟩
      · obtain ⟨rfl, s1, rfl, h1, h2⟩ := q
        have a1 := cl (some ((m : Int) + 1)) none
        simp -implicitDefEqProofs only [slq, r_bndN]
        rw [q_catS (by omega)]
        exact runP_lst (noRefs_map fun _ _ => rfl) ⟨_, rfl, ap _ _ h1 (cm _ _), by rw [List.length_append]; omega⟩
    · obtain ⟨rfl, s1, rfl, h1, h2⟩ := q
      walk_at "mr"
      exact ret_ok _ h1 (by omega)
  · simp -implicitDefEqProofs only [q_eqi, r_bndN, Int.reduceEq, decide_true, decide_false, Bool.false_eq_true, if_false, if_true]
    walk_at "mr"
    simp -implicitDefEqProofs only [q_eqi, r_bndN, Int.reduceEq, decide_true, decide_false, Bool.false_eq_true, if_false, if_true]
    walk_at "mr"
    simp -implicitDefEqProofs only [q_eqi, r_bndN, Int.reduceEq, decide_true, decide_false, Bool.false_eq_true, if_false, if_true]
    walk_at "mr"
    simp -implicitDefEqProofs only [q_eqi, r_bndN, Int.reduceEq, decide_true, decide_false, Bool.false_eq_true, if_false, if_true]
    walk_at "mr"
    simp -implicitDefEqProofs only [q_eqi, r_bndN, Int.reduceEq, decide_true, decide_false, Bool.false_eq_true, if_false, if_true]
    walk_at "mr"
    have er : bvV (revV (.ro (s.map MV.str))) = M.ret (.ro (s.reverse.map .str)) := by
      have : revV (.ro (s.map MV.str)) = M.alloc (.lst (s.reverse.map .str)) := by
        show M.alloc (.lst (s.map MV.str).reverse) = _
        rw [List.map_reverse]
      rw [this]
      exact bv_lst (noRefs_map fun _ _ => rfl)
    simp -implicitDefEqProofs only [e_rev, e_var, List.getElem?_cons_zero, List.getElem?_cons_succ, er, r_bndN]
    walk_at "mr"
    exact ret_ok _ (fun a h => hs a (List.mem_reverse.mp h)) (by rw [List.length_reverse]; omega)
  · simp -implicitDefEqProofs only [q_eqi, r_bndN, Int.reduceEq, decide_true, decide_false, Bool.false_eq_true, if_false, if_true]
    walk_at "mr"
    simp -implicitDefEqProofs only [q_eqi, r_bndN, Int.reduceEq, decide_true, decide_false, Bool.false_eq_true, if_false, if_true]
    walk_at "mr"
    simp -implicitDefEqProofs only [q_eqi, r_bndN, Int.reduceEq, decide_true, decide_false, Bool.false_eq_true, if_false, if_true]
    walk_at "mr"
    simp -implicitDefEqProofs only [q_eqi, r_bndN, Int.reduceEq, decide_true, decide_false, Bool.false_eq_true, if_false, if_true]
    walk_at "mr"
    simp -implicitDefEqProofs only [q_eqi, r_bndN, Int.reduceEq, decide_true, decide_false, Bool.false_eq_true, if_false, if_true]
    walk_at "mr"
    simp -implicitDefEqProofs only [q_eqi, r_bndN, Int.reduceEq, decide_true, decide_false, Bool.false_eq_true, if_false, if_true]
    walk_at "mr"
    have er : bvV (biV .sorted [.ro (s.map MV.str)]) = M.ret (.ro ((sortS s).map .str)) := by
      have : biV .sorted [.ro (s.map MV.str)] = M.alloc (.lst ((sortS s).map .str)) := by
        funext H
        show (match allStrs (s.map MV.str) with
          | some xs => if decide (xs.length < 64) then M.alloc (.lst ((sortS xs).map .str)) H else .stuck
          | none => .stuck) = _
        rw [allStrs_map]
        dsimp only
        rw [if_pos (decide_eq_true (by omega))]
      rw [this]
      exact bv_lst (noRefs_map fun _ _ => rfl)
    simp -implicitDefEqProofs only [er, r_bndN]
    walk_at "mr"
    have sp := sort_perm s
    exact ret_ok _ (fun a h => hs a (sp.subset h)) (by rw [sp.length_eq]; omega)
  · simp -implicitDefEqProofs only [q_eqi, r_bndN, Int.reduceEq, decide_true, decide_false, Bool.false_eq_true, if_false, if_true]
    walk_at "mr"
    simp -implicitDefEqProofs only [q_eqi, r_bndN, Int.reduceEq, decide_true, decide_false, Bool.false_eq_true, if_false, if_true]
    walk_at "mr"
    simp -implicitDefEqProofs only [q_eqi, r_bndN, Int.reduceEq, decide_true, decide_false, Bool.false_eq_true, if_false, if_true]
    walk_at "mr"
    simp -implicitDefEqProofs only [q_eqi, r_bndN, Int.reduceEq, decide_true, decide_false, Bool.false_eq_true, if_false, if_true]
    walk_at "mr"
    simp -implicitDefEqProofs only [q_eqi, r_bndN, Int.reduceEq, decide_true, decide_false, Bool.false_eq_true, if_false, if_true]
    walk_at "mr"
    simp -implicitDefEqProofs only [q_eqi, r_bndN, Int.reduceEq, decide_true, decide_false, Bool.false_eq_true, if_false, if_true]
    walk_at "mr"
    have el : biV .list [.ro (s.map MV.str)] = M.alloc (.lst (s.map .str)) := rfl
    simp -implicitDefEqProofs only [el]
    refine RunP.bnd (runP_alloc (P := fun v os => v = .ref (hh.length + 0) ∧ os = [.lst (s.map .str)]) _ ⟨rfl, rfl⟩) fun v os q => ?_
    obtain ⟨rfl, rfl⟩ := q
    walk_at "mr"
    have hr : ∀ (t : List Str) p, lstO (hh.set l p ++ [.lst (t.map MV.str)]) (.ref (hh.length + 0)) = some (t.map MV.str) := fun t p => lstO_locP rfl p
    refine RunP.bnd (runP_len (P := fun v os => v = .int (s.map MV.str).length ∧ os = [.lst (s.map .str)]) (hr s) ⟨rfl, rfl⟩) fun w os q => ?_
    obtain ⟨rfl, rfl⟩ := q
    rw [List.length_map]
    walk_at "mr"
    refine RunP.bnd (Q := fun v os => ∃ (o : Option Str) (t : List Str), v = encO o ∧ os = [.lst (t.map .str)] ∧ (∀ a ∈ t, a ∈ ns) ∧ (∀ a, o = some a → a ∈ ns) ∧ t.length ≤ 40) ?_ fun v os q => ?_
    · by_cases hlt : m < s.length
      · rw [show decide ((m : Int) < (s.length : Int)) = true from decide_eq_true (by omega)]
        simp -implicitDefEqProofs only [if_true]
        walk_at "mr"
        refine RunP.bnd (runP_rcv (m := .popAt) (j := 0) (P := fun _ os => os = [.lst (s.map .str)]) rfl rfl rfl) fun _ os q => ?_
        subst q
        walk_at "mr"
        refine runP_popAt (j := 0) (k := m) (y := .str s[m]) rfl (small63_nat (by omega)) (ixN_nat (by rw [List.length_map]; exact hlt)) (by rw [List.getElem?_map, List.getElem?_eq_getElem hlt]; rfl) ⟨some s[m], s.eraseIdx m, rfl, ?_, fun a h => hs a (List.mem_of_mem_eraseIdx h), fun a h => ?_, ?_⟩
        · rw [map_erase]; rfl
        · cases h; exact hs _ (List.getElem_mem hlt)
        · rw [List.length_eraseIdx_of_lt hlt]; omega
      · rw [show decide ((m : Int) < (s.length : Int)) = false from decide_eq_false (by omega)]
        simp -implicitDefEqProofs only [Bool.false_eq_true, if_false]
        exact runP_ret _ ⟨none, s, rfl, rfl, hs, (fun a h => by cases h), hsl⟩
    · obtain ⟨o, t, rfl, rfl, ht, ho, htl⟩ := q
      walk_at "mr"
      refine RunP.bnd (runP_rcv (m := .insert) (j := 0) (P := fun _ os => os = [.lst (t.map .str)]) rfl rfl rfl) fun _ os q => ?_
      subst q
      refine RunP.bnd (runP_len (P := fun v os => v = .int (t.map MV.str).length ∧ os = [.lst (t.map .str)]) (hr t) ⟨rfl, rfl⟩) fun w os q => ?_
      obtain ⟨rfl, rfl⟩ := q
      rw [List.length_map]
      walk_at "mr"
      refine RunP.bnd ((draw_ok (T := T) (W0 := W0) (n := n + 1) (k := (t.length : Int) + 1) (by omega) (by omega)).toP hl) fun w os q => ?_
      obtain ⟨rfl, d, rfl, hd1, hd2⟩ := q
      obtain ⟨k, rfl⟩ := Int.eq_ofNat_of_zero_le hd1
      walk_at "mr"
      generalize hz : ((t.take k).map some ++ [o] ++ (t.drop k).map some) = z
      refine RunP.bnd (RunP.of (P := fun v os => os = [.lst (z.map encO)]) fun h el => by
        rw [← el]
        refine runT_insert (j := 0) rfl (by omega) (by rw [List.length_map]; omega) ?_
        rw [← hz, List.map_append, List.map_append, List.map_map, List.map_map, List.map_take, List.map_drop]
        rfl) fun v os q => ?_
      subst q
      have zlen : z.length ≤ 41 := by
        rw [← hz, List.length_append, List.length_append, List.length_map, List.length_map, List.length_take, List.length_drop, List.length_singleton]
        omega
      have zmem : ∀ a, some a ∈ z → a ∈ ns := fun a h => by
        rw [← hz] at h
        rcases List.mem_append.mp h with h | h
        · rcases List.mem_append.mp h with h | h
          · obtain ⟨b, hb, e⟩ := List.mem_map.mp h
            cases e
            exact ht _ (List.mem_of_mem_take hb)
          · exact ho a (List.mem_singleton.mp h).symm
        · obtain ⟨b, hb, e⟩ := List.mem_map.mp h
          cases e
          exact ht _ (List.mem_of_mem_drop hb)
      walk_at "mr"
      have itl : ∀ j, itV (.ref j) = (chkL j).bnd fun _ => M.ret (.il j) := fun _ => rfl
      simp -implicitDefEqProofs only [itl, bnd_assoc, r_bndN]
      have hg : z.filterMap (fun o => o.map MV.str) = (z.filterMap id).map MV.str := by
        rw [List.map_filterMap]
        rfl
      refine RunP.bnd (RunP.of (P := fun v os => v = .ro ((z.filterMap id).map .str)) fun h el => runT_val (w := .ro ((z.filterMap id).map .str)) ?_ rfl) fun w os q => ?_
      · rw [← el]
        generalize hH : h ++ [MO.lst (z.map encO)] = H
        have e : H[h.length + 0]? = some (.lst (z.map encO)) := by rw [← hH, loc_get]; rfl
        refine RunT.bnd (Q := fun _ os => os = []) ⟨(), [], ?_, rfl⟩ fun _ os q => ?_
        · rw [List.append_nil]
          unfold chkL
          rw [e]
        · subst q
          refine RunT.bnd (Q := fun ys os => ys = (z.filterMap id).map MV.str ∧ os = []) ⟨_, [], ?_, rfl, rfl⟩ fun ys os q => ?_
          · rw [List.append_nil, ← hg]
            refine lc_ilF e (fun o ho => ?_) (lt_W0 (by omega)) (by omega)
            cases o with
            | none =>
              refine step_test (b := false) (y := .non) rfl ?_ fun z => nomatch z
              walk_at "mr"
              have : isKV (encO none) .non = M.ret true := rfl
              simp -implicitDefEqProofs only [this, r_bndN, if_true, Bool.not_true]
            | some a =>
              refine step_test (b := true) (y := .str a) rfl ?_ fun _ => ?_
              · walk_at "mr"
                have : isKV (encO (some a)) .non = M.ret false := rfl
                simp -implicitDefEqProofs only [this, r_bndN, if_true, Bool.not_false]
              · walk_at "mr"
                rfl
          · obtain ⟨rfl, rfl⟩ := q
            exact runT_alloc _ (byV_lst (by omega) (by rw [loc_get]; rfl) (noRefs_map fun _ _ => rfl))
      · subst q
        walk_at "mr"
        refine runP_ret _ ⟨_, fun h _ => noRef_byV (by show noRefs _ = true; exact noRefs_map fun _ _ => rfl) 60, _, rfl, fun a ha => ?_, ?_⟩
        · obtain ⟨o, h1, h2⟩ := List.mem_filterMap.mp ha
          have h2 : o = some a := h2
          rw [h2] at h1
          exact zmem a h1
        · have := List.length_filterMap_le id z
          omega
end
end MPV
namespace MPV
open PySem hiding Env
open MP LawT
variable {T : List Def} {W0 : Nat} [PT T] [Wd W0]
local macro_rules | `(tactic| walk_at "mr") => `(tactic| try simp -implicitDefEqProofs only [bnd_assoc, e_dctT, sl_cons, sl_nil, s_asg, s_par, s_par3, s_aug, s_ex, s_ret, s_retN, s_ifs, s_fors, s_whl, s_pas, t_bop, t_not, t_var, t_cmp, t_chain, t_isK, t_call, t_bi, t_isi, t_idx, bt_one, bt_cons, e_var, e_lit, e_glo, e_tup, e_lst, e_dct, e_bin, e_neg, e_cmp, e_chain, e_isK, e_bop, e_not, e_ife, e_call, e_callk, e_bi, e_isi, e_mth, e_idx, e_slc, e_lc, e_val, e_fld, e_con, el_nil, el_cons, eb_one, eb_cons, eo_no, eo_so, ec_no, ec_so, g_nm, g_tp, g_sb, gl_nil, gl_cons, i_vl, i_rg1, i_rg2, i_en, i_its, i_vas, i_zp, after_nx, after_rt, r_bndN, r_opt, w_nil, w_cons, q_inS, retP_nx, retP_rt, List.replicate_zero, Nat.sub_self, q_add, q_sub, q_neg, q_not, q_bop, q_lt, q_le, q_gt, q_ge, q_eqs, q_nes, q_trub, q_int, q_intb, q_lent, q_lenr, q_idxt0, q_idxt1, q_idxt2, q_isi1, q_isi2, q_itt, q_itr, q_itd, q_its, q_intO, q_tupr, q_tupt, List.map_cons, List.map_nil, List.cons_append, List.nil_append, List.replicate, List.getElem?_cons_zero, List.getElem?_cons_succ, List.set_cons_zero, List.set_cons_succ, if_true, if_false, Bool.false_eq_true, b00, b01, b10, b11, Bool.not_true, Bool.not_false, Bool.true_or, Bool.or_true, Bool.false_or, Bool.or_false])
/-! k22: the law. -/
open Pic
section
variable {n l : Nat}
theorem pow18 : binV .pow (.int 10) (.int 18) = M.ret (.int 1000000000000000000) := by
  show (if okPow 10 18 then M.ret (MV.int (10 ^ (18 : Int).toNat)) else M.stk) = _
  rw [if_pos (by unfold okPow; exact decide_eq_true ⟨by omega, by omega, by decide⟩)]
  rfl
theorem pot_ok {is : List Int} {k : Nat} (hk : k ≤ 1000) {h : MH} {os : List MO} : RunT h (callF T W0 (n + 1) 32 [.ro (is.map .int), .int (k : Int)]) os fun v os' => v = .ref (h.length + os.length) ∧ ∃ p, os' = os ++ [p] ∧ PotOk p := by
  rw [call_eq (df := d__law_pot) PT.at__law_pot rfl]
  show RunT h ((evSL (callF T W0 n) W0 d__law_pot.body ([MV.ro (is.map .int), .int (k : Int)].map some ++ List.replicate (d__law_pot.ns - d__law_pot.np) none)).bnd retP) os _
  have m211 : binV .mul (.int 211) (.int (k : Int)) = M.ret (.int (211 * (k : Int))) := if_pos (by rw [show small64 211 = true from by unfold small64; exact decide_eq_true (by omega)]; rfl)
  have m9176 : binV .mul (.int 9176) (.int (k : Int)) = M.ret (.int (9176 * (k : Int))) := if_pos (by rw [show small64 9176 = true from by unfold small64; exact decide_eq_true (by omega)]; rfl)
  have m48 : ∀ x : Int, binV .mul (.int x) (.int 48271) = M.ret (.int (x * 48271)) := fun x => if_pos (by rw [small_48271, Bool.or_true])
  have mo1 : ∀ x : Int, binV .mod (.int x) (.int 2147483587) = M.ret (.int (x % 2147483587)) := fun x => by rw [q_mod, if_pos (by omega)]
  have mo2 : ∀ x : Int, binV .mod (.int x) (.int 2147483629) = M.ret (.int (x % 2147483629)) := fun x => by rw [q_mod, if_pos (by omega)]
  unfold d__law_pot
  walk_at "mr"
  simp -implicitDefEqProofs only [m211, r_bndN]
  walk_at "mr"
  refine RunT.bnd (Q := fun p os' => ∃ x : Int, p = ([some (.ro (is.map .int)), some (.int (k : Int)), some (.int x)], .nx) ∧ os' = os) ?_ fun p os' q => ?_
  · by_cases hlt : k < is.length
    · rw [List.length_map, show decide ((k : Int) < (is.length : Int)) = true from decide_eq_true (by omega)]
      simp -implicitDefEqProofs only [if_true]
      walk_at "mr"
      have ix : idxV (.ro (is.map MV.int)) (.int (k : Int)) = M.ret (.int is[k]) := q_idxr (at_nat (by rw [List.getElem?_map, List.getElem?_eq_getElem hlt]; rfl))
      simp -implicitDefEqProofs only [ix, r_bndN, q_abs]
      exact runT_ret _ ⟨_, rfl, rfl⟩
    · rw [List.length_map, show decide ((k : Int) < (is.length : Int)) = false from decide_eq_false (by omega)]
      simp -implicitDefEqProofs only [Bool.false_eq_true, if_false]
      exact runT_ret _ ⟨_, rfl, rfl⟩
  · obtain ⟨x, rfl, rfl⟩ := q
    walk_at "mr"
    simp -implicitDefEqProofs only [pow18, r_bndN, q_sub, q_max, q_int, mo1, m48, m9176, q_add, mo2]
    have e2 : ∀ a b : MV, lstV [a, b] = M.alloc (.lst [a, b]) := fun a b => if_pos (fits_lt (by show 2 < 1000000; omega))
    simp -implicitDefEqProofs only [e2]
    generalize hy : (x % 2147483587 * 48271 + 9176 * (k : Int) + 4421) % 2147483629 = y
    have y0 : 0 ≤ y := by rw [← hy]; exact Int.emod_nonneg _ (by omega)
    have y1 : y < 2147483629 := by rw [← hy]; exact Int.emod_lt_of_pos _ (by omega)
    refine RunT.bnd (runT_alloc (P := fun v os2 => v = .ref (h.length + os'.length) ∧ ∃ p, os2 = os' ++ [p] ∧ PotOk p) _ ⟨rfl, _, rfl, _, _, rfl, ?_, by omega, by omega⟩) fun v os2 q => ?_
    · split <;> omega
    · obtain ⟨rfl, q⟩ := q
      walk_at "mr"
      exact runT_ret _ ⟨rfl, q⟩
theorem right_ok : Dr l (callF T W0 (n + 9) 44 [.ref l]) fun v => v = .bl true := fun hh hl => by
  refine call_P (df := d__law_right) (P := fun v => v = .bl true) hl PT.at__law_right rfl rfl ?_
  unfold d__law_right
  walk_at "mr"
  refine RunP.bnd ((draw_ok (T := T) (W0 := W0) (n := n + 7) (k := 4) (by omega) (by omega)).toP hl) fun w os q => ?_
  obtain ⟨rfl, d, rfl, hd1, hd2⟩ := q
  obtain ⟨k, rfl⟩ := Int.eq_ofNat_of_zero_le hd1
  walk_at "mr"
  rw [show (1 : Int) + (k : Int) = ((1 + k : Nat) : Int) from by omega]
  refine RunP.bnd ((names_ok (T := T) (W0 := W0) (n := n + 6) (k := 1 + k) (by omega) (by omega)).toP hl) fun w os q => ?_
  obtain ⟨rfl, ns, rfl, G⟩ := q
  walk_at "mr"
  refine RunP.bnd ((draw_ok (T := T) (W0 := W0) (n := n + 7) (k := 9) (by omega) (by omega)).toP hl) fun w os q => ?_
  obtain ⟨rfl, d, rfl, hd1, hd2⟩ := q
  obtain ⟨k2, rfl⟩ := Int.eq_ofNat_of_zero_le hd1
  refine RunP.bnd ((rows_ok (T := T) (W0 := W0) (n := n + 5) G (many := k2) (by omega)).toP hl) fun w os q => ?_
  obtain ⟨rfl, R, rfl, P⟩ := q
  have few := G.few
  have mk : mkV (Str.ofString "Picture") (callF T W0 (n + 8) 16) [dicL ns R] = M.ret (pic ns R) := mk_ok (n := n + 1) P
  have eo : eqoV (Str.ofString "Picture") (callF T W0 (n + 8) 17) (pic ns R) (pic ns R) = M.ret true := eqo_ok (n := n + 7) P.rows
  have ju : ∀ s : List Str, (∀ a ∈ s, a ∈ ns) → s.length ≤ 1000 → callF T W0 (n + 8) 43 [pic ns R, dicL ns R, .ro (s.map .str)] = M.ret (.bl true) := fun s h1 h2 => judged_ok (n := n + 2) P h1 h2
  walk_at "mr"
  simp -implicitDefEqProofs only [e_mk, el_cons, el_nil, e_var, List.getElem?_cons_zero, List.getElem?_cons_succ, r_bndN, mk]
  walk_at "mr"
  have r6 : rg1V (.int 6) = M.ret (.vs ((List.range 6).map fun (i : Nat) => .int (i : Int))) := q_rg1n (k := 6) (by omega)
  simp -implicitDefEqProofs only [r6, r_bndN]
  refine RunP.bnd (runP_for (Q := fun p os => ∃ o4 o5 o6, p = ([some (.ref l), some (.ro (ns.map .str)), some (dicL ns R), some (pic ns R), o4, o5, o6], .nx) ∧ os = []) (fun i ρ os => ∃ o4 o5 o6, ρ = [some (.ref l), some (.ro (ns.map .str)), some (dicL ns R), some (pic ns R), o4, o5, o6] ∧ os = []) ⟨_, _, _, rfl, rfl⟩ (lt_W0 (by rw [List.length_map, List.length_range]; omega)) (fun i x ρ os hx hi => ?_) (fun ρ os hi => ?_)) fun p os q => ?_
  · obtain ⟨o4, o5, o6, rfl, rfl⟩ := hi
    refine runP_ret _ ?_
    walk_at "mr"
    refine RunP.bnd ((run_ok (T := T) (W0 := W0) (n := n + 5) P).toP hl) fun w os q => ?_
    obtain ⟨rfl, s, rfl, hs, hsl⟩ := q
    walk_at "mr"
    simp -implicitDefEqProofs only [ju s hs (by omega), r_bndN, q_trub, Bool.not_true, Bool.false_eq_true, if_false]
    walk_at "mr"
    simp -implicitDefEqProofs only [r6, r_bndN]
    refine RunP.bnd (runP_for (Q := fun p os => ∃ o6, p = ([some (.ref l), some (.ro (ns.map .str)), some (dicL ns R), some (pic ns R), some x, some (.ro (s.map .str)), o6], .nx) ∧ os = []) (fun i ρ os => ∃ o6, ρ = [some (.ref l), some (.ro (ns.map .str)), some (dicL ns R), some (pic ns R), some x, some (.ro (s.map .str)), o6] ∧ os = []) ⟨_, rfl, rfl⟩ (lt_W0 (by rw [List.length_map, List.length_range]; omega)) (fun i x2 ρ os hx hi => ?_) (fun ρ os hi => ?_)) fun p os q => ?_
    · obtain ⟨o6, rfl, rfl⟩ := hi
      refine runP_ret _ ?_
      walk_at "mr"
      refine RunP.bnd ((bent_ok (T := T) (W0 := W0) (n := n + 5) P.rows hs hsl).toP hl) fun w os q => ?_
      obtain ⟨rfl, t, rfl, ht, htl⟩ := q
      simp -implicitDefEqProofs only [ju t ht (by omega), r_bndN, q_trub, Bool.not_true, Bool.false_eq_true, if_false]
      walk_at "mr"
      exact runP_ret _ ⟨_, rfl, rfl⟩
    · obtain ⟨o6, rfl, rfl⟩ := hi
      exact ⟨_, rfl, rfl⟩
    · obtain ⟨o6, rfl, rfl⟩ := q
      walk_at "mr"
      exact runP_ret _ ⟨_, _, _, rfl, rfl⟩
  · obtain ⟨o4, o5, o6, rfl, rfl⟩ := hi
    exact ⟨_, _, _, rfl, rfl⟩
  · obtain ⟨o4, o5, o6, rfl, rfl⟩ := q
    walk_at "mr"
    have emp : bvV (lstV []) = M.ret (.ro (([] : List Str).map .str)) := q_lstN (by show 0 < 1000000; omega) rfl
    have j0 := ju [] (fun a h => by cases h) (by show 0 ≤ 1000; omega)
    simp -implicitDefEqProofs only [emp, r_bndN, j0, b11, if_true]
    simp -implicitDefEqProofs only [e_eqo, e_mk, el_cons, el_nil, e_var, List.getElem?_cons_zero, List.getElem?_cons_succ, r_bndN, mk, eo]
    walk_at "mr"
    exact runP_ret _ ⟨.bl true, fun h _ => noRef_byV rfl 60, rfl⟩
theorem law_ok (is : List Int) : callF T W0 (n + 10) 45 [.ro (is.map .int)] = M.ret (.bl true) := by
  refine call_loc (df := d_law) PT.at_law rfl rfl fun h => RunT.mono (Q := fun v os => v = .bl true) ?_ fun v os q => by subst q; exact noRef_byV rfl 60
  unfold d_law
  walk_at "mr"
  obtain ⟨m, hm1, hm5, he⟩ : ∃ m : Nat, 1 ≤ m ∧ m ≤ 5 ∧ ∀ {β : Type} (f : MV → M β), ((biV .min [.int 5, .int ((is.map MV.int).length : Int)]).bnd fun a => (biV .max [.int 1, a]).bnd f) = f (.int (m : Int)) := by
    rw [List.length_map]
    by_cases h : is.length < 5
    · by_cases h1 : 1 < is.length
      · exact ⟨is.length, by omega, by omega, fun f => by rw [q_min, r_bnd, if_pos (by omega), q_max, r_bnd, if_pos (by omega)]⟩
      · exact ⟨1, by omega, by omega, fun f => by rw [q_min, r_bnd, if_pos (by omega), q_max, r_bnd, if_neg (by omega)]; rfl⟩
    · exact ⟨5, by omega, by omega, fun f => by rw [q_min, r_bnd, if_neg (by omega), q_max, r_bnd, if_pos (by omega)]; rfl⟩
  rw [he, q_rg1n (k := m) (show m ≤ 1000000 by omega), r_bndN]
  refine RunT.bnd (runT_val (w := .ro (List.replicate m (.bl true))) (P := fun v os => v = .ro (List.replicate m (.bl true))) ?_ rfl) fun v os q => ?_
  · generalize h ++ [] = H
    refine RunT.bnd (Q := fun ys os => ys = List.replicate m (.bl true)) ((runT_lc (fun i acc os => acc = List.replicate i (.bl true)) rfl (lt_W0 (by rw [List.length_map, List.length_range]; omega)) (by rw [List.length_map, List.length_range]; omega) (fun i x acc os hx hi => ?_)).mono fun ys os q => ?_) fun ys os q => ?_
    · subst hi
      rw [List.getElem?_map] at hx
      obtain ⟨i', hi', rfl⟩ := Option.map_eq_some_iff.mp hx
      have hlt := (List.getElem?_eq_some_iff.mp hi').1
      rw [List.length_range] at hlt
      have e : i' = i := by
        rw [List.getElem?_range hlt] at hi'
        exact (Option.some.inj hi').symm
      subst e
      unfold lcStep
      walk_at "mr"
      try simp -implicitDefEqProofs only [if_true]
      refine RunT.bnd (pot_ok (T := T) (W0 := W0) (n := n + 8) (by omega)) fun v os' q => ?_
      obtain ⟨rfl, p, rfl, hp⟩ := q
      have r := right_ok (T := T) (W0 := W0) (n := n) (l := (H ++ os).length) (H ++ os ++ [p]) (by rw [List.length_append]; simp) p hp
      obtain ⟨v, os', p', hp', e, rfl, rfl⟩ := r
      rw [List.append_nil, List.append_nil] at e
      have s1 : ∀ o : MO, (H ++ os ++ [p]).set (H ++ os).length o = H ++ (os ++ [o]) := fun o => by
        rw [List.set_append_right _ _ (Nat.le_refl _), Nat.sub_self, List.append_assoc]
        rfl
      rw [s1, s1, List.length_append] at e
      refine RunT.bnd (Q := fun v os => v = .bl true) ⟨_, _, e, rfl⟩ fun v os' q => ?_
      subst q
      refine runT_ret _ ?_
      show List.replicate i' (MV.bl true) ++ [.bl true] = List.replicate (i' + 1) (.bl true)
      rw [List.replicate_succ']
    · rw [List.length_map, List.length_range] at q
      exact q
    · subst q
      refine runT_alloc _ (byV_lst (by omega) (by rw [loc_get, List.getElem?_append_right (Nat.le_refl _), Nat.sub_self]; rfl) ?_)
      have : ∀ k, noRefs (List.replicate k (.bl true)) = true := by
        intro k
        induction k with
        | zero => rfl
        | succ k ih =>
          rw [List.replicate_succ]
          unfold noRefs
          rw [ih]
          rfl
      exact this m
  · subst q
    have ea : biV .all [.ro (List.replicate m (.bl true))] = M.ret (.bl true) := by
      have := q_allm (xs := List.replicate m ()) (p := fun _ => true)
      rw [List.map_replicate] at this
      rw [this]
      simp
    simp -implicitDefEqProofs only [ea, r_bndN]
    walk_at "mr"
    exact runT_ret _ rfl
end
theorem k22_plain (ns : List Int) (h : ns.length ≤ 63) : ∃ h', MP.callF LawT.T 100000 30 LawT.lf [.ro (ns.map MP.MV.int)] [] = .ok (.bl true) h' := by
  haveI := pt_law
  haveI := wd_law
  have e := law_ok (T := LawT.T) (W0 := 100000) (n := 20) ns
  exact ⟨[], congrFun e []⟩
end MPV
open PySem PySem.W PySem.Calls PyProof.Rows
theorem PySem.Challenge.cw_forcedbook_k22_runs_judged_holds : PySem.Challenge.rw_forcedbook_k22_runs_judged.Holds := by
  w_on; o_law
  refine HandSHeadRun.head_any (r := LawT.R) (q := view LawT.R.prog [LawT.li]) (H := LawT.hk) (ob := LawT.ob) (M := 30000) (loose := LawT.loose) (d := HandSHeadRun.topDef LawT.R.prog LawT.li) (kwd := []) LawT.ob_eq
    (by kernel_rfl) (fun s => by kernel_rfl) LawT.run (by kernel_rfl) (by kernel_rfl) (by kernel_rfl) (by rfl) (by first | assumption | decide +kernel) (by decide +kernel) ⟨rfl, rfl, rfl, rfl, rfl, by decide +kernel⟩ ?hw ?hc
  case hw => w_witness2
  case hc =>
    refine MP.walk_mp (n := 63) (k := 30) (B := LawT.B) (T := LawT.T) (W := 100000) (i := LawT.lf) (x := "_law_script") rfl (by decide) (by kernel_rfl) ⟨rfl, by decide, by decide⟩ (by kernel_rfl) rfl rfl (by kernel_rfl) rfl (MP.chkAll_at LawT.chk) (fun w mg h Y G => ?_) MPV.k22_plain
    obtain ⟨K, kin, c, ex⟩ := Y
    refine ⟨K, kin, MP.facts_of kin G c ex (by decide +kernel) (by decide +kernel) (by decide +kernel) LawT.bH fun f d n ks arr hd hm => ?_⟩
    obtain ⟨d', e1, e2⟩ := LawT.bK (f, n, ks, arr) hm
    have e3 : some d' = some d := e1.symm.trans hd
    cases e3
    exact e2
