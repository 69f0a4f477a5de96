import PyProof.Rows.All
import Wide.All
import OpenK.AllK
import Wide.FinOn
import KE.KStateDown
import HandS.ForMost
import HandS.IsInst
import HandS.Deep
import HandS.Style
import HandS.TupAny
import HandS.RaiseMore
import HandS.Text
import HandS.Codes
import HandS.Words
import HandS.Defaults
import HandS.Exc
import HandS.HeadEnd
import HandS.HeadHook2
import HandS.Ends
import HandS.Head0
import HandS.Head1
import HandS.Head2
import HandS.HeadHook1
import PyProof.ReprLen
import PyProof.EqLayable
import PyProof.Rows.Walk
import PyProof.StrLaws
import PySem.Challenge.RW_forcedbook_k11_numbers_names_and_deeds_t
set_option Elab.async false
set_option linter.all false
set_option maxRecDepth 100000
set_option maxHeartbeats 0
/-! MP: a small language of slots and places: its terms, its meaning. -/
namespace MP
open PySem

/-- a value: tuples are told deep, lists and dicts and instances by their places -/
inductive MV where
  | non | bl (b : Bool) | int (i : Int) | str (s : Str) | tup (xs : List MV) | ref (l : Nat) | ro (xs : List MV)
  deriving Inhabited

/-- what stands at a place; w: it may be written -/
inductive MO where
  | lst (xs : List MV)
  | dct (w : Bool) (kvs : List (MV × MV))
  | ins (c : Nat) (fs : List (Str × MV))
  deriving Inhabited

abbrev MH := List MO

inductive Res (α : Type) where
  | ok (a : α) (h : MH)
  | exc (e : MV) (h : MH)
  | stuck

def M (α : Type) := MH → Res α
def M.ret {α : Type} (a : α) : M α := fun h => .ok a h
def M.stk {α : Type} : M α := fun _ => .stuck
def M.bnd {α β : Type} (x : M α) (f : α → M β) : M β := fun h => match x h with
  | .ok a h' => f a h'
  | .exc e h' => .exc e h'
  | .stuck => .stuck
instance : Monad M where
  pure := M.ret
  bind := M.bnd
@[simp] theorem M.pure_eq {α : Type} (a : α) : (pure a : M α) = M.ret a := rfl
@[simp] theorem M.bind_eq {α β : Type} (x : M α) (f : α → M β) : (x >>= f) = M.bnd x f := rfl
def M.alloc (o : MO) : M MV := fun h => .ok (.ref h.length) (h ++ [o])
/-- a test that must hold -/
def M.chk (b : Bool) : M Unit := if b then .ret () else .stk
def M.get : M MH := fun h => .ok h h
def M.put (l : Nat) (o : MO) : M Unit := fun h => .ok () (h.set l o)
def M.opt {α : Type} (o : Option α) : M α := match o with
  | some a => .ret a
  | none => .stk

/-! ### values -/
def mapO {α β : Type} (f : α → Option β) : List α → Option (List β)
  | [] => some []
  | x :: r => match f x, mapO f r with
    | some y, some ys => some (y :: ys)
    | _, _ => none
/-- a value as data, through the places -/
def reify (h : MH) : Nat → MV → Option PyData
  | _, .non => some .none
  | _, .bl b => some (.bool b)
  | _, .int i => some (.int i)
  | _, .str s => some (.str s)
  | 0, .tup _ => none
  | 0, .ref _ => none
  | 0, .ro _ => none
  | n + 1, .tup xs => (mapO (reify h n) xs).map .tuple
  | n + 1, .ro xs => (mapO (reify h n) xs).map .list
  | n + 1, .ref l => match h[l]? with
    | some (.lst xs) => (mapO (reify h n) xs).map .list
    | some (.dct _ kvs) => match mapO (reify h n) (kvs.map (·.1)), mapO (reify h n) (kvs.map (·.2)) with
      | some ks, some vs => some (.dict (ks.zip vs))
      | _, _ => none
    | _ => none

/-! the model's lines, kept shut -/
@[irreducible] def fits (n : Nat) : Bool := decide (n ≤ sizeLine)
@[irreducible] def fitsL (n : Nat) : Bool := decide (n < sizeLine)
@[irreducible] def fitsJ (n : Nat) : Bool := decide (n ≤ 16777216)
@[irreducible] def small64 (i : Int) : Bool := decide (-(2 ^ 64) < i ∧ i < 2 ^ 64)
@[irreducible] def small63 (i : Int) : Bool := decide (-(2 ^ 63) ≤ i ∧ i < 2 ^ 63)
@[irreducible] def smallR (i : Int) : Bool := decide (-(2 ^ 62) ≤ i ∧ i < 2 ^ 62)
@[irreducible] def okDiv (j : Int) : Bool := decide (0 < j ∧ j < 1073741824)
@[irreducible] def okPow (a b : Int) : Bool := decide (0 ≤ b ∧ b ≤ 1000000 ∧ a.natAbs < 2 ^ 64)

inductive Bop | add | sub | mul | fdiv | mod | pow
inductive Cop | eq | ne | lt | le | gt | ge | isin | notin
inductive Ty | int | str | bool | list | tuple | dict
inductive Bi | abs | max | min | int | len | divmod | all | any | repr | list | tuple | sum | sorted
inductive Mt | append | join | pop | popAt

def reprV (v : MV) : M MV := fun h => match reify h 60 v with
  | some d => if decide (d.depth ≤ 62) && d.showable && fits d.shown.length then .ok (.str d.shown) h else .stuck
  | none => .stuck
def eqD (v w : MV) : M Bool := fun h => match reify h 60 v, reify h 60 w with
  | some d, some e => if SeqAt.shaped d && SeqAt.shaped e then .ok (PyData.eqv d e) h else .stuck
  | _, _ => .stuck
def eqV (v w : MV) : M Bool := match v, w with
  | .str a, .str b => .ret (a == b)
  | v, w => eqD v w
def addV : MV → MV → M MV
  | .int a, .int b => .ret (.int (a + b))
  | .str a, .str b => if fits (a.length + b.length) then .ret (.str (a ++ b)) else .stk
  | .ref a, .ref b => fun h => match h[a]?, h[b]? with
    | some (.lst xs), some (.lst ys) => if fits (xs.length + ys.length) then M.alloc (.lst (xs ++ ys)) h else .stuck
    | _, _ => .stuck
  | .tup xs, .tup ys => if fits (xs.length + ys.length) then .ret (.tup (xs ++ ys)) else .stk
  | _, _ => .stk
def subV : MV → MV → M MV
  | .int a, .int b => .ret (.int (a - b))
  | _, _ => .stk
def mulV : MV → MV → M MV
  | .int a, .int b => if small64 a || small64 b then .ret (.int (a * b)) else .stk
  | .ref a, .int k => fun h => match h[a]? with
    | some (.lst xs) => if small63 k && fits (xs.length * k.toNat) then M.alloc (.lst (List.replicate k.toNat xs).flatten) h else .stuck
    | _ => .stuck
  | _, _ => .stk
def fdivV : MV → MV → M MV
  | .int a, .int b => if okDiv b then .ret (.int (a / b)) else .stk
  | _, _ => .stk
def modV : MV → MV → M MV
  | .int a, .int b => if 0 < b then .ret (.int (a % b)) else .stk
  | _, _ => .stk
def powV : MV → MV → M MV
  | .int a, .int b => if okPow a b then .ret (.int (a ^ b.toNat)) else .stk
  | _, _ => .stk
def binV : Bop → MV → MV → M MV
  | .add => addV | .sub => subV | .mul => mulV | .fdiv => fdivV | .mod => modV | .pow => powV
/-- items of a list or a tuple -/
def seqOf (h : MH) : MV → Option (List MV)
  | .tup xs => some xs
  | .ro xs => some xs
  | .ref l => match h[l]? with
    | some (.lst xs) => some xs
    | _ => none
  | _ => none
def isinV (v w : MV) : M Bool := fun h => match w with
  | .str t => match v with
    | .str s => .ok (!(Builtin.Str.occurrences t s 0 t.length 1).isEmpty) h
    | _ => .stuck
  | w => match reify h 60 v, reify h 60 w with
    | some d, some (.list ds) => if SeqAt.shaped d && SeqAt.shaped (.list ds) then .ok (ds.any fun z => PyData.eqv z d) h else .stuck
    | some d, some (.tuple ds) => if SeqAt.shaped d && SeqAt.shaped (.tuple ds) then .ok (ds.any fun z => PyData.eqv z d) h else .stuck
    | _, _ => .stuck
def ltV : MV → MV → M Bool
  | .int a, .int b => .ret (decide (a < b))
  | .str a, .str b => .ret (decide (a.cps.toList < b.cps.toList))
  | _, _ => .stk
def leV : MV → MV → M Bool
  | .int a, .int b => .ret (decide (a ≤ b))
  | .str a, .str b => .ret (!decide (b.cps.toList < a.cps.toList))
  | _, _ => .stk
def cmpV : Cop → MV → MV → M Bool
  | .eq, v, w => eqV v w
  | .ne, v, w => (eqV v w).bnd fun b => .ret (!b)
  | .lt, v, w => ltV v w
  | .le, v, w => leV v w
  | .gt, v, w => ltV w v
  | .ge, v, w => leV w v
  | .isin, v, w => isinV v w
  | .notin, v, w => (isinV v w).bnd fun b => .ret (!b)
def truV (v : MV) : M Bool := fun h => match v with
  | .non => .ok false h
  | .bl b => .ok b h
  | .int i => .ok (i != 0) h
  | .str s => if fits s.length then .ok (s.length != 0) h else .stuck
  | .tup xs => .ok (!xs.isEmpty) h
  | .ro xs => .ok (!xs.isEmpty) h
  | .ref l => match h[l]? with
    | some (.lst xs) => .ok (!xs.isEmpty) h
    | some (.dct _ kvs) => .ok (!kvs.isEmpty) h
    | _ => .stuck
def isiV (v : MV) (t : Ty) : M Bool := fun h => match v with
  | .non => .ok false h
  | .bl _ => .ok (match t with | .int => true | .bool => true | _ => false) h
  | .int _ => .ok (match t with | .int => true | _ => false) h
  | .str _ => .ok (match t with | .str => true | _ => false) h
  | .tup _ => .ok (match t with | .tuple => true | _ => false) h
  | .ro _ => .ok (match t with | .list => true | _ => false) h
  | .ref l => match h[l]? with
    | some (.lst _) => .ok (match t with | .list => true | _ => false) h
    | some (.dct _ _) => .ok (match t with | .dict => true | _ => false) h
    | _ => .stuck
def isKV (v k : MV) : M Bool := match v, k with
  | .non, .non => .ret true
  | .bl a, .bl b => .ret (a == b)
  | _, _ => .ret false
def idxV (v i : MV) : M MV := fun h => match i with
  | .int i => match v with
    | .str s => if fits s.length then (match L2.atI s.cps.toList i with | some c => .ok (.str ⟨#[c]⟩) h | none => .stuck) else .stuck
    | v => match (seqOf h v).bind fun xs => L2.atI xs i with
      | some x => .ok x h
      | none => .stuck
  | _ => .stuck
def cutM (xs : List MV) (lo hi : Option Int) : List MV := (xs.drop (HT.sIx xs.length 0 lo)).take (HT.sIx xs.length xs.length hi - HT.sIx xs.length 0 lo)
def slcV (v : MV) (lo hi : Option Int) : M MV := fun h => match v with
  | .tup xs => .ok (.tup (cutM xs lo hi)) h
  | .ro xs => M.alloc (.lst (cutM xs lo hi)) h
  | .ref l => match h[l]? with
    | some (.lst xs) => M.alloc (.lst (cutM xs lo hi)) h
    | _ => .stuck
  | _ => .stuck
def allBls : List MV → Option (List Bool)
  | [] => some []
  | .bl b :: r => (allBls r).map (b :: ·)
  | _ :: _ => none
def allInts : List MV → Option (List Int)
  | [] => some []
  | .int i :: r => (allInts r).map (i :: ·)
  | _ :: _ => none
def allStrs : List MV → Option (List Str)
  | [] => some []
  | .str s :: r => (allStrs r).map (s :: ·)
  | _ :: _ => none
def lstOf (v : MV) : M (List MV) := fun h => match v with
  | .ref l => match h[l]? with
    | some (.lst xs) => .ok xs h
    | _ => .stuck
  | _ => .stuck
def lenV (v : MV) : M MV := fun h => match v with
  | .str s => if fits s.length then .ok (.int s.length) h else .stuck
  | .tup xs => .ok (.int xs.length) h
  | .ro xs => .ok (.int xs.length) h
  | .ref l => match h[l]? with
    | some (.lst xs) => .ok (.int xs.length) h
    | some (.dct _ kvs) => .ok (.int kvs.length) h
    | _ => .stuck
  | _ => .stuck
def absV : List MV → M MV
  | [.int i] => .ret (.int (if i < 0 then -i else i))
  | _ => .stk
def maxV : List MV → M MV
  | [.int i, .int j] => .ret (.int (if j > i then j else i))
  | _ => .stk
def minV : List MV → M MV
  | [.int i, .int j] => .ret (.int (if j < i then j else i))
  | _ => .stk
def intV : List MV → M MV
  | [.int i] => .ret (.int i)
  | [.bl k] => .ret (.int (if k then 1 else 0))
  | _ => .stk
def len1V : List MV → M MV
  | [v] => lenV v
  | _ => .stk
def divmodV : List MV → M MV
  | [.int i, .int j] => if okDiv j then .ret (.tup [.int (i / j), .int (i % j)]) else .stk
  | _ => .stk
def allV : List MV → M MV
  | [v] => (lstOf v).bnd fun xs => (M.opt (allBls xs)).bnd fun bs => M.ret (.bl (bs.all id))
  | _ => .stk
def anyV : List MV → M MV
  | [v] => (lstOf v).bnd fun xs => (M.opt (allBls xs)).bnd fun bs => M.ret (.bl (bs.any id))
  | _ => .stk
def sumV : List MV → M MV
  | [v] => (lstOf v).bnd fun xs => (M.opt (allInts xs)).bnd fun is => M.ret (.int is.sum)
  | _ => .stk
def repr1V : List MV → M MV
  | [v] => reprV v
  | _ => .stk
def list1V (v : MV) : M MV := fun h => match seqOf h v with
  | some xs => M.alloc (.lst xs) h
  | none => .stuck
def tuple1V (v : MV) : M MV := fun h => match seqOf h v with
  | some xs => M.ret (.tup xs) h
  | none => .stuck
def listV : List MV → M MV
  | [v] => list1V v
  | _ => .stk
def tupleV : List MV → M MV
  | [v] => tuple1V v
  | _ => .stk
def biV : Bi → List MV → M MV
  | .abs => absV | .max => maxV | .min => minV | .int => intV | .len => len1V | .divmod => divmodV | .all => allV | .any => anyV | .sum => sumV | .repr => repr1V | .list => listV | .tuple => tupleV
  | .sorted => fun _ => .stk
def joined (a : Str) (ys : List Str) : Nat := (ys.map (·.length)).sum + ys.length * a.length
def appendV (o : MV) (vs : List MV) : M MV := match vs with
  | [v] => (match o with
    | .ref l => fun h => match h[l]? with
      | some (.lst xs) => if fitsL xs.length then .ok .non (h.set l (.lst (xs ++ [v]))) else .stuck
      | _ => .stuck
    | _ => .stk)
  | _ => .stk
def joinV (o : MV) (vs : List MV) : M MV := match vs with
  | [v] => (match o with
    | .str a => (lstOf v).bnd fun xs => (M.opt (allStrs xs)).bnd fun ys => (M.chk (fitsJ (joined a ys))).bnd fun _ => M.ret (.str (Txt.join a ys))
    | _ => .stk)
  | _ => .stk
def popV (o : MV) (vs : List MV) : M MV := match vs with
  | [] => (match o with
    | .ref l => fun h => match h[l]? with
      | some (.lst xs) => (match xs[xs.length - 1]? with
        | some y => .ok y (h.set l (.lst xs.dropLast))
        | none => .stuck)
      | _ => .stuck
    | _ => .stk)
  | _ => .stk
def popAtV (o : MV) (vs : List MV) : M MV := match vs with
  | [.int i] => (match o with
    | .ref l => fun h => match h[l]? with
      | some (.lst xs) => if small63 i then (match seqIndex? i xs.length with
        | some k => (match xs[k]? with
          | some y => .ok y (h.set l (.lst (xs.eraseIdx k)))
          | none => .stuck)
        | none => .stuck) else .stuck
      | _ => .stuck
    | _ => .stk)
  | _ => .stk
def mtV : Mt → MV → List MV → M MV
  | .append => appendV | .join => joinV | .pop => popV | .popAt => popAtV
/-- what a method's owner must be, ahead of the arguments -/
def chkL (l : Nat) : M Unit := fun h => match h[l]? with
  | some (.lst _) => .ok () h
  | _ => .stuck
def rcvV : Mt → MV → M Unit
  | .join, .str _ => .ret ()
  | .join, _ => .stk
  | _, .ref l => chkL l
  | _, _ => .stk
def setV (o i v : MV) : M Unit := fun h => match o, i with
  | .ref l, .int k => match h[l]? with
    | some (.lst xs) => match L2.ixN xs.length k with
      | some j => .ok () (h.set l (.lst (xs.set j v)))
      | none => .stuck
    | _ => .stuck
  | _, _ => .stuck

def negV (x : MV) : M MV := match x with
  | .int i => .ret (.int (-i))
  | _ => .stk
def notV (x : MV) : M MV := match x with
  | .bl k => .ret (.bl (!k))
  | _ => .stk
def bopV (d : Bool) (r : M MV) (x : MV) : M MV := match x with
  | .bl k => if k == d then r else .ret (.bl k)
  | _ => .stk
def intO (x : MV) : M (Option Int) := match x with
  | .int i => .ret (some i)
  | _ => .stk
def isisV (x : MV) (ts : List Ty) : M Bool := match ts with
  | [t] => isiV x t
  | [t, u] => (isiV x t).bnd fun k => (isiV x u).bnd fun j => .ret (k || j)
  | _ => .stk
def tupV (xs : List MV) : M MV := if fits xs.length then .ret (.tup xs) else .stk
def lstV (xs : List MV) : M MV := if fits xs.length then M.alloc (.lst xs) else .stk
def dctV (xs : List MV) : M MV := match xs with
  | [] => M.alloc (.dct true [])
  | [.str k, v] => M.alloc (.dct true [(.str k, v)])
  | _ => .stk
def pick {α : Type} (xs : List α) : List Nat → Option (List α)
  | [] => some []
  | i :: r => match xs[i]?, pick xs r with
    | some x, some ys => some (x :: ys)
    | _, _ => none

/-! ### terms -/
mutual
inductive E where
  | var (i : Nat)
  | lit (v : MV)
  | glo (x : Str) (v : MV)
  | tup (es : EL)
  | lst (es : EL)
  | dct (es : EL)
  | bin (o : Bop) (a b : E)
  | neg (a : E)
  | cmp (o : Cop) (a b : E)
  | chain (o p : Cop) (a b c : E)
  | isK (ng : Bool) (a : E) (v : MV)
  | bop (isAnd : Bool) (es : EL)
  | not (a : E)
  | ife (t a b : E)
  | call (f : Nat) (es : EL)
  | callk (f : Nat) (es kes : EL) (arr : List Nat)
  | bi (b : Bi) (es : EL)
  | isi (a : E) (ts : List Ty)
  | mth (m : Mt) (o : E) (es : EL)
  | idx (a b : E)
  | slc (a : E) (lo hi : EO)
  | lc (e : E) (t : Tg) (it : Ir) (cs : EO) (own : List Nat)
inductive EL where
  | nil
  | cons (e : E) (r : EL)
inductive EO where
  | no
  | so (e : E)
inductive Tg where
  | nm (i : Nat)
  | tp (ts : TgL)
  | sb (o i : E)
inductive TgL where
  | nil
  | cons (t : Tg) (r : TgL)
inductive Ir where
  | vl (e : E)
  | rg1 (a : E)
  | rg2 (a b : E)
end
mutual
inductive S where
  | asg (t : Tg) (e : E)
  | par (i j : Nat) (a b : E)
  | ex (e : E)
  | ret (e : E)
  | retN
  | ifs (c : E) (a b : SL)
  | fors (t : Tg) (it : Ir) (b : SL)
  | whl (c : E) (b : SL)
  | pas
inductive SL where
  | nil
  | cons (s : S) (r : SL)
end

abbrev Env := List (Option MV)
/-- what is walked: a list by its place, or fixed items -/
inductive Itv where
  | il (l : Nat)
  | vs (xs : List MV)
/-- the i-th item: none is stuck, some none the end -/
def nxt (h : MH) (it : Itv) (i : Nat) : Option (Option MV) := match it with
  | .il l => match h[l]? with
    | some (.lst xs) => some xs[i]?
    | _ => none
  | .vs xs => some xs[i]?
def rangeItems (lo hi : Int) : List MV := (List.range (hi - lo).toNat).map fun (i : Nat) => MV.int (lo + (i : Int))
def itV (x : MV) : M Itv := match x with
  | .ref l => (chkL l).bnd fun _ => .ret (.il l)
  | .tup xs => .ret (.vs xs)
  | .ro xs => .ret (.vs xs)
  | .str s => .ret (.vs (s.cps.toList.map fun c => MV.str ⟨#[c]⟩))
  | _ => .stk
def rg1V (x : MV) : M Itv := match x with
  | .int n => if smallR n then .ret (.vs (rangeItems 0 n)) else .stk
  | _ => .stk
def rg2V (x y : MV) : M Itv := match x, y with
  | .int m, .int n => if smallR m && smallR n then .ret (.vs (rangeItems m n)) else .stk
  | _, _ => .stk
def wipeE (ρ : Env) : List Nat → Env
  | [] => ρ
  | v :: vs => (wipeE ρ vs).set v none
inductive Fl where
  | nx | rt (v : MV) | bk | ct

section
variable (F : Nat → List MV → M MV) (W : Nat)
def lcStep (fg : MV → Env → M Env) (ft : Env → M Bool) (fe : Env → M MV) (ρ : Env) (x : MV) : M (Option MV) := (fg x ρ).bnd fun ρ' => (ft ρ').bnd fun k => if k then (fe ρ').bnd fun y => .ret (some y) else .ret none
/-- the loop of a comprehension -/
def lcLoop (step : MV → M (Option MV)) (it : Itv) : Nat → Nat → List MV → M (List MV)
  | 0, _, _ => .stk
  | w + 1, i, acc => fun h => match nxt h it i with
    | none => .stuck
    | some none => .ok acc h
    | some (some x) => ((step x).bnd fun o => match o with
      | some y => if fitsL acc.length then lcLoop step it w (i + 1) (acc ++ [y]) else .stk
      | none => lcLoop step it w (i + 1) acc) h
mutual
def evE : E → Env → M MV
  | .var i, ρ => match ρ[i]? with
    | some (some v) => .ret v
    | _ => .stk
  | .lit v, _ => .ret v
  | .glo _ v, _ => .ret v
  | .tup es, ρ => (evEL es ρ).bnd tupV
  | .lst es, ρ => (evEL es ρ).bnd lstV
  | .dct es, ρ => (evEL es ρ).bnd dctV
  | .bin o a b, ρ => (evE a ρ).bnd fun x => (evE b ρ).bnd fun y => binV o x y
  | .neg a, ρ => (evE a ρ).bnd negV
  | .cmp o a b, ρ => (evE a ρ).bnd fun x => (evE b ρ).bnd fun y => (cmpV o x y).bnd fun k => .ret (.bl k)
  | .chain o p a b c, ρ => (evE a ρ).bnd fun x => (evE b ρ).bnd fun y => (cmpV o x y).bnd fun k =>
    if k then (evE c ρ).bnd fun z => (cmpV p y z).bnd fun k => .ret (.bl k) else .ret (.bl false)
  | .isK ng a v, ρ => (evE a ρ).bnd fun x => (isKV x v).bnd fun k => .ret (.bl (if ng then !k else k))
  | .bop d es, ρ => evB d es ρ
  | .not a, ρ => (evE a ρ).bnd notV
  | .ife t a b, ρ => (evT t ρ).bnd fun k => if k then evE a ρ else evE b ρ
  | .call f es, ρ => (evEL es ρ).bnd fun xs => F f xs
  | .callk f es kes arr, ρ => (evEL es ρ).bnd fun xs => (evEL kes ρ).bnd fun ys =>
    (M.opt (pick (xs ++ ys) arr)).bnd fun zs => F f zs
  | .bi b es, ρ => (evEL es ρ).bnd fun xs => biV b xs
  | .isi a ts, ρ => (evE a ρ).bnd fun x => (isisV x ts).bnd fun k => .ret (.bl k)
  | .mth m o es, ρ => (evE o ρ).bnd fun x => (rcvV m x).bnd fun _ => (evEL es ρ).bnd fun xs => mtV m x xs
  | .idx a b, ρ => (evE a ρ).bnd fun x => (evE b ρ).bnd fun y => idxV x y
  | .slc a lo hi, ρ => (evE a ρ).bnd fun x => (evO lo ρ).bnd fun l => (evO hi ρ).bnd fun u => slcV x l u
  | .lc e t it cs own, ρ => (evIt it ρ).bnd fun J => (lcLoop (lcStep (asgT t) (evC cs) (evE e) (wipeE ρ own)) J W 0 []).bnd fun ys => M.alloc (.lst ys)
def evEL : EL → Env → M (List MV)
  | .nil, _ => .ret []
  | .cons e r, ρ => (evE e ρ).bnd fun x => (evEL r ρ).bnd fun xs => .ret (x :: xs)
/-- and, or, as values -/
def evB (d : Bool) : EL → Env → M MV
  | .nil, _ => .stk
  | .cons e .nil, ρ => evE e ρ
  | .cons e r, ρ => (evE e ρ).bnd fun x => bopV d (evB d r ρ) x
/-- a slice's end -/
def evO : EO → Env → M (Option Int)
  | .no, _ => .ret none
  | .so e, ρ => (evE e ρ).bnd intO
/-- a comprehension's test -/
def evC : EO → Env → M Bool
  | .no, _ => .ret true
  | .so e, ρ => evT e ρ
/-- a test -/
def evT : E → Env → M Bool
  | .bop d es, ρ => evBT d es ρ
  | .not a, ρ => (evT a ρ).bnd fun k => .ret (!k)
  | .var i, ρ => (match ρ[i]? with
    | some (some v) => M.ret v
    | _ => M.stk).bnd truV
  | .cmp o a b, ρ => (evE a ρ).bnd fun x => (evE b ρ).bnd fun y => cmpV o x y
  | .chain o p a b c, ρ => (evE a ρ).bnd fun x => (evE b ρ).bnd fun y => (cmpV o x y).bnd fun k =>
    if k then (evE c ρ).bnd fun z => cmpV p y z else .ret false
  | .isK ng a v, ρ => (evE a ρ).bnd fun x => (isKV x v).bnd fun k => .ret (if ng then !k else k)
  | .call f es, ρ => (evEL es ρ).bnd fun xs => (F f xs).bnd truV
  | .bi b es, ρ => (evEL es ρ).bnd fun xs => (biV b xs).bnd truV
  | .isi a ts, ρ => (evE a ρ).bnd fun x => isisV x ts
  | .idx a b, ρ => (evE a ρ).bnd fun x => (evE b ρ).bnd fun y => (idxV x y).bnd truV
  | _, _ => .stk
def evBT (d : Bool) : EL → Env → M Bool
  | .nil, _ => .stk
  | .cons e .nil, ρ => evT e ρ
  | .cons e r, ρ => (evT e ρ).bnd fun k => if k == d then evBT d r ρ else .ret k
def asgT : Tg → MV → Env → M Env
  | .nm i, v, ρ => .ret (ρ.set i (some v))
  | .tp ts, v, ρ => match v with
    | .tup xs => asgL ts xs ρ
    | _ => .stk
  | .sb o i, v, ρ => (evE o ρ).bnd fun x => (evE i ρ).bnd fun y => (setV x y v).bnd fun _ => .ret ρ
def asgL : TgL → List MV → Env → M Env
  | .nil, [], ρ => .ret ρ
  | .cons t r, x :: xs, ρ => (asgT t x ρ).bnd fun ρ' => asgL r xs ρ'
  | _, _, _ => .stk
def evIt : Ir → Env → M Itv
  | .vl e, ρ => (evE e ρ).bnd itV
  | .rg1 a, ρ => (evE a ρ).bnd rg1V
  | .rg2 a b, ρ => (evE a ρ).bnd fun x => (evE b ρ).bnd fun y => rg2V x y
end
def forLoop (asg : MV → Env → M Env) (body : Env → M (Env × Fl)) (it : Itv) : Nat → Nat → Env → M (Env × Fl)
  | 0, _, _ => .stk
  | w + 1, i, ρ => fun h => match nxt h it i with
    | none => .stuck
    | some none => .ok (ρ, .nx) h
    | some (some x) => ((asg x ρ).bnd fun ρ' => (body ρ').bnd fun p => match p.2 with
      | .nx => forLoop asg body it w (i + 1) p.1
      | .ct => forLoop asg body it w (i + 1) p.1
      | .bk => .ret (p.1, .nx)
      | .rt v => .ret (p.1, .rt v)) h
def whlLoop (test : Env → M Bool) (body : Env → M (Env × Fl)) : Nat → Env → M (Env × Fl)
  | 0, _ => .stk
  | w + 1, ρ => (test ρ).bnd fun k => if k then (body ρ).bnd fun p => match p.2 with
      | .nx => whlLoop test body w p.1
      | .ct => whlLoop test body w p.1
      | .bk => .ret (p.1, .nx)
      | .rt v => .ret (p.1, .rt v)
    else .ret (ρ, .nx)
mutual
def evS : S → Env → M (Env × Fl)
  | .asg t e, ρ => (evE F W e ρ).bnd fun x => (asgT F W t x ρ).bnd fun ρ' => .ret (ρ', .nx)
  | .par i j a b, ρ => (evE F W a ρ).bnd fun x => (evE F W b ρ).bnd fun y => .ret ((ρ.set i (some x)).set j (some y), .nx)
  | .ex e, ρ => (evE F W e ρ).bnd fun _ => .ret (ρ, .nx)
  | .ret e, ρ => (evE F W e ρ).bnd fun x => .ret (ρ, .rt x)
  | .retN, ρ => .ret (ρ, .rt .non)
  | .ifs c a b, ρ => (evT F W c ρ).bnd fun k => if k then evSL a ρ else evSL b ρ
  | .fors t it b, ρ => (evIt F W it ρ).bnd fun J => forLoop (asgT F W t) (evSL b) J W 0 ρ
  | .whl c b, ρ => whlLoop (evT F W c) (evSL b) W ρ
  | .pas, ρ => .ret (ρ, .nx)
def evSL : SL → Env → M (Env × Fl)
  | .nil, ρ => .ret (ρ, .nx)
  | .cons s r, ρ => (evS s ρ).bnd fun p => match p.2 with
    | .nx => evSL r p.1
    | f => .ret (p.1, f)
end
end

/-- a def: how many parameters, how many slots, its body -/
structure Def where
  np : Nat
  ns : Nat
  body : SL
def callF (T : List Def) (W : Nat) : Nat → Nat → List MV → M MV
  | 0, _, _ => .stk
  | n + 1, f, args => match T[f]? with
    | some d => if args.length = d.np then
        (evSL (callF T W n) W d.body (args.map some ++ List.replicate (d.ns - d.np) none)).bnd fun p => match p.2 with
          | .nx => .ret .non
          | .rt v => .ret v
          | _ => .stk
      else .stk
    | none => .stk
end MP
/-! MP: how its states lie in the model's abstract heap; what a rule is worth. -/
namespace MP
open PySem PySem.Spec L2

/-- a list that is only read: frozen, or of the written part -/
def RoL (K : PySem.W.Frag) (H : Hp) (a : Addr) (xs : List V) : Prop :=
  (∃ o, H a = some (.frz o (.lst xs))) ∨
    ∃ (o : Obj) (its : Array Value) (n : Nat), K.lookup a = some o ∧ o.cls = .type "list" ∧ o.dict = none ∧ o.data = .seq its n ∧ its.size ≤ sizeLine ∧ Vals xs its.toList
theorem RoL.sq {K : PySem.W.Frag} {H : Hp} {a : Addr} {xs : List V} (h : RoL K H a xs) : SqL K H a xs := by
  rcases h with h | h
  · exact .inl (.inr h)
  · exact .inr h
mutual
def VR (K : PySem.W.Frag) (m : List Addr) (H : Hp) : MV → V → Prop
  | .non, v => v = .non
  | .bl b, v => v = .bl b
  | .int i, v => v = .int i
  | .str s, v => v = .str s
  | .ref l, v => ∃ a, m[l]? = some a ∧ v = .ref a
  | .tup xs, v => ∃ a vs, v = .ref a ∧ SqT K H a vs ∧ VRs K m H xs vs
  | .ro xs, v => ∃ a vs, v = .ref a ∧ RoL K H a vs ∧ VRs K m H xs vs
def VRs (K : PySem.W.Frag) (m : List Addr) (H : Hp) : List MV → List V → Prop
  | [], vs => vs = []
  | x :: xs, vs => ∃ v r, vs = v :: r ∧ VR K m H x v ∧ VRs K m H xs r
end
/-- keys of a dict: ints and texts -/
def keyM : MV → Option Key
  | .int i => some (.inl i)
  | .str s => some (.inr s)
  | _ => none
def KR (K : PySem.W.Frag) (m : List Addr) (H : Hp) : List (MV × MV) → List (Key × V) → Prop
  | [], ks => ks = []
  | p :: r, ks => ∃ k v t, ks = (k, v) :: t ∧ keyM p.1 = some k ∧ VR K m H p.2 v ∧ KR K m H r t
/-- an object at its address -/
def ObR (K : PySem.W.Frag) (m : List Addr) (H : Hp) (a : Addr) : MO → Prop
  | .lst xs => ∃ vs, H a = some (.lst vs) ∧ VRs K m H xs vs
  | .dct true kvs => ∃ ks, H a = some (.dK ks) ∧ KR K m H kvs ks
  | .dct false _ => False
  | .ins _ _ => False
structure Sim (K : PySem.W.Frag) (m : List Addr) (h : MH) (H : Hp) : Prop where
  len : m.length = h.length
  nd : m.Nodup
  ob : ∀ (l : Nat) (a : Addr) (o : MO), m[l]? = some a → h[l]? = some o → ObR K m H a o
structure Mon (K : PySem.W.Frag) (m : List Addr) (H : Hp) (m' : List Addr) (H' : Hp) : Prop where
  pre : m <+: m'
  tup : ∀ a vs, SqT K H a vs → SqT K H' a vs
  ro : ∀ a vs, RoL K H a vs → RoL K H' a vs
structure Post (K : PySem.W.Frag) (m : List Addr) (H : Hp) (m' : List Addr) (H' : Hp) : Prop where
  pre : m <+: m'
  tup : ∀ a vs, SqT K H a vs → SqT K H' a vs
  ro : ∀ a vs, RoL K H a vs → RoL K H' a vs
  out : ∀ a o, a ∉ m → H a = some o → H' a = some o
  new : ∀ a, a ∈ m' → a ∉ m → H a = none
section
variable {K : PySem.W.Frag} {m m' m'' : List Addr} {H H' H'' : Hp}
theorem Post.refl : Post K m H m H := ⟨List.prefix_refl _, fun _ _ h => h, fun _ _ h => h, fun _ _ _ h => h, fun _ h n => absurd h n⟩
theorem Post.mon (P : Post K m H m' H') : Mon K m H m' H' := ⟨P.pre, P.tup, P.ro⟩
theorem Mon.get (P : Mon K m H m' H') {l : Nat} {a : Addr} (h : m[l]? = some a) : m'[l]? = some a := by
  obtain ⟨t, rfl⟩ := P.pre
  have hl := (List.getElem?_eq_some_iff.mp h).1
  rw [List.getElem?_append_left hl]; exact h
theorem Post.get (P : Post K m H m' H') {l : Nat} {a : Addr} (h : m[l]? = some a) : m'[l]? = some a := by
  obtain ⟨t, rfl⟩ := P.pre
  have hl := (List.getElem?_eq_some_iff.mp h).1
  rw [List.getElem?_append_left hl]; exact h
theorem Post.mem (P : Post K m H m' H') {a : Addr} (h : a ∈ m) : a ∈ m' := P.pre.subset h
theorem Post.trans (P : Post K m H m' H') (Q : Post K m' H' m'' H'') : Post K m H m'' H'' := by
  refine ⟨P.pre.trans Q.pre, fun a vs h => Q.tup a vs (P.tup a vs h), fun a vs h => Q.ro a vs (P.ro a vs h), fun a o n h => ?_, fun a h n => ?_⟩
  · refine Q.out a o (fun z => ?_) (P.out a o n h)
    have := P.new a z n
    rw [h] at this; cases this
  · cases e : H a with
    | none => rfl
    | some o =>
      by_cases z : a ∈ m'
      · have := P.new a z n; rw [e] at this; cases this
      · have h1 := P.out a o n e
        have h2 := Q.new a h z
        rw [h1] at h2; cases h2
mutual
theorem VR.mn (P : Mon K m H m' H') : ∀ {x : MV} {v : V}, VR K m H x v → VR K m' H' x v
  | .non, _, h => by unfold VR at h ⊢; exact h
  | .bl _, _, h => by unfold VR at h ⊢; exact h
  | .int _, _, h => by unfold VR at h ⊢; exact h
  | .str _, _, h => by unfold VR at h ⊢; exact h
  | .ref _, _, h => by
    unfold VR at h ⊢
    obtain ⟨a, e, q⟩ := h
    exact ⟨a, P.get e, q⟩
  | .tup _, _, h => by
    unfold VR at h ⊢
    obtain ⟨a, vs, e, q, r⟩ := h
    exact ⟨a, vs, e, P.tup _ _ q, VRs.mn P r⟩
  | .ro _, _, h => by
    unfold VR at h ⊢
    obtain ⟨a, vs, e, q, r⟩ := h
    exact ⟨a, vs, e, P.ro _ _ q, VRs.mn P r⟩
theorem VRs.mn (P : Mon K m H m' H') : ∀ {xs : List MV} {vs : List V}, VRs K m H xs vs → VRs K m' H' xs vs
  | [], _, h => by unfold VRs at h ⊢; exact h
  | _ :: _, _, h => by
    unfold VRs at h ⊢
    obtain ⟨v, r, e, q, t⟩ := h
    exact ⟨v, r, e, VR.mn P q, VRs.mn P t⟩
end
theorem VR.mono (P : Post K m H m' H') {x : MV} {v : V} (h : VR K m H x v) : VR K m' H' x v := h.mn P.mon
theorem VRs.mono (P : Post K m H m' H') {x : List MV} {v : List V} (h : VRs K m H x v) : VRs K m' H' x v := h.mn P.mon
theorem KR.mn (P : Mon K m H m' H') : ∀ {xs : List (MV × MV)} {ks : List (Key × V)}, KR K m H xs ks → KR K m' H' xs ks
  | [], _, h => h
  | _ :: _, _, h => by
    obtain ⟨k, v, t, e, q, r, u⟩ := h
    exact ⟨k, v, t, e, q, r.mn P, KR.mn P u⟩
theorem KR.mono (P : Post K m H m' H') {xs : List (MV × MV)} {ks : List (Key × V)} (h : KR K m H xs ks) : KR K m' H' xs ks := h.mn P.mon
theorem VRs.length : ∀ {xs : List MV} {vs : List V}, VRs K m H xs vs → xs.length = vs.length
  | [], _, h => by unfold VRs at h; rw [h]; rfl
  | _ :: _, _, h => by
    unfold VRs at h
    obtain ⟨v, r, e, _, t⟩ := h
    rw [e, List.length_cons, List.length_cons, VRs.length t]
theorem VRs.get : ∀ {xs : List MV} {vs : List V} {i : Nat} {x : MV}, VRs K m H xs vs → xs[i]? = some x → ∃ v, vs[i]? = some v ∧ VR K m H x v
  | [], _, _, _, _, e => by simp at e
  | _ :: _, _, 0, _, h, e => by
    unfold VRs at h
    obtain ⟨v, r, rfl, q, _⟩ := h
    simp at e; subst e
    exact ⟨v, rfl, q⟩
  | _ :: _, _, i + 1, _, h, e => by
    unfold VRs at h
    obtain ⟨v, r, rfl, _, t⟩ := h
    simp at e
    obtain ⟨w, a, b⟩ := VRs.get t e
    exact ⟨w, by simpa using a, b⟩
theorem VRs.none_of {xs : List MV} {vs : List V} {i : Nat} (h : VRs K m H xs vs) (e : xs[i]? = none) : vs[i]? = none := by
  have := h.length
  rw [List.getElem?_eq_none_iff] at e ⊢; omega
theorem VRs.append : ∀ {xs ys : List MV} {vs ws : List V}, VRs K m H xs vs → VRs K m H ys ws → VRs K m H (xs ++ ys) (vs ++ ws)
  | [], _, _, _, h, k => by unfold VRs at h; subst h; exact k
  | _ :: _, _, _, _, h, k => by
    unfold VRs at h
    obtain ⟨v, r, rfl, q, t⟩ := h
    show VRs K m H (_ :: (_ ++ _)) (v :: (r ++ _))
    unfold VRs
    exact ⟨v, _, rfl, q, VRs.append t k⟩
theorem VRs.one {x : MV} {v : V} (h : VR K m H x v) : VRs K m H [x] [v] := by
  unfold VRs
  exact ⟨v, [], rfl, h, by unfold VRs; rfl⟩
theorem VRs.take : ∀ {xs : List MV} {vs : List V} (n : Nat), VRs K m H xs vs → VRs K m H (xs.take n) (vs.take n)
  | _, _, 0, _ => by simp [VRs]
  | [], _, n + 1, h => by unfold VRs at h; subst h; simp [VRs]
  | _ :: _, _, n + 1, h => by
    unfold VRs at h
    obtain ⟨v, r, rfl, q, t⟩ := h
    rw [List.take_succ_cons, List.take_succ_cons]
    unfold VRs
    exact ⟨v, _, rfl, q, VRs.take n t⟩
theorem VRs.drop : ∀ {xs : List MV} {vs : List V} (n : Nat), VRs K m H xs vs → VRs K m H (xs.drop n) (vs.drop n)
  | _, _, 0, h => h
  | [], _, n + 1, h => by unfold VRs at h; subst h; simp [VRs]
  | _ :: _, _, n + 1, h => by
    unfold VRs at h
    obtain ⟨v, r, rfl, q, t⟩ := h
    rw [List.drop_succ_cons, List.drop_succ_cons]
    exact VRs.drop n t
theorem VRs.set {x : MV} {v : V} (q : VR K m H x v) : ∀ {xs : List MV} {vs : List V} (i : Nat), VRs K m H xs vs → VRs K m H (xs.set i x) (vs.set i v)
  | [], _, i, h => by unfold VRs at h; subst h; simp [VRs]
  | _ :: _, _, 0, h => by
    unfold VRs at h
    obtain ⟨w, r, rfl, _, t⟩ := h
    show VRs K m H (x :: _) (v :: r)
    unfold VRs
    exact ⟨v, r, rfl, q, t⟩
  | _ :: _, _, i + 1, h => by
    unfold VRs at h
    obtain ⟨w, r, rfl, p, t⟩ := h
    show VRs K m H (_ :: _) (w :: r.set i v)
    unfold VRs
    exact ⟨w, _, rfl, p, VRs.set q i t⟩
theorem VRs.dropLast {xs : List MV} {vs : List V} (h : VRs K m H xs vs) : VRs K m H xs.dropLast vs.dropLast := by
  rw [List.dropLast_eq_take, List.dropLast_eq_take, h.length]
  exact h.take _
theorem VRs.erase : ∀ {xs : List MV} {vs : List V} (i : Nat), VRs K m H xs vs → VRs K m H (xs.eraseIdx i) (vs.eraseIdx i)
  | [], _, i, h => by unfold VRs at h; subst h; simp [VRs]
  | _ :: _, _, 0, h => by
    unfold VRs at h
    obtain ⟨w, r, rfl, _, t⟩ := h
    exact t
  | _ :: _, _, i + 1, h => by
    unfold VRs at h
    obtain ⟨w, r, rfl, p, t⟩ := h
    show VRs K m H (_ :: _) (w :: r.eraseIdx i)
    unfold VRs
    exact ⟨w, _, rfl, p, VRs.erase i t⟩
theorem VRs.rep {xs : List MV} {vs : List V} (h : VRs K m H xs vs) : ∀ k : Nat, VRs K m H (List.replicate k xs).flatten (List.replicate k vs).flatten
  | 0 => by simp [VRs]
  | k + 1 => by
    rw [List.replicate_succ, List.replicate_succ, List.flatten_cons, List.flatten_cons]
    exact h.append (VRs.rep h k)
theorem VRs.cut {xs : List MV} {vs : List V} (h : VRs K m H xs vs) (lo hi : Option Int) : VRs K m H (cutM xs lo hi) (cutV vs lo hi) := by
  unfold cutM cutV
  rw [h.length]
  exact (h.drop _).take _
theorem KR.length : ∀ {xs : List (MV × MV)} {ks : List (Key × V)}, KR K m H xs ks → xs.length = ks.length
  | [], _, h => by rw [show _ = [] from h]; rfl
  | _ :: _, _, h => by
    obtain ⟨k, v, t, e, _, _, u⟩ := h
    rw [e, List.length_cons, List.length_cons, KR.length u]
theorem ObR.mn (P : Mon K m H m' H') {a : Addr} {o : MO} (h : ObR K m H a o) (hk : ∀ u, H a = some u → H' a = some u) : ObR K m' H' a o := by
  cases o with
  | lst xs =>
    obtain ⟨vs, e, r⟩ := h
    exact ⟨vs, hk _ e, r.mn P⟩
  | dct w kvs =>
    cases w with
    | true =>
      obtain ⟨ks, e, r⟩ := h
      exact ⟨ks, hk _ e, r.mn P⟩
    | false => exact h
  | ins _ _ => exact h
theorem ObR.mono (P : Post K m H m' H') {a : Addr} {o : MO} (h : ObR K m H a o) (hk : ∀ u, H a = some u → H' a = some u) : ObR K m' H' a o := h.mn P.mon hk
end

/-! ### a new object, a written one -/
section
variable {K : PySem.W.Frag} {m : List Addr} {h : MH} {H : Hp}
theorem sqT_upd {a p : Addr} {vs : List V} {o : HO} (q : SqT K H a vs) (hp : H p = none ∨ (∃ xs, H p = some (.lst xs)) ∨ ∃ ks, H p = some (.dK ks)) : SqT K (upd H p o) a vs := by
  rcases q with (e | ⟨u, e⟩) | e
  · refine .inl (.inl ?_)
    rw [upd_ne]; exact e
    rintro rfl
    rcases hp with z | ⟨_, z⟩ | ⟨_, z⟩ <;> rw [e] at z <;> cases z
  · refine .inl (.inr ⟨u, ?_⟩)
    rw [upd_ne]; exact e
    rintro rfl
    rcases hp with z | ⟨_, z⟩ | ⟨_, z⟩ <;> rw [e] at z <;> cases z
  · exact .inr e
theorem roL_upd {a p : Addr} {vs : List V} {o : HO} (q : RoL K H a vs) (hp : H p = none ∨ (∃ xs, H p = some (.lst xs)) ∨ ∃ ks, H p = some (.dK ks)) : RoL K (upd H p o) a vs := by
  rcases q with ⟨u, e⟩ | e
  · refine .inl ⟨u, ?_⟩
    rw [upd_ne]; exact e
    rintro rfl
    rcases hp with z | ⟨_, z⟩ | ⟨_, z⟩ <;> rw [e] at z <;> cases z
  · exact .inr e
theorem ObR.there {a : Addr} {o : MO} (h : ObR K m H a o) : H a ≠ none := by
  cases o with
  | lst xs =>
    obtain ⟨vs, e, r⟩ := h
    rw [e]; simp
  | dct w kvs =>
    cases w with
    | true =>
      obtain ⟨ks, e, r⟩ := h
      rw [e]; simp
    | false => exact h.elim
  | ins _ _ => exact h.elim
theorem Sim.notIn (S : Sim K m h H) {p : Addr} (hp : H p = none) : p ∉ m := fun z => by
  obtain ⟨l, e⟩ := List.getElem?_of_mem z
  have hl : l < h.length := by rw [← S.len]; exact (List.getElem?_eq_some_iff.mp e).1
  exact (S.ob l p h[l] e (by simp [hl])).there hp
theorem Post.new_tuple (S : Sim K m h H) {p : Addr} {vs : List V} (hp : H p = none) : Post K m H m (upd H p (.tup vs)) :=
  ⟨List.prefix_refl _, fun _ _ q => sqT_upd q (.inl hp), fun _ _ q => roL_upd q (.inl hp), fun a o _ e => by rw [upd_ne (ne_of_none e hp)]; exact e, fun _ z n => absurd z n⟩
theorem Sim.new_tuple (S : Sim K m h H) {p : Addr} {vs : List V} (hp : H p = none) : Sim K m h (upd H p (.tup vs)) :=
  ⟨S.len, S.nd, fun l a o e1 e2 => (S.ob l a o e1 e2).mono (Post.new_tuple S hp) fun u e => by rw [upd_ne (ne_of_none e hp)]; exact e⟩
theorem Post.alloc {p : Addr} {o : HO} (hp : H p = none) : Post K m H (m ++ [p]) (upd H p o) :=
  ⟨List.prefix_append _ _, fun _ _ q => sqT_upd q (.inl hp), fun _ _ q => roL_upd q (.inl hp), fun a o _ e => by rw [upd_ne (ne_of_none e hp)]; exact e, fun a z n => by
    rcases List.mem_append.mp z with z | z
    · exact absurd z n
    · rw [List.mem_singleton.mp z]; exact hp⟩
theorem Sim.alloc (S : Sim K m h H) {p : Addr} {o : HO} {ob : MO} (hp : H p = none) (hr : ObR K (m ++ [p]) (upd H p o) p ob) : Sim K (m ++ [p]) (h ++ [ob]) (upd H p o) := by
  refine ⟨by simp [S.len], ?_, fun l a u e1 e2 => ?_⟩
  · rw [List.nodup_append]
    refine ⟨S.nd, by simp, fun x hx y hy => ?_⟩
    rw [List.mem_singleton] at hy; subst hy
    rintro rfl; exact S.notIn hp hx
  · by_cases hl : l < m.length
    · rw [List.getElem?_append_left hl] at e1
      rw [List.getElem?_append_left (by rw [← S.len]; exact hl)] at e2
      exact (S.ob l a u e1 e2).mono (Post.alloc hp) fun w e => by rw [upd_ne (ne_of_none e hp)]; exact e
    · have hl2 : l < (m ++ [p]).length := (List.getElem?_eq_some_iff.mp e1).1
      rw [List.length_append, List.length_singleton] at hl2
      have : l = m.length := by omega
      subst this
      rw [List.getElem?_append_right (Nat.le_refl _)] at e1
      rw [S.len, List.getElem?_append_right (Nat.le_refl _)] at e2
      simp at e1 e2
      subst e1 e2
      exact hr
theorem Post.write {l : Nat} {a : Addr} {o u : HO} (e : m[l]? = some a) (hu : H a = some u) (hl : (∃ xs, u = .lst xs) ∨ ∃ ks, u = .dK ks) : Post K m H m (upd H a o) :=
  have z : H a = none ∨ (∃ xs, H a = some (.lst xs)) ∨ ∃ ks, H a = some (.dK ks) := by
    rcases hl with ⟨xs, rfl⟩ | ⟨ks, rfl⟩
    · exact .inr (.inl ⟨_, hu⟩)
    · exact .inr (.inr ⟨_, hu⟩)
  ⟨List.prefix_refl _, fun _ _ q => sqT_upd q z, fun _ _ q => roL_upd q z, fun b w n e' => by
    rw [upd_ne]; exact e'
    rintro rfl; exact n (List.mem_of_getElem? e), fun _ z n => absurd z n⟩
theorem Sim.write (S : Sim K m h H) {l : Nat} {a : Addr} {o u : HO} {ob : MO} (e : m[l]? = some a) (hu : H a = some u) (hl : (∃ xs, u = .lst xs) ∨ ∃ ks, u = .dK ks) (hr : ObR K m (upd H a o) a ob) : Sim K m (h.set l ob) (upd H a o) := by
  refine ⟨by rw [List.length_set]; exact S.len, S.nd, fun l' a' w e1 e2 => ?_⟩
  by_cases hll : l' = l
  · subst hll
    rw [e] at e1; cases e1
    have hl2 : l' < h.length := by rw [← S.len]; exact (List.getElem?_eq_some_iff.mp e).1
    rw [List.getElem?_set_self hl2] at e2; cases e2
    exact hr
  · rw [List.getElem?_set_ne (Ne.symm hll)] at e2
    refine (S.ob l' a' w e1 e2).mono (Post.write e hu hl) fun v e' => ?_
    rw [upd_ne]; exact e'
    rintro rfl
    obtain ⟨h1, q1⟩ := List.getElem?_eq_some_iff.mp e
    obtain ⟨h2, q2⟩ := List.getElem?_eq_some_iff.mp e1
    exact hll ((List.getElem_inj S.nd).mp (q2.trans q1.symm))
end

section
variable {K : PySem.W.Frag} {m : List Addr} {h : MH} {H : Hp}
/-- a list that stands aside is written, is taken in -/
theorem Mon.aside {D : Addr} {vs : List V} {o : HO} (hD : H D = some (.lst vs)) : Mon K m H m (upd H D o) :=
  ⟨List.prefix_refl _, fun _ _ q => sqT_upd q (.inr (.inl ⟨_, hD⟩)), fun _ _ q => roL_upd q (.inr (.inl ⟨_, hD⟩))⟩
theorem Sim.aside (S : Sim K m h H) {D : Addr} {vs : List V} {o : HO} (hD : H D = some (.lst vs)) (hn : D ∉ m) : Sim K m h (upd H D o) :=
  ⟨S.len, S.nd, fun l a u e1 e2 => (S.ob l a u e1 e2).mn (Mon.aside hD) fun w e => by
    rw [upd_ne]; exact e
    rintro rfl
    exact hn (List.mem_of_getElem? e1)⟩
theorem Mon.adopt {D : Addr} : Mon K m H (m ++ [D]) H := ⟨List.prefix_append _ _, fun _ _ q => q, fun _ _ q => q⟩
theorem Sim.adopt (S : Sim K m h H) {D : Addr} {ob : MO} (hn : D ∉ m) (hr : ObR K (m ++ [D]) H D ob) : Sim K (m ++ [D]) (h ++ [ob]) H := by
  refine ⟨by simp [S.len], ?_, fun l a u e1 e2 => ?_⟩
  · rw [List.nodup_append]
    refine ⟨S.nd, by simp, fun x hx y hy => ?_⟩
    rw [List.mem_singleton] at hy; subst hy
    rintro rfl; exact hn hx
  · by_cases hl : l < m.length
    · rw [List.getElem?_append_left hl] at e1
      rw [List.getElem?_append_left (by rw [← S.len]; exact hl)] at e2
      exact (S.ob l a u e1 e2).mn Mon.adopt fun w e => e
    · have hl2 : l < (m ++ [D]).length := (List.getElem?_eq_some_iff.mp e1).1
      rw [List.length_append, List.length_singleton] at hl2
      have : l = m.length := by omega
      subst this
      rw [List.getElem?_append_right (Nat.le_refl _)] at e1
      rw [S.len, List.getElem?_append_right (Nat.le_refl _)] at e2
      simp at e1 e2
      subst e1 e2
      exact hr
end
/-! ### what is wanted of a result -/
section
variable {K : PySem.W.Frag} {α β γ δ : Type}
def WP (K : PySem.W.Frag) {α β : Type} (R : List Addr → Hp → α → β → Prop) (r : Res α) (m : List Addr) (H : Hp) (Q : β → Hp → Prop) : Prop := match r with
  | .ok a h' => ∀ m' H' b, Post K m H m' H' → Sim K m' h' H' → R m' H' a b → Q b H'
  | _ => False
abbrev rV (K : PySem.W.Frag) : List Addr → Hp → MV → V → Prop := fun m H x v => VR K m H x v
abbrev rL (K : PySem.W.Frag) : List Addr → Hp → List MV → List V → Prop := fun m H x v => VRs K m H x v
abbrev rId {α : Type} : List Addr → Hp → α → α → Prop := fun _ _ a b => a = b
theorem WP.mono {R : List Addr → Hp → α → β → Prop} {r : Res α} {m : List Addr} {H : Hp} {Q Q' : β → Hp → Prop} (h : WP K R r m H Q) (k : ∀ b H', Q b H' → Q' b H') : WP K R r m H Q' := by
  cases r with
  | ok a h' => exact fun m' H' b P S r => k _ _ (h m' H' b P S r)
  | exc _ _ => exact h
  | stuck => exact h
theorem WP.at {R : List Addr → Hp → α → β → Prop} {r : Res α} {m m1 : List Addr} {H H1 : Hp} {Q : β → Hp → Prop} (h : WP K R r m H Q) (P : Post K m H m1 H1) : WP K R r m1 H1 Q := by
  cases r with
  | ok a h' => exact fun m' H' b P' S r => h m' H' b (P.trans P') S r
  | exc _ _ => exact h
  | stuck => exact h
theorem WP.bind {Rx : List Addr → Hp → α → β → Prop} {R : List Addr → Hp → γ → δ → Prop} {x : M α} {f : α → M γ} {m : List Addr} {h0 : MH} {H : Hp} {Q : δ → Hp → Prop} (h : WP K R (M.bnd x f h0) m H Q) :
    WP K Rx (x h0) m H (fun b H1 => ∃ m1 h1 a, Post K m H m1 H1 ∧ Sim K m1 h1 H1 ∧ Rx m1 H1 a b ∧ WP K R (f a h1) m1 H1 Q) := by
  unfold M.bnd at h
  cases e : x h0 with
  | ok a h' =>
    rw [e] at h
    exact fun m' H' b P S r => ⟨m', h', a, P, S, r, WP.at h P⟩
  | exc _ _ => rw [e] at h; exact h
  | stuck => rw [e] at h; exact h
theorem WP.ret {R : List Addr → Hp → α → β → Prop} {a : α} {b : β} {m : List Addr} {h0 : MH} {H : Hp} {Q : β → Hp → Prop} (h : WP K R (M.ret a h0) m H Q) (S : Sim K m h0 H) (r : R m H a b) : Q b H := h m H b Post.refl S r
end
end MP
/-! MP: each operation of values is what the model does. -/
namespace MP
open PySem PySem.Spec PyProof.Rows L2

section
variable {K : PySem.W.Frag} {m : List Addr} {h : MH} {H : Hp} {Q : VK}
theorem vr_non : VR K m H .non .non := by unfold VR; rfl
theorem vr_bl (b : Bool) : VR K m H (.bl b) (.bl b) := by unfold VR; rfl
theorem vr_int (i : Int) : VR K m H (.int i) (.int i) := by unfold VR; rfl
theorem vr_str (s : Str) : VR K m H (.str s) (.str s) := by unfold VR; rfl
theorem vr_bl' {b : Bool} {v : V} (h : VR K m H (.bl b) v) : v = .bl b := by unfold VR at h; exact h
theorem vr_int' {b : Int} {v : V} (h : VR K m H (.int b) v) : v = .int b := by unfold VR at h; exact h
theorem vr_str' {b : Str} {v : V} (h : VR K m H (.str b) v) : v = .str b := by unfold VR at h; exact h
theorem vr_non' {v : V} (h : VR K m H .non v) : v = .non := by unfold VR at h; exact h
theorem vr_ref' {l : Nat} {v : V} (h : VR K m H (.ref l) v) : ∃ a, m[l]? = some a ∧ v = .ref a := by unfold VR at h; exact h
theorem vr_tup' {xs : List MV} {v : V} (h : VR K m H (.tup xs) v) : ∃ a vs, v = .ref a ∧ SqT K H a vs ∧ VRs K m H xs vs := by unfold VR at h; exact h
theorem vr_ro' {xs : List MV} {v : V} (h : VR K m H (.ro xs) v) : ∃ a vs, v = .ref a ∧ RoL K H a vs ∧ VRs K m H xs vs := by unfold VR at h; exact h
theorem vrs_nil' {v : List V} (h : VRs K m H [] v) : v = [] := by unfold VRs at h; exact h
theorem vrs_cons' {x : MV} {xs : List MV} {v : List V} (h : VRs K m H (x :: xs) v) : ∃ y r, v = y :: r ∧ VR K m H x y ∧ VRs K m H xs r := by unfold VRs at h; exact h
theorem vrs1 {x : MV} {v : List V} (h : VRs K m H [x] v) : ∃ y, v = [y] ∧ VR K m H x y := by
  obtain ⟨y, r, rfl, q, t⟩ := vrs_cons' h
  rw [vrs_nil' t]; exact ⟨y, rfl, q⟩
theorem vrs2 {x z : MV} {v : List V} (h : VRs K m H [x, z] v) : ∃ y w, v = [y, w] ∧ VR K m H x y ∧ VR K m H z w := by
  obtain ⟨y, r, rfl, q, t⟩ := vrs_cons' h
  obtain ⟨w, rfl, q'⟩ := vrs1 t
  exact ⟨y, w, rfl, q, q'⟩
theorem Sim.lst (S : Sim K m h H) {l : Nat} {a : Addr} {xs : List MV} (e : m[l]? = some a) (e2 : h[l]? = some (.lst xs)) : ∃ vs, H a = some (.lst vs) ∧ VRs K m H xs vs := S.ob l a _ e e2
theorem Sim.dct (S : Sim K m h H) {l : Nat} {a : Addr} {xs : List (MV × MV)} {w : Bool} (e : m[l]? = some a) (e2 : h[l]? = some (.dct w xs)) : ∃ vs, H a = some (.dK vs) ∧ KR K m H xs vs := by
  have := S.ob l a _ e e2
  cases w with
  | true => exact this
  | false => exact this.elim
/-- a new list -/
theorem wp_lst {xs : List MV} {vs : List V} (w : WP K (rV K) (M.alloc (.lst xs) h) m H Q) (S : Sim K m h H) (r : VRs K m H xs vs) : ∀ p, H p = none → Q (.ref p) (upd H p (.lst vs)) := fun p hp => by
  have P : Post K m H (m ++ [p]) (upd H p (.lst vs)) := Post.alloc hp
  refine w (m ++ [p]) _ (.ref p) P (S.alloc hp ⟨vs, upd_same, r.mono P⟩) ?_
  unfold rV VR
  exact ⟨p, by rw [← S.len]; simp, rfl⟩
theorem wp_dct0 (w : WP K (rV K) (M.alloc (.dct true []) h) m H Q) (S : Sim K m h H) : ∀ p, H p = none → Q (.ref p) (upd H p (.dK [])) := fun p hp => by
  have P : Post K m H (m ++ [p]) (upd H p (.dK [])) := Post.alloc hp
  refine w (m ++ [p]) _ (.ref p) P (S.alloc hp ⟨[], upd_same, rfl⟩) ?_
  unfold rV VR
  exact ⟨p, by rw [← S.len]; simp, rfl⟩
theorem wp_tup {xs : List MV} {vs : List V} (w : WP K (rV K) (M.ret (.tup xs) h) m H Q) (S : Sim K m h H) (r : VRs K m H xs vs) : ∀ p, H p = none → Q (.ref p) (upd H p (.tup vs)) := fun p hp => by
  have P : Post K m H m (upd H p (.tup vs)) := Post.new_tuple S hp
  refine w m _ (.ref p) P (Sim.new_tuple S hp) ?_
  unfold rV VR
  exact ⟨p, vs, rfl, .inl (.inl upd_same), r.mono P⟩
/-- a list written -/
theorem wp_put {α β : Type} {R : List Addr → Hp → α → β → Prop} {Q : β → Hp → Prop} {x : α} {y : β} {l : Nat} {a : Addr} {xs : List MV} {vs us : List V} (w : WP K R (.ok x (h.set l (.lst xs))) m H Q) (S : Sim K m h H) (e : m[l]? = some a) (hu : H a = some (.lst us)) (r : VRs K m H xs vs)
    (k : ∀ P : Post K m H m (upd H a (.lst vs)), R m (upd H a (.lst vs)) x y) : Q y (upd H a (.lst vs)) := by
  have P : Post K m H m (upd H a (.lst vs)) := Post.write e hu (.inl ⟨_, rfl⟩)
  exact w m _ y P (S.write e hu (.inl ⟨_, rfl⟩) ⟨vs, upd_same, r.mono P⟩) (k P)
end

/-! ### what a place's data read as -/
section
variable {X : Cx} {pins : List (Addr × Obj)} {σ : L2.St} {H : Hp} {s : Shared} {m : List Addr} {h : MH}
theorem mapO_some {α β : Type} {f : α → Option β} : ∀ {xs : List α} {ys : List β}, mapO f xs = some ys → xs.length = ys.length ∧ ∀ (i : Nat) (x : α), xs[i]? = some x → ∃ y, ys[i]? = some y ∧ f x = some y
  | [], ys, e => by
    unfold mapO at e
    cases e
    exact ⟨rfl, fun i x e => by simp at e⟩
  | x :: r, ys, e => by
    unfold mapO at e
    split at e
    · rename_i y ys' e1 e2
      cases e
      obtain ⟨l, k⟩ := mapO_some e2
      refine ⟨by simp [l], fun i z e => ?_⟩
      cases i with
      | zero =>
        simp at e; subst e
        exact ⟨y, rfl, e1⟩
      | succ i =>
        simp at e
        obtain ⟨w, a, b⟩ := k i z e
        exact ⟨w, by simpa using a, b⟩
    · cases e
/-- where sys.modules stands -/
def SmOk (X : Cx) : Prop := ∃ mm, X.base.Ns sysModules mm
theorem sm_tracked (I : Inv X pins σ H s) (sm : SmOk X) {a : Addr} {o : HO} (e : H a = some o) : a ≠ sysModules := by
  rintro rfl
  obtain ⟨mm, o', es, ep, h1, _⟩ := sm
  have := (I.bs _ _ h1).2
  rw [e] at this; cases this
theorem sm_ro (I : Inv X pins σ H s) (sm : SmOk X) {a : Addr} {vs : List V} (e : RoL X.K H a vs) : a ≠ sysModules := by
  rcases e with ⟨o, e⟩ | ⟨o, its, n, hk, hc, _, hd, _⟩
  · exact sm_tracked I sm e
  · rintro rfl
    obtain ⟨mm, o', es, ep, h1, h2, _⟩ := sm
    have h3 := I.mod.kin _ _ hk
    rw [h3] at h1; cases h1
    rw [hd] at h2; cases h2
theorem keys_read : ∀ {kvs : List (MV × MV)} {ks : List (Key × V)} {vs : List (Key × Value)} {es : List DictEntry} {n : Nat} {ds : List PyData} {h0 : Heap}, KR X.K m H kvs ks → KV ks vs → Pairs (mixKind X.prog X.w) es vs →
    mapO (reify h n) (kvs.map (·.1)) = some ds → ReadsAll h0 (es.map (·.key)) ds []
  | [], ks, vs, es, n, ds, h0, r, q, p, e => by
    rw [show ks = [] from r] at q
    cases q
    cases p
    cases e
    exact .nil
  | (x, y) :: r, ks, vs, es, n, ds, h0, hr, q, p, e => by
    obtain ⟨k, v, t, rfl, hk, hv, rr⟩ := hr
    cases q with
    | cons q1 q2 =>
      cases p with
      | cons p1 p2 p3 =>
        rename_i kv kvl en enl
        have e : mapO (reify h n) (x :: r.map (·.1)) = some ds := e
        unfold mapO at e
        split at e
        · rename_i d ds' e1 e2
          cases e
          have ih := keys_read (h0 := h0) rr q2 p3 e2
          have hd : Reads h0 en.key d [] := by
            have q1 : k = kv.1 ∧ RelV v kv.2 := q1
            have p1 : keyIs kv.1 en.key = true := p1
            rw [← q1.1] at p1
            rcases keyIs_shape p1 with ⟨i, tk, e3, e4⟩ | ⟨z, tk, e3, e4⟩
            · rw [e4]
              subst e3
              cases x with
              | int j =>
                cases hk
                have e1 : some (PyData.int i) = some d := by cases n <;> exact e1
                cases e1
                exact .int i tk
              | _ => cases hk
            · rw [e4]
              subst e3
              cases x with
              | str j =>
                cases hk
                have e1 : some (PyData.str z) = some d := by cases n <;> exact e1
                cases e1
                exact .str z tk
              | _ => cases hk
          exact ReadsAll.cons (as := []) (bs := []) hd ih
        · cases e
theorem vals_split : ∀ {kvs : List (MV × MV)} {ks : List (Key × V)} {vs : List (Key × Value)} {es : List DictEntry}, KR X.K m H kvs ks → KV ks vs → Pairs (mixKind X.prog X.w) es vs →
    ∃ ws, VRs X.K m H (kvs.map (·.2)) ws ∧ Vals ws (es.map (·.val))
  | [], ks, vs, es, r, q, p => by
    rw [show ks = [] from r] at q
    cases q
    cases p
    exact ⟨[], by simp [VRs], .nil⟩
  | (x, y) :: r, ks, vs, es, hr, q, p => by
    obtain ⟨k, v, t, rfl, hk, hv, rr⟩ := hr
    cases q with
    | cons q1 q2 =>
      cases p with
      | cons p1 p2 p3 =>
        rename_i kv kvl en enl
        obtain ⟨ws, a, b⟩ := vals_split rr q2 p3
        have q1 : k = kv.1 ∧ RelV v kv.2 := q1
        refine ⟨v :: ws, ?_, .cons (show L2.RelV v en.val by rw [p2]; exact q1.2) b⟩
        show VRs _ _ _ (y :: _) (v :: ws)
        unfold VRs
        exact ⟨v, ws, rfl, hv, a⟩
mutual
theorem reify_reads (I : Inv X pins σ H s) (sm : SmOk X) (S : Sim X.K m h H) : ∀ (n : Nat) (v : MV) (d : PyData) (x : V) (u : Value), reify h n v = some d → VR X.K m H v x → RelV x u → ∃ as, Reads s.heap u d as ∧ sysModules ∉ as
  | n, .non, d, x, u, e, r, q => by
    have e : some PyData.none = some d := by cases n <;> exact e
    cases e
    rw [vr_non' r] at q
    cases q
    exact ⟨_, .none, by simp⟩
  | n, .bl b, d, x, u, e, r, q => by
    have e : some (PyData.bool b) = some d := by cases n <;> exact e
    cases e
    rw [vr_bl' r] at q
    cases q
    exact ⟨_, .bool b, by simp⟩
  | n, .int b, d, x, u, e, r, q => by
    have e : some (PyData.int b) = some d := by cases n <;> exact e
    cases e
    rw [vr_int' r] at q
    obtain ⟨t, rfl⟩ := q
    exact ⟨_, .int b t, by simp⟩
  | n, .str b, d, x, u, e, r, q => by
    have e : some (PyData.str b) = some d := by cases n <;> exact e
    cases e
    rw [vr_str' r] at q
    obtain ⟨t, rfl⟩ := q
    exact ⟨_, .str b t, by simp⟩
  | 0, .tup _, _, _, _, e, _, _ => by cases e
  | 0, .ref _, _, _, _, e, _, _ => by cases e
  | 0, .ro _, _, _, _, e, _, _ => by cases e
  | n + 1, .tup xs, d, x, u, e, r, q => by
    have e : (mapO (reify h n) xs).map PyData.tuple = some d := e
    obtain ⟨ds, e1, rfl⟩ := Option.map_eq_some_iff.mp e
    obtain ⟨a, vs, rfl, hq, rr⟩ := vr_tup' r
    cases q
    obtain ⟨its, rv, ⟨o, ho, hc, k, hd⟩, _⟩ := I.tuple hq
    obtain ⟨as, hr, ns⟩ := reads_list I sm S n xs ds vs its e1 rr rv
    exact ⟨_, .tuple ho hc hd hr, ns⟩
  | n + 1, .ro xs, d, x, u, e, r, q => by
    have e : (mapO (reify h n) xs).map PyData.list = some d := e
    obtain ⟨ds, e1, rfl⟩ := Option.map_eq_some_iff.mp e
    obtain ⟨a, vs, rfl, hq, rr⟩ := vr_ro' r
    cases q
    obtain ⟨its, rv, ⟨o, k, ho, hc, _, hd⟩, _⟩ := I.list hq.sq
    obtain ⟨as, hr, ns⟩ := reads_list I sm S n xs ds vs its e1 rr rv
    exact ⟨_, .list ho hc hd hr, fun z => (List.mem_cons.mp z).elim (fun e => sm_ro I sm hq e.symm) ns⟩
  | n + 1, .ref l, d, x, u, e, r, q => by
    have e : (match h[l]? with
      | some (.lst xs) => (mapO (reify h n) xs).map PyData.list
      | some (.dct _ kvs) => match mapO (reify h n) (kvs.map (·.1)), mapO (reify h n) (kvs.map (·.2)) with
        | some ks, some vs => some (.dict (ks.zip vs))
        | _, _ => none
      | _ => none) = some d := e
    obtain ⟨a, ha, rfl⟩ := vr_ref' r
    cases q
    split at e
    · rename_i xs e2
      obtain ⟨ds, e1, rfl⟩ := Option.map_eq_some_iff.mp e
      obtain ⟨vs, hq, rr⟩ := S.lst ha e2
      obtain ⟨its, rv, ⟨o, k, ho, hc, _, hd⟩, _⟩ := I.list (SqL.of hq)
      obtain ⟨as, hr, ns⟩ := reads_list I sm S n xs ds vs its e1 rr rv
      exact ⟨_, .list ho hc hd hr, fun z => (List.mem_cons.mp z).elim (fun e => sm_tracked I sm hq e.symm) ns⟩
    · rename_i w kvs e2
      split at e
      · rename_i kd vd k1 k2
        cases e
        obtain ⟨ks, hq, rr⟩ := S.dct ha e2
        obtain ⟨hz, hS, vs, rk, o, es, ep, ho, hc, hd, _, hp, _⟩ := dk_of I.hok hq
        have r1 := keys_read (h0 := s.heap) rr rk hp k1
        obtain ⟨ws, w1, w2⟩ := vals_split rr rk hp
        obtain ⟨bs, r2, n2⟩ := reads_list I sm S n (kvs.map (·.2)) vd ws _ k2 w1 w2
        have l1 := (mapO_some k1).1
        have l2 := (mapO_some k2).1
        rw [List.length_map] at l1 l2
        have z1 : (kd.zip vd).map (·.1) = kd := by
          rw [List.map_fst_zip]; omega
        have z2 : (kd.zip vd).map (·.2) = vd := by
          rw [List.map_snd_zip]; omega
        refine ⟨_, Reads.dict (kvs := kd.zip vd) ho hc.1 hd (by rw [z1]; exact r1) (by rw [z2]; exact r2), fun z => ?_⟩
        rcases List.mem_cons.mp z with z | z
        · exact sm_tracked I sm hq z.symm
        · exact n2 (by simpa using z)
      · cases e
    · cases e
theorem reads_list (I : Inv X pins σ H s) (sm : SmOk X) (S : Sim X.K m h H) : ∀ (n : Nat) (xs : List MV) (ds : List PyData) (vs : List V) (us : List Value), mapO (reify h n) xs = some ds → VRs X.K m H xs vs → Vals vs us → ∃ as, ReadsAll s.heap us ds as ∧ sysModules ∉ as
  | n, [], ds, vs, us, e, r, q => by
    unfold mapO at e
    cases e
    rw [vrs_nil' r] at q
    cases q
    exact ⟨_, .nil, by simp⟩
  | n, x :: xs, ds, vs, us, e, r, q => by
    unfold mapO at e
    split at e
    · rename_i y ys' e1 e2
      cases e
      obtain ⟨v, r', rfl, rv, rr⟩ := vrs_cons' r
      cases q with
      | cons q1 q2 =>
        obtain ⟨as, h1, n1⟩ := reify_reads I sm S n x y _ _ e1 rv q1
        obtain ⟨bs, h2, n2⟩ := reads_list I sm S n xs ys' _ _ e2 rr q2
        exact ⟨_, .cons h1 h2, fun z => (List.mem_append.mp z).elim n1 n2⟩
    · cases e
end
end
end MP
/-! MP: operators, comparisons, truth, items, slices. -/
namespace MP
open PySem PySem.Spec PyProof.Rows L2

theorem fits_le {n : Nat} (h : fits n = true) : n ≤ sizeLine := by
  unfold fits at h
  exact of_decide_eq_true h
theorem fitsL_lt {n : Nat} (h : fitsL n = true) : n < sizeLine := by
  unfold fitsL at h
  exact of_decide_eq_true h
theorem fitsJ_le {n : Nat} (h : fitsJ n = true) : n ≤ 16777216 := by
  unfold fitsJ at h
  exact of_decide_eq_true h
theorem small63_of {n : Int} (h : small63 n = true) : -(2 ^ 63) ≤ n ∧ n < 2 ^ 63 := by
  unfold small63 at h
  exact of_decide_eq_true h
theorem small64_of {n : Int} (h : small64 n = true) : -(2 ^ 64) < n ∧ n < 2 ^ 64 := by
  unfold small64 at h
  exact of_decide_eq_true h
theorem smallR_of {n : Int} (h : smallR n = true) : -(2 ^ 62) ≤ n ∧ n < 2 ^ 62 := by
  unfold smallR at h
  exact of_decide_eq_true h
theorem okDiv_of {i j : Int} (h : okDiv j = true) : CDiv i j := by
  unfold okDiv at h
  have q : 0 < j ∧ j < 1073741824 := of_decide_eq_true h
  exact q
theorem okPow_of {a b : Int} (h : okPow a b = true) : CPow a b := by
  unfold okPow at h
  have q : 0 ≤ b ∧ b ≤ 1000000 ∧ a.natAbs < 2 ^ 64 := of_decide_eq_true h
  exact q
theorem addV_int (a b : Int) : addV (.int a) (.int b) = .ret (.int (a + b)) := rfl
theorem addV_str (a b : Str) : addV (.str a) (.str b) = if fits (a.length + b.length) then .ret (.str (a ++ b)) else .stk := rfl
theorem addV_tup (xs ys : List MV) : addV (.tup xs) (.tup ys) = if fits (xs.length + ys.length) then .ret (.tup (xs ++ ys)) else .stk := rfl
theorem addV_ref (a b : Nat) (h : MH) : addV (.ref a) (.ref b) h = match h[a]?, h[b]? with
    | some (.lst xs), some (.lst ys) => if fits (xs.length + ys.length) then M.alloc (.lst (xs ++ ys)) h else .stuck
    | _, _ => .stuck := rfl
theorem mulV_int (a b : Int) : mulV (.int a) (.int b) = if small64 a || small64 b then .ret (.int (a * b)) else .stk := rfl
theorem mulV_ref (a : Nat) (k : Int) (h : MH) : mulV (.ref a) (.int k) h = match h[a]? with
    | some (.lst xs) => if small63 k && fits (xs.length * k.toNat) then M.alloc (.lst (List.replicate k.toNat xs).flatten) h else .stuck
    | _ => .stuck := rfl
theorem fdivV_int (a b : Int) : fdivV (.int a) (.int b) = if okDiv b then .ret (.int (a / b)) else .stk := rfl
theorem modV_int (a b : Int) : modV (.int a) (.int b) = if 0 < b then .ret (.int (a % b)) else .stk := rfl
theorem powV_int (a b : Int) : powV (.int a) (.int b) = if okPow a b then .ret (.int (a ^ b.toNat)) else .stk := rfl
def rB (K : PySem.W.Frag) (g : MV → MV → M MV) : R2 := fun x y H Q => ∃ m h v w, Sim K m h H ∧ VR K m H v x ∧ VR K m H w y ∧ WP K (rV K) (g v w h) m H Q
def rC (K : PySem.W.Frag) (g : MV → MV → M Bool) : R2 := fun x y H Q => ∃ m h v w, Sim K m h H ∧ VR K m H v x ∧ VR K m H w y ∧ WP K rId (g v w h) m H (fun b H' => Q (.bl b) H')
def rF (K : PySem.W.Frag) (g : List MV → M MV) : List V → Hp → VK → Prop := fun xs H Q => ∃ m h vs, Sim K m h H ∧ VRs K m H vs xs ∧ WP K (rV K) (g vs h) m H Q
def rM (K : PySem.W.Frag) (g : MV → List MV → M MV) : V → List V → Hp → VK → Prop := fun x xs H Q => ∃ m h v vs, Sim K m h H ∧ VR K m H v x ∧ VRs K m H vs xs ∧ WP K (rV K) (g v vs h) m H Q
def aBop : Bop → Operator
  | .add => .Add | .sub => .Sub | .mul => .Mult | .fdiv => .FloorDiv | .mod => .Mod | .pow => .Pow
def aCop : Cop → CmpOp
  | .eq => .Eq | .ne => .NotEq | .lt => .Lt | .le => .LtE | .gt => .Gt | .ge => .GtE | .isin => .In | .notin => .NotIn
section
variable {X : Cx}
theorem op_addM : OpR X (binaryOp .Add) (rB X.K addV) := by
  intro pins s σ H x y v u Q I rx ry ⟨m, h, a, b, S, ra, rb, w⟩
  cases a with
  | int i =>
    cases b with
    | int j =>
      rw [vr_int' ra] at rx
      rw [vr_int' rb] at ry
      exact op_add pins s σ H _ _ v u Q I rx ry ⟨i, j, rfl, rfl, w.ret S (vr_int _)⟩
    | _ => exact False.elim w
  | str i =>
    cases b with
    | str j =>
      rw [vr_str' ra] at rx
      rw [vr_str' rb] at ry
      rw [addV_str] at w
      split at w
      · rename_i hl
        exact op_add_str pins s σ H _ _ v u Q I rx ry ⟨i, j, rfl, rfl, fits_le hl, w.ret S (vr_str _)⟩
      · exact False.elim w
    | _ => exact False.elim w
  | ref i =>
    cases b with
    | ref j =>
      obtain ⟨a, ha, rfl⟩ := vr_ref' ra
      obtain ⟨b, hb, rfl⟩ := vr_ref' rb
      rw [addV_ref] at w
      split at w
      · rename_i xs ys e1 e2
        split at w
        · rename_i hl
          obtain ⟨vs, h1, r1⟩ := S.lst ha e1
          obtain ⟨ws, h2, r2⟩ := S.lst hb e2
          exact op_cat pins s σ H _ _ v u Q I rx ry ⟨a, b, vs, ws, rfl, rfl, h1, h2, by rw [← r1.length, ← r2.length]; exact fits_le hl, wp_lst w S (r1.append r2)⟩
        · exact False.elim w
      · exact False.elim w
    | _ => exact False.elim w
  | tup xs =>
    cases b with
    | tup ys =>
      obtain ⟨a, vs, rfl, h1, r1⟩ := vr_tup' ra
      obtain ⟨b, ws, rfl, h2, r2⟩ := vr_tup' rb
      rw [addV_tup] at w
      split at w
      · rename_i hl
        have z1 := r1.length
        have z2 := r2.length
        refine op_catA pins s σ H _ _ v u Q I rx ry ⟨a, b, vs, ws, rfl, rfl, h1, h2, by rw [← r1.length, ← r2.length]; exact fits_le hl, fun e => ?_, fun _ e => ?_, fun _ _ => wp_tup w S (r1.append r2)⟩
        · subst e
          have e : xs = [] := List.length_eq_zero_iff.mp (by simpa using z1)
          subst e
          refine w.ret S ?_
          show VR _ _ _ _ _
          unfold VR
          exact ⟨b, ws, rfl, h2, r2⟩
        · subst e
          have e : ys = [] := List.length_eq_zero_iff.mp (by simpa using z2)
          subst e
          rw [List.append_nil] at w
          refine w.ret S ?_
          show VR _ _ _ _ _
          unfold VR
          exact ⟨a, vs, rfl, h1, r1⟩
      · exact False.elim w
    | _ => exact False.elim w
  | _ => exact False.elim w
theorem op_subM : OpR X (binaryOp .Sub) (rB X.K subV) := by
  intro pins s σ H x y v u Q I rx ry ⟨m, h, a, b, S, ra, rb, w⟩
  cases a with
  | int i =>
    cases b with
    | int j =>
      rw [vr_int' ra] at rx
      rw [vr_int' rb] at ry
      exact op_sub pins s σ H _ _ v u Q I rx ry ⟨i, j, rfl, rfl, w.ret S (vr_int _)⟩
    | _ => exact False.elim w
  | _ => exact False.elim w
theorem op_mulM : OpR X (binaryOp .Mult) (rB X.K mulV) := by
  intro pins s σ H x y v u Q I rx ry ⟨m, h, a, b, S, ra, rb, w⟩
  cases a with
  | int i =>
    cases b with
    | int j =>
      rw [vr_int' ra] at rx
      rw [vr_int' rb] at ry
      rw [mulV_int] at w
      split at w
      · rename_i hl
        have hl : CMul i j := (Bool.or_eq_true_iff.mp hl).imp small64_of small64_of
        exact op_mul pins s σ H _ _ v u Q I rx ry ⟨i, j, rfl, rfl, hl, w.ret S (vr_int _)⟩
      · exact False.elim w
    | _ => exact False.elim w
  | ref i =>
    cases b with
    | int j =>
      obtain ⟨a, ha, rfl⟩ := vr_ref' ra
      rw [vr_int' rb] at ry
      rw [mulV_ref] at w
      split at w
      · rename_i xs e1
        split at w
        · rename_i hl
          obtain ⟨vs, h1, r1⟩ := S.lst ha e1
          exact op_rep pins s σ H _ _ v u Q I rx ry ⟨a, j, vs, rfl, rfl, h1, (small63_of (Bool.and_eq_true_iff.mp hl).1).1, (small63_of (Bool.and_eq_true_iff.mp hl).1).2, by rw [← r1.length]; exact fits_le (Bool.and_eq_true_iff.mp hl).2, wp_lst w S (r1.rep _)⟩
        · exact False.elim w
      · exact False.elim w
    | _ => exact False.elim w
  | _ => exact False.elim w
theorem op_fdivM : OpR X (binaryOp .FloorDiv) (rB X.K fdivV) := by
  intro pins s σ H x y v u Q I rx ry ⟨m, h, a, b, S, ra, rb, w⟩
  cases a with
  | int i =>
    cases b with
    | int j =>
      rw [vr_int' ra] at rx
      rw [vr_int' rb] at ry
      rw [fdivV_int] at w
      split at w
      · rename_i hl
        exact op_fdiv pins s σ H _ _ v u Q I rx ry ⟨i, j, rfl, rfl, okDiv_of hl, w.ret S (vr_int _)⟩
      · exact False.elim w
    | _ => exact False.elim w
  | _ => exact False.elim w
theorem op_modM : OpR X (binaryOp .Mod) (rB X.K modV) := by
  intro pins s σ H x y v u Q I rx ry ⟨m, h, a, b, S, ra, rb, w⟩
  cases a with
  | int i =>
    cases b with
    | int j =>
      rw [vr_int' ra] at rx
      rw [vr_int' rb] at ry
      rw [modV_int] at w
      split at w
      · rename_i hl
        exact op_mod pins s σ H _ _ v u Q I rx ry ⟨i, j, rfl, rfl, hl, w.ret S (vr_int _)⟩
      · exact False.elim w
    | _ => exact False.elim w
  | _ => exact False.elim w
theorem op_powM : OpR X (binaryOp .Pow) (rB X.K powV) := by
  intro pins s σ H x y v u Q I rx ry ⟨m, h, a, b, S, ra, rb, w⟩
  cases a with
  | int i =>
    cases b with
    | int j =>
      rw [vr_int' ra] at rx
      rw [vr_int' rb] at ry
      rw [powV_int] at w
      split at w
      · rename_i hl
        exact op_pow pins s σ H _ _ v u Q I rx ry ⟨i, j, rfl, rfl, okPow_of hl, w.ret S (vr_int _)⟩
      · exact False.elim w
    | _ => exact False.elim w
  | _ => exact False.elim w
theorem op_binM (o : Bop) : OpR X (binaryOp (aBop o)) (rB X.K (binV o)) := by
  cases o with
  | add => exact op_addM
  | sub => exact op_subM
  | mul => exact op_mulM
  | fdiv => exact op_fdivM
  | mod => exact op_modM
  | pow => exact op_powM

/-! ### comparisons -/
theorem wp_eq {K : PySem.W.Frag} {m : List Addr} {h : MH} {H : Hp} {v w : MV} {Q : Bool → Hp → Prop} (S : Sim K m h H) (k : WP K rId (eqD v w h) m H Q) :
    ∃ d e, reify h 60 v = some d ∧ reify h 60 w = some e ∧ SeqAt.shaped d = true ∧ SeqAt.shaped e = true ∧ Q (PyData.eqv d e) H := by
  unfold eqD at k
  split at k
  · rename_i d e e1 e2
    split at k
    · rename_i hs
      have hs := Bool.and_eq_true_iff.mp hs
      exact ⟨d, e, e1, e2, hs.1, hs.2, k m H _ Post.refl S rfl⟩
    · exact False.elim k
  · exact False.elim k
theorem dec_strM {a b : Str} : decide (V.str a = V.str b) = (a == b) := by
  rw [Bool.eq_iff_iff]
  simp
theorem op_eqM (sm : SmOk X) (hu : X.A.units + 65 < cLine) : OpR X (compareOp .Eq) (rC X.K eqV) := by
  intro pins s σ H x y v u Q I rx ry ⟨m, h, a, b, S, ra, rb, w⟩
  unfold eqV at w
  split at w
  · rename_i z t
    rw [vr_str' ra] at rx
    rw [vr_str' rb] at ry
    exact op_eq pins s σ H _ _ v u Q I rx ry ⟨rfl, by rw [dec_strM]; exact w.ret S rfl⟩
  · obtain ⟨d, e, e1, e2, s1, s2, q⟩ := wp_eq S w
    obtain ⟨as, r1, _⟩ := reify_reads I sm S 60 _ d x v e1 ra rx
    obtain ⟨bs, r2, _⟩ := reify_reads I sm S 60 _ e y u e2 rb ry
    exact SeqAt.compareEq_shaped r1 r2 s1 s2 (by omega) ⟨.bl _, H, I, rfl, q⟩
theorem op_neM (sm : SmOk X) (hu : X.A.units + 65 < cLine) : OpR X (compareOp .NotEq) (rC X.K fun v w => (eqV v w).bnd fun b => .ret (!b)) := by
  intro pins s σ H x y v u Q I rx ry ⟨m, h, a, b, S, ra, rb, w⟩
  have w := WP.bind (Rx := rId) w
  unfold eqV at w
  split at w
  · rename_i z t
    rw [vr_str' ra] at rx
    rw [vr_str' rb] at ry
    obtain ⟨m1, h1, k, P, S1, e, q⟩ := w.ret S rfl
    cases e
    exact op_ne pins s σ H _ _ v u Q I rx ry ⟨rfl, by rw [dec_strM]; exact q.ret S1 rfl⟩
  · obtain ⟨d, e, e1, e2, s1, s2, m1, h1, k, P, S1, rfl, q⟩ := wp_eq S w
    obtain ⟨as, r1, _⟩ := reify_reads I sm S 60 _ d x v e1 ra rx
    obtain ⟨bs, r2, _⟩ := reify_reads I sm S 60 _ e y u e2 rb ry
    exact SeqAt.compareNe_shaped r1 r2 s1 s2 (by omega) ⟨.bl _, H, I, rfl, q.ret S1 rfl⟩
theorem wp_in {K : PySem.W.Frag} {m : List Addr} {h : MH} {H : Hp} {v w : MV} {Q : Bool → Hp → Prop} (S : Sim K m h H) (k : WP K rId (isinV v w h) m H Q) :
    (∃ t s, w = .str t ∧ v = .str s ∧ Q (!(Builtin.Str.occurrences t s 0 t.length 1).isEmpty) H) ∨
    ∃ d ds, reify h 60 v = some d ∧ (reify h 60 w = some (.list ds) ∧ SeqAt.shaped (.list ds) = true ∨ reify h 60 w = some (.tuple ds) ∧ SeqAt.shaped (.list ds) = true) ∧ SeqAt.shaped d = true ∧ Q (ds.any fun z => PyData.eqv z d) H := by
  unfold isinV at k
  cases w with
  | str t =>
    cases v with
    | str s => exact .inl ⟨t, s, rfl, rfl, k m H _ Post.refl S rfl⟩
    | _ => exact False.elim k
  | _ =>
    refine .inr ?_
    simp only at k
    split at k
    · rename_i d ds e1 e2
      split at k
      · rename_i hs
        have hs := Bool.and_eq_true_iff.mp hs
        exact ⟨d, ds, e1, .inl ⟨e2, hs.2⟩, hs.1, k m H _ Post.refl S rfl⟩
      · exact False.elim k
    · rename_i d ds e1 e2
      split at k
      · rename_i hs
        have hs := Bool.and_eq_true_iff.mp hs
        exact ⟨d, ds, e1, .inr ⟨e2, hs.2⟩, hs.1, k m H _ Post.refl S rfl⟩
      · exact False.elim k
    · exact False.elim k
theorem shaped_tup {ds : List PyData} (h : SeqAt.shaped (.list ds) = true) : SeqAt.shaped (.tuple ds) = true := by
  have h1 := Bool.and_eq_true_iff.mp h
  refine Bool.and_eq_true_iff.mpr ⟨?_, ?_⟩
  · simpa [PyData.canLay0] using h1.1
  · simpa [PyData.depth] using h1.2
theorem op_inM (sm : SmOk X) (hu : X.A.units + 65 < cLine) : OpR X (compareOp .In) (rC X.K isinV) := by
  intro pins s σ H x y v u Q I rx ry ⟨m, h, a, b, S, ra, rb, w⟩
  rcases wp_in S w with ⟨t, z, rfl, rfl, q⟩ | ⟨d, ds, e1, e2, s1, q⟩
  · rw [vr_str' ra] at rx
    rw [vr_str' rb] at ry
    exact op_in_str pins s σ H _ _ v u Q I rx ry ⟨z, t, rfl, rfl, q⟩
  · obtain ⟨as, r1, _⟩ := reify_reads I sm S 60 a d x v e1 ra rx
    rcases e2 with ⟨e2, s2⟩ | ⟨e2, s2⟩
    · obtain ⟨bs, r2, _⟩ := reify_reads I sm S 60 b _ y u e2 rb ry
      exact SeqAt.in_list_reads r2 r1 (SeqAt.canLay_of_shaped s2) (SeqAt.canLay_of_shaped s1) (room_in_shaped s1 hu) ⟨.bl _, H, I, rfl, q⟩
    · obtain ⟨bs, r2, _⟩ := reify_reads I sm S 60 b _ y u e2 rb ry
      exact SeqAt.in_tuple_reads r2 r1 (SeqAt.canLay_of_shaped (shaped_tup s2)) (SeqAt.canLay_of_shaped s1) (room_in_shaped s1 hu) ⟨.bl _, H, I, rfl, q⟩
theorem op_notinM (sm : SmOk X) (hu : X.A.units + 65 < cLine) : OpR X (compareOp .NotIn) (rC X.K fun v w => (isinV v w).bnd fun b => .ret (!b)) := by
  intro pins s σ H x y v u Q I rx ry ⟨m, h, a, b, S, ra, rb, w⟩
  have w := WP.bind (Rx := rId) w
  rcases wp_in S w with ⟨t, z, rfl, rfl, m1, h1, k, P, S1, rfl, q⟩ | ⟨d, ds, e1, e2, s1, m1, h1, k, P, S1, rfl, q⟩
  · rw [vr_str' ra] at rx
    rw [vr_str' rb] at ry
    exact L2.op_notIn_str pins s σ H _ _ v u Q I rx ry ⟨z, t, rfl, rfl, q.ret S1 rfl⟩
  · obtain ⟨as, r1, _⟩ := reify_reads I sm S 60 a d x v e1 ra rx
    rcases e2 with ⟨e2, s2⟩ | ⟨e2, s2⟩
    · obtain ⟨bs, r2, _⟩ := reify_reads I sm S 60 b _ y u e2 rb ry
      exact SeqAt.notIn_list_reads r2 r1 (SeqAt.canLay_of_shaped s2) (SeqAt.canLay_of_shaped s1) (room_in_shaped s1 hu) ⟨.bl _, H, I, rfl, q.ret S1 rfl⟩
    · obtain ⟨bs, r2, _⟩ := reify_reads I sm S 60 b _ y u e2 rb ry
      exact SeqAt.notIn_tuple_reads r2 r1 (SeqAt.canLay_of_shaped (shaped_tup s2)) (SeqAt.canLay_of_shaped s1) (room_in_shaped s1 hu) ⟨.bl _, H, I, rfl, q.ret S1 rfl⟩
theorem op_ltM : OpR X (compareOp .Lt) (rC X.K ltV) := by
  intro pins s σ H x y v u Q I rx ry ⟨m, h, a, b, S, ra, rb, w⟩
  cases a with
  | int i =>
    cases b with
    | int j =>
      rw [vr_int' ra] at rx
      rw [vr_int' rb] at ry
      exact op_lt pins s σ H _ _ v u Q I rx ry ⟨i, j, rfl, rfl, w.ret S rfl⟩
    | _ => exact False.elim w
  | str i =>
    cases b with
    | str j =>
      rw [vr_str' ra] at rx
      rw [vr_str' rb] at ry
      exact op_lt_str pins s σ H _ _ v u Q I rx ry ⟨i, j, rfl, rfl, w.ret S rfl⟩
    | _ => exact False.elim w
  | _ => exact False.elim w
theorem op_leM : OpR X (compareOp .LtE) (rC X.K leV) := by
  intro pins s σ H x y v u Q I rx ry ⟨m, h, a, b, S, ra, rb, w⟩
  cases a with
  | int i =>
    cases b with
    | int j =>
      rw [vr_int' ra] at rx
      rw [vr_int' rb] at ry
      exact op_le pins s σ H _ _ v u Q I rx ry ⟨i, j, rfl, rfl, w.ret S rfl⟩
    | _ => exact False.elim w
  | str i =>
    cases b with
    | str j =>
      rw [vr_str' ra] at rx
      rw [vr_str' rb] at ry
      exact op_le_str pins s σ H _ _ v u Q I rx ry ⟨i, j, rfl, rfl, w.ret S rfl⟩
    | _ => exact False.elim w
  | _ => exact False.elim w
theorem op_gtM : OpR X (compareOp .Gt) (rC X.K fun v w => ltV w v) := by
  intro pins s σ H x y v u Q I rx ry ⟨m, h, a, b, S, ra, rb, w⟩
  cases b with
  | int j =>
    cases a with
    | int i =>
      rw [vr_int' ra] at rx
      rw [vr_int' rb] at ry
      exact op_gt pins s σ H _ _ v u Q I rx ry ⟨i, j, rfl, rfl, w.ret S rfl⟩
    | _ => exact False.elim w
  | str j =>
    cases a with
    | str i =>
      rw [vr_str' ra] at rx
      rw [vr_str' rb] at ry
      exact op_gt_str pins s σ H _ _ v u Q I rx ry ⟨i, j, rfl, rfl, w.ret S rfl⟩
    | _ => exact False.elim w
  | _ => cases a <;> exact False.elim w
theorem op_geM : OpR X (compareOp .GtE) (rC X.K fun v w => leV w v) := by
  intro pins s σ H x y v u Q I rx ry ⟨m, h, a, b, S, ra, rb, w⟩
  cases b with
  | int j =>
    cases a with
    | int i =>
      rw [vr_int' ra] at rx
      rw [vr_int' rb] at ry
      exact op_ge pins s σ H _ _ v u Q I rx ry ⟨i, j, rfl, rfl, w.ret S rfl⟩
    | _ => exact False.elim w
  | str j =>
    cases a with
    | str i =>
      rw [vr_str' ra] at rx
      rw [vr_str' rb] at ry
      exact op_ge_str pins s σ H _ _ v u Q I rx ry ⟨i, j, rfl, rfl, w.ret S rfl⟩
    | _ => exact False.elim w
  | _ => cases a <;> exact False.elim w
theorem op_cmpM (sm : SmOk X) (hu : X.A.units + 65 < cLine) (o : Cop) : OpR X (compareOp (aCop o)) (rC X.K (cmpV o)) := by
  cases o with
  | eq => exact op_eqM sm hu
  | ne => exact op_neM sm hu
  | lt => exact op_ltM
  | le => exact op_leM
  | gt => exact op_gtM
  | ge => exact op_geM
  | isin => exact op_inM sm hu
  | notin => exact op_notinM sm hu

/-! ### truth, kinds, items, slices -/
theorem tru_of {K : PySem.W.Frag} {m : List Addr} {h : MH} {H : Hp} {v : MV} {x : V} {Q : Bool → Hp → Prop} (S : Sim K m h H) (r : VR K m H v x) (w : WP K rId (truV v h) m H Q) : ∃ k, TruV K x H k ∧ Q k H := by
  cases v with
  | non =>
    rw [vr_non' r]
    exact ⟨false, rfl, w m H _ Post.refl S rfl⟩
  | bl b =>
    rw [vr_bl' r]
    exact ⟨b, rfl, w m H _ Post.refl S rfl⟩
  | int b =>
    rw [vr_int' r]
    exact ⟨_, rfl, w m H _ Post.refl S rfl⟩
  | str z =>
    rw [vr_str' r]
    simp only [truV] at w
    split at w
    · rename_i hl
      refine ⟨_, ⟨fits_le hl, rfl⟩, ?_⟩
      have e : ((z.length : Int) != 0) = (z.length != 0) := by
        rw [Bool.eq_iff_iff]
        simp
      rw [e]
      exact w m H _ Post.refl S rfl
    · exact False.elim w
  | tup xs =>
    obtain ⟨a, vs, rfl, h1, r1⟩ := vr_tup' r
    refine ⟨!vs.isEmpty, .inr (.inl ⟨vs, h1, rfl⟩), ?_⟩
    have e : vs.isEmpty = xs.isEmpty := by
      have := r1.length
      cases xs <;> cases vs <;> simp_all
    rw [e]
    exact w m H _ Post.refl S rfl
  | ro xs =>
    obtain ⟨a, vs, rfl, h1, r1⟩ := vr_ro' r
    refine ⟨!vs.isEmpty, .inl ⟨vs, h1.sq, rfl⟩, ?_⟩
    have e : vs.isEmpty = xs.isEmpty := by
      have := r1.length
      cases xs <;> cases vs <;> simp_all
    rw [e]
    exact w m H _ Post.refl S rfl
  | ref l =>
    obtain ⟨a, ha, rfl⟩ := vr_ref' r
    simp only [truV] at w
    split at w
    · rename_i xs e1
      obtain ⟨vs, h1, r1⟩ := S.lst ha e1
      refine ⟨!vs.isEmpty, .inl ⟨vs, SqL.of h1, rfl⟩, ?_⟩
      have e : vs.isEmpty = xs.isEmpty := by
        have := r1.length
        cases xs <;> cases vs <;> simp_all
      rw [e]
      exact w m H _ Post.refl S rfl
    · rename_i xs e1
      obtain ⟨vs, h1, r1⟩ := S.dct ha e1
      refine ⟨!vs.isEmpty, .inr (.inr ⟨vs, h1, rfl⟩), ?_⟩
      have e : vs.isEmpty = xs.isEmpty := by
        have := r1.length
        cases xs <;> cases vs <;> simp_all
      rw [e]
      exact w m H _ Post.refl S rfl
    · exact False.elim w
def tyS : Ty → String
  | .int => "int" | .str => "str" | .bool => "bool" | .list => "list" | .tuple => "tuple" | .dict => "dict"
theorem atI_some {α : Type} {xs : List α} {i : Int} {x : α} (h : atI xs i = some x) : ∃ j, ixN xs.length i = some j ∧ xs[j]? = some x := by
  unfold atI at h
  obtain ⟨j, a, b⟩ := Option.bind_eq_some_iff.mp h
  exact ⟨j, a, b⟩
theorem atI_vr {K : PySem.W.Frag} {m : List Addr} {H : Hp} {xs : List MV} {vs : List V} {i : Int} {x : MV} (r : VRs K m H xs vs) (h : atI xs i = some x) : ∃ v, atI vs i = some v ∧ VR K m H x v := by
  obtain ⟨j, a, b⟩ := atI_some h
  obtain ⟨v, e, q⟩ := r.get b
  exact ⟨v, by unfold atI; rw [← r.length, a]; exact e, q⟩
theorem ix_M : IxR X (rB X.K idxV) := by
  intro value slice pins s σ H x y v u Q I rx ry ⟨m, h, a, b, S, ra, rb, w⟩ hs
  cases b with
  | int i =>
    rw [vr_int' rb] at ry
    cases a with
    | str z =>
      rw [vr_str' ra] at rx
      simp only [idxV] at w
      split at w
      · rename_i hl
        split at w
        · rename_i c e
          exact ix_str value slice pins s σ H _ _ v u Q I rx ry ⟨z, i, c, rfl, rfl, fits_le hl, e, w m H _ Post.refl S (vr_str _)⟩ hs
        · exact False.elim w
      · exact False.elim w
    | tup xs =>
      obtain ⟨a, vs, rfl, h1, r1⟩ := vr_tup' ra
      simp only [idxV, seqOf, Option.bind_some] at w
      split at w
      · rename_i z e
        obtain ⟨vz, e2, q⟩ := atI_vr r1 e
        exact ix_tup value slice pins s σ H _ _ v u Q I rx ry ⟨a, vs, i, vz, rfl, rfl, h1, e2, w m H _ Post.refl S q⟩ hs
      · exact False.elim w
    | ro xs =>
      obtain ⟨a, vs, rfl, h1, r1⟩ := vr_ro' ra
      simp only [idxV, seqOf, Option.bind_some] at w
      split at w
      · rename_i z e
        obtain ⟨vz, e2, q⟩ := atI_vr r1 e
        exact ix_list value slice pins s σ H _ _ v u Q I rx ry ⟨a, vs, i, vz, rfl, rfl, h1.sq, e2, w m H _ Post.refl S q⟩ hs
      · exact False.elim w
    | ref l =>
      obtain ⟨a, ha, rfl⟩ := vr_ref' ra
      simp only [idxV, seqOf] at w
      split at w
      · rename_i z e
        obtain ⟨xs, e1, e3⟩ := Option.bind_eq_some_iff.mp e
        split at e1
        · rename_i ys e4
          cases e1
          obtain ⟨vs, h1, r1⟩ := S.lst ha e4
          obtain ⟨vz, e2, q⟩ := atI_vr r1 e3
          exact ix_list value slice pins s σ H _ _ v u Q I rx ry ⟨a, vs, i, vz, rfl, rfl, SqL.of h1, e2, w m H _ Post.refl S q⟩ hs
        · cases e1
      · exact False.elim w
    | _ => exact False.elim w
  | _ => cases a <;> exact False.elim w
def rS (K : PySem.W.Frag) : V → Option Int → Option Int → Hp → VK → Prop := fun x lo hi H Q => ∃ m h v, Sim K m h H ∧ VR K m H v x ∧ WP K (rV K) (slcV v lo hi h) m H Q
theorem sl_M : SlR X (rS X.K) := by
  intro pins s σ H x v vl vu lo hi sl Q I rx e1 e2 e3 ⟨m, h, a, S, ra, w⟩
  cases a with
  | ref l =>
    obtain ⟨a, ha, rfl⟩ := vr_ref' ra
    simp only [slcV] at w
    split at w
    · rename_i xs e4
      obtain ⟨vs, h1, r1⟩ := S.lst ha e4
      exact sl_list pins s σ H _ v vl vu lo hi sl Q I rx e1 e2 e3 ⟨a, vs, rfl, SqL.of h1, wp_lst w S (r1.cut lo hi)⟩
    · exact False.elim w
  | tup xs =>
    obtain ⟨a, vs, rfl, h1, r1⟩ := vr_tup' ra
    refine sl_tupA pins s σ H _ v vl vu lo hi sl Q I rx e1 e2 e3 ⟨a, vs, rfl, h1, fun hw => ?_, fun _ => wp_tup w S (r1.cut lo hi)⟩
    have e : cutM xs lo hi = xs := by
      unfold cutM
      rw [r1.length, hw.1, hw.2, List.drop_zero, Nat.sub_zero, ← r1.length, List.take_length]
    have w : WP X.K (rV X.K) (M.ret (MV.tup (cutM xs lo hi)) h) m H Q := w
    rw [e] at w
    exact w.ret S ra
  | ro xs =>
    obtain ⟨a, vs, rfl, h1, r1⟩ := vr_ro' ra
    exact sl_list pins s σ H _ v vl vu lo hi sl Q I rx e1 e2 e3 ⟨a, vs, rfl, h1.sq, wp_lst w S (r1.cut lo hi)⟩
  | _ => exact False.elim w
end
end MP
/-! MP: built-in calls, methods, stores, kinds. -/
namespace MP
open PySem PySem.Spec PyProof.Rows L2
section
variable {X : Cx} {K : PySem.W.Frag} {m : List Addr} {h : MH} {H : Hp}
/-- the built-in's value -/
def biF : Bi → Value
  | .abs => .builtin "abs" | .max => .builtin "max" | .min => .builtin "min" | .len => .builtin "len" | .divmod => .builtin "divmod" | .all => .builtin "all" | .any => .builtin "any" | .repr => .builtin "repr"
  | .sum => .builtin "sum" | .sorted => .builtin "sorted" | .int => .type "int" | .list => .type "list" | .tuple => .type "tuple"
theorem vrs_ints : ∀ {xs : List MV} {is : List Int} {vs : List V}, allInts xs = some is → VRs K m H xs vs → vs = is.map V.int
  | [], is, vs, e, r => by
    cases e
    exact vrs_nil' r
  | x :: xs, is, vs, e, r => by
    obtain ⟨v, t, rfl, q, rr⟩ := vrs_cons' r
    cases x with
    | int i =>
      obtain ⟨js, e1, rfl⟩ := Option.map_eq_some_iff.mp (show (allInts xs).map (i :: ·) = some is from e)
      rw [vr_int' q, vrs_ints e1 rr]
      rfl
    | _ => cases e
theorem vrs_bls : ∀ {xs : List MV} {is : List Bool} {vs : List V}, allBls xs = some is → VRs K m H xs vs → vs = is.map V.bl
  | [], is, vs, e, r => by
    cases e
    exact vrs_nil' r
  | x :: xs, is, vs, e, r => by
    obtain ⟨v, t, rfl, q, rr⟩ := vrs_cons' r
    cases x with
    | bl i =>
      obtain ⟨js, e1, rfl⟩ := Option.map_eq_some_iff.mp (show (allBls xs).map (i :: ·) = some is from e)
      rw [vr_bl' q, vrs_bls e1 rr]
      rfl
    | _ => cases e
theorem vrs_strs : ∀ {xs : List MV} {is : List Str} {vs : List V}, allStrs xs = some is → VRs K m H xs vs → vs = is.map V.str
  | [], is, vs, e, r => by
    cases e
    exact vrs_nil' r
  | x :: xs, is, vs, e, r => by
    obtain ⟨v, t, rfl, q, rr⟩ := vrs_cons' r
    cases x with
    | str i =>
      obtain ⟨js, e1, rfl⟩ := Option.map_eq_some_iff.mp (show (allStrs xs).map (i :: ·) = some is from e)
      rw [vr_str' q, vrs_strs e1 rr]
      rfl
    | _ => cases e
/-- a list's items -/
theorem wp_lstOf {α β : Type} {R : List Addr → Hp → α → β → Prop} {f : List MV → M α} {v : MV} {x : V} {Q : β → Hp → Prop} (S : Sim K m h H) (r : VR K m H v x) (w : WP K R ((lstOf v).bnd f h) m H Q) :
    ∃ a xs vs, x = .ref a ∧ SqL K H a vs ∧ VRs K m H xs vs ∧ WP K R (f xs h) m H Q := by
  cases v with
  | ref l =>
    obtain ⟨a, ha, rfl⟩ := vr_ref' r
    unfold M.bnd lstOf at w
    simp only at w
    cases e : h[l]? with
    | none => rw [e] at w; exact False.elim w
    | some o =>
      rw [e] at w
      cases o with
      | lst xs =>
        obtain ⟨vs, h1, r1⟩ := S.lst ha e
        exact ⟨a, xs, vs, rfl, SqL.of h1, r1, w⟩
      | _ => exact False.elim w
  | _ => exact False.elim w
theorem wp_opt {α β γ : Type} {R : List Addr → Hp → α → β → Prop} {o : Option γ} {f : γ → M α} {Q : β → Hp → Prop} (w : WP K R ((M.opt o).bnd f h) m H Q) : ∃ x, o = some x ∧ WP K R (f x h) m H Q := by
  cases o with
  | none => exact False.elim w
  | some x => exact ⟨x, rfl, w⟩
theorem wp_chk {α β : Type} {R : List Addr → Hp → α → β → Prop} {b : Bool} {f : Unit → M α} {Q : β → Hp → Prop} (w : WP K R ((M.chk b).bnd f h) m H Q) : b = true ∧ WP K R (f () h) m H Q := by
  cases b with
  | false => exact False.elim w
  | true => exact ⟨rfl, w⟩
theorem seqOf_some {v : MV} {x : V} {xs : List MV} (S : Sim K m h H) (r : VR K m H v x) (e : seqOf h v = some xs) : ∃ a vs, x = .ref a ∧ VRs K m H xs vs ∧ ((∃ ys, v = .tup ys ∧ SqT K H a vs) ∨ SqL K H a vs) := by
  cases v with
  | tup ys =>
    obtain ⟨a, vs, rfl, h1, r1⟩ := vr_tup' r
    cases e
    exact ⟨a, vs, rfl, r1, .inl ⟨_, rfl, h1⟩⟩
  | ro ys =>
    obtain ⟨a, vs, rfl, h1, r1⟩ := vr_ro' r
    cases e
    exact ⟨a, vs, rfl, r1, .inr h1.sq⟩
  | ref l =>
    obtain ⟨a, ha, rfl⟩ := vr_ref' r
    simp only [seqOf] at e
    split at e
    · rename_i ys e1
      cases e
      obtain ⟨vs, h1, r1⟩ := S.lst ha e1
      exact ⟨a, vs, rfl, r1, .inr (SqL.of h1)⟩
    · cases e
  | _ => cases e
theorem cr_abs : CallR X (.builtin "abs") (rF X.K (biV .abs)) := by
  intro pins s σ H xs us Q I r ⟨m, h, vs, S, rv, w⟩
  replace w : WP X.K (rV X.K) (absV vs h) m H Q := w
  unfold absV at w
  split at w
  · rename_i i
    obtain ⟨y, rfl, q⟩ := vrs1 rv
    rw [vr_int' q] at r
    exact call_abs pins s σ H _ us Q I r ⟨i, rfl, w.ret S (vr_int _)⟩
  · exact False.elim w
theorem cr_max (hc : X.calm = true) : CallR X (.builtin "max") (rF X.K (biV .max)) := by
  intro pins s σ H xs us Q I r ⟨m, h, vs, S, rv, w⟩
  replace w : WP X.K (rV X.K) (maxV vs h) m H Q := w
  unfold maxV at w
  split at w
  · rename_i i j
    obtain ⟨y, z, rfl, q, q'⟩ := vrs2 rv
    rw [vr_int' q, vr_int' q'] at r
    exact call_max2 hc pins s σ H _ us Q I r ⟨i, j, rfl, w.ret S (vr_int _)⟩
  · exact False.elim w
theorem cr_min (hc : X.calm = true) : CallR X (.builtin "min") (rF X.K (biV .min)) := by
  intro pins s σ H xs us Q I r ⟨m, h, vs, S, rv, w⟩
  replace w : WP X.K (rV X.K) (minV vs h) m H Q := w
  unfold minV at w
  split at w
  · rename_i i j
    obtain ⟨y, z, rfl, q, q'⟩ := vrs2 rv
    rw [vr_int' q, vr_int' q'] at r
    exact call_min2 hc pins s σ H _ us Q I r ⟨i, j, rfl, w.ret S (vr_int _)⟩
  · exact False.elim w
theorem cr_int : CallR X (.type "int") (rF X.K (biV .int)) := by
  intro pins s σ H xs us Q I r ⟨m, h, vs, S, rv, w⟩
  replace w : WP X.K (rV X.K) (intV vs h) m H Q := w
  unfold intV at w
  split at w
  · rename_i i
    obtain ⟨y, rfl, q⟩ := vrs1 rv
    rw [vr_int' q] at r
    exact call_int1 pins s σ H _ us Q I r (.inl ⟨i, rfl, w.ret S (vr_int _)⟩)
  · rename_i i
    obtain ⟨y, rfl, q⟩ := vrs1 rv
    rw [vr_bl' q] at r
    exact call_int1 pins s σ H _ us Q I r (.inr ⟨i, rfl, w.ret S (vr_int _)⟩)
  · exact False.elim w
theorem cr_len : CallR X (.builtin "len") (rF X.K (biV .len)) := by
  intro pins s σ H xs us Q I r ⟨m, h, vs, S, rv, w⟩
  replace w : WP X.K (rV X.K) (len1V vs h) m H Q := w
  unfold len1V at w
  split at w
  · rename_i v
    obtain ⟨y, rfl, q⟩ := vrs1 rv
    skip
    cases v with
    | str z =>
      rw [vr_str' q] at r
      simp only [lenV] at w
      split at w
      · rename_i hl
        exact call_len pins s σ H _ us Q I r ⟨_, _, rfl, ⟨fits_le hl, rfl⟩, w m H _ Post.refl S (vr_int _)⟩
      · exact False.elim w
    | tup xs =>
      obtain ⟨a, vs, rfl, h1, r1⟩ := vr_tup' q
      refine call_len_seq pins s σ H _ us Q I r ⟨a, vs, rfl, .inr h1, ?_⟩
      rw [← r1.length]
      exact w m H _ Post.refl S (vr_int _)
    | ro xs =>
      obtain ⟨a, vs, rfl, h1, r1⟩ := vr_ro' q
      refine call_len_seq pins s σ H _ us Q I r ⟨a, vs, rfl, .inl h1.sq, ?_⟩
      rw [← r1.length]
      exact w m H _ Post.refl S (vr_int _)
    | ref l =>
      obtain ⟨a, ha, rfl⟩ := vr_ref' q
      simp only [lenV] at w
      split at w
      · rename_i xs e1
        obtain ⟨vs, h1, r1⟩ := S.lst ha e1
        refine call_len_seq pins s σ H _ us Q I r ⟨a, vs, rfl, .inl (SqL.of h1), ?_⟩
        rw [← r1.length]
        exact w m H _ Post.refl S (vr_int _)
      · rename_i xs e1
        obtain ⟨vs, h1, r1⟩ := S.dct ha e1
        refine call_lenD pins s σ H _ us Q I r ⟨a, vs, rfl, h1, ?_⟩
        rw [← r1.length]
        exact w m H _ Post.refl S (vr_int _)
      · exact False.elim w
    | _ => exact False.elim w
  · exact False.elim w
theorem cr_divmod : CallR X (.builtin "divmod") (rF X.K (biV .divmod)) := by
  intro pins s σ H xs us Q I r ⟨m, h, vs, S, rv, w⟩
  replace w : WP X.K (rV X.K) (divmodV vs h) m H Q := w
  unfold divmodV at w
  split at w
  · rename_i i j
    obtain ⟨y, z, rfl, q, q'⟩ := vrs2 rv
    rw [vr_int' q, vr_int' q'] at r
    replace w : WP X.K (rV X.K) ((if okDiv j then M.ret (.tup [.int (i / j), .int (i % j)]) else M.stk) h) m H Q := w
    split at w
    · rename_i hl
      refine call_divmod pins s σ H _ us Q I r ⟨i, j, rfl, okDiv_of hl, wp_tup w S ?_⟩
      unfold VRs
      exact ⟨_, _, rfl, vr_int _, VRs.one (vr_int _)⟩
    · exact False.elim w
  · exact False.elim w
theorem cr_allM (hc : X.calm = true) : CallR X (.builtin "all") (rF X.K (biV .all)) := by
  intro pins s σ H xs us Q I r ⟨m, h, vs, S, rv, w⟩
  replace w : WP X.K (rV X.K) (allV vs h) m H Q := w
  unfold allV at w
  split at w
  · rename_i v
    obtain ⟨y, rfl, q⟩ := vrs1 rv
    obtain ⟨a, ys, zs, rfl, h1, r1, w⟩ := wp_lstOf S q w
    obtain ⟨bs, e, w⟩ := wp_opt w
    rw [vrs_bls e r1] at h1
    exact cr_all hc pins s σ H _ us Q I r ⟨a, bs, rfl, h1, w.ret S (vr_bl _)⟩
  · exact False.elim w
theorem cr_anyM (hc : X.calm = true) : CallR X (.builtin "any") (rF X.K (biV .any)) := by
  intro pins s σ H xs us Q I r ⟨m, h, vs, S, rv, w⟩
  replace w : WP X.K (rV X.K) (anyV vs h) m H Q := w
  unfold anyV at w
  split at w
  · rename_i v
    obtain ⟨y, rfl, q⟩ := vrs1 rv
    obtain ⟨a, ys, zs, rfl, h1, r1, w⟩ := wp_lstOf S q w
    obtain ⟨bs, e, w⟩ := wp_opt w
    rw [vrs_bls e r1] at h1
    exact cr_any hc pins s σ H _ us Q I r ⟨a, bs, rfl, h1, w.ret S (vr_bl _)⟩
  · exact False.elim w
theorem cr_sumM (hc : X.calm = true) : CallR X (.builtin "sum") (rF X.K (biV .sum)) := by
  intro pins s σ H xs us Q I r ⟨m, h, vs, S, rv, w⟩
  replace w : WP X.K (rV X.K) (sumV vs h) m H Q := w
  unfold sumV at w
  split at w
  · rename_i v
    obtain ⟨y, rfl, q⟩ := vrs1 rv
    obtain ⟨a, ys, zs, rfl, h1, r1, w⟩ := wp_lstOf S q w
    obtain ⟨bs, e, w⟩ := wp_opt w
    rw [vrs_ints e r1] at h1
    exact cr_sum hc pins s σ H _ us Q I r ⟨a, bs, rfl, h1, w.ret S (vr_int _)⟩
  · exact False.elim w
theorem cr_list : CallR X (.type "list") (rF X.K (biV .list)) := by
  intro pins s σ H xs us Q I r ⟨m, h, vs, S, rv, w⟩
  replace w : WP X.K (rV X.K) (listV vs h) m H Q := w
  unfold listV at w
  split at w
  · rename_i v
    obtain ⟨y, rfl, q⟩ := vrs1 rv
    replace w : WP X.K (rV X.K) (match seqOf h v with
      | some xs => M.alloc (.lst xs) h
      | none => .stuck) m H Q := w
    split at w
    · rename_i ys e
      obtain ⟨a, vs, rfl, r1, hq⟩ := seqOf_some S q e
      refine call_list_of pins s σ H _ us Q I r ⟨a, vs, rfl, ?_, wp_lst w S r1⟩
      rcases hq with ⟨_, _, hq⟩ | hq
      · exact .inr hq
      · exact .inl hq
    · exact False.elim w
  · exact False.elim w
theorem cr_tuple : CallR X (.type "tuple") (rF X.K (biV .tuple)) := by
  intro pins s σ H xs us Q I r ⟨m, h, vs, S, rv, w⟩
  replace w : WP X.K (rV X.K) (tupleV vs h) m H Q := w
  unfold tupleV at w
  split at w
  · rename_i v
    obtain ⟨y, rfl, q⟩ := vrs1 rv
    replace w : WP X.K (rV X.K) (match seqOf h v with
      | some xs => .ok (.tup xs) h
      | none => .stuck) m H Q := w
    split at w
    · rename_i ys e
      obtain ⟨a, vs, rfl, r1, hq⟩ := seqOf_some S q e
      have w : WP X.K (rV X.K) (M.ret (MV.tup ys) h) m H Q := w
      refine call_tuple_of pins s σ H _ us Q I r ⟨a, vs, rfl, ?_⟩
      rcases hq with ⟨zs, rfl, hq⟩ | hq
      · cases e
        exact .inr ⟨hq, w.ret S q⟩
      · exact .inl ⟨hq, wp_tup w S r1⟩
    · exact False.elim w
  · exact False.elim w

theorem cr_repr (hg : X.A.guards = some []) (sm : SmOk X) (hu : X.A.units + 65 < cLine) : CallR X (.builtin "repr") (rF X.K (biV .repr)) := by
  intro pins s σ H xs us Q I r ⟨m, h, vs, S, rv, w⟩
  replace w : WP X.K (rV X.K) (repr1V vs h) m H Q := w
  unfold repr1V at w
  split at w
  · rename_i v
    obtain ⟨y, rfl, q⟩ := vrs1 rv
    obtain ⟨u, rfl, ru⟩ := vals1 r
    replace w : WP X.K (rV X.K) (reprV v h) m H Q := w
    unfold reprV at w
    split at w
    · rename_i d e
      split at w
      · rename_i hs
        have hs := Bool.and_eq_true_iff.mp hs
        have hs1 := Bool.and_eq_true_iff.mp hs.1
        have hd : d.depth ≤ 62 := of_decide_eq_true hs1.1
        have hz := fits_le hs.2
        obtain ⟨as, rd, ns⟩ := reify_reads I sm S 60 v d y u e q ru
        have fin : ∀ s', Inv X pins σ H s' → EP X pins σ Q (.str d.shown s'.toks) s' := fun s' I' => ⟨.str _, H, I', ⟨_, rfl⟩, w m H _ Post.refl S (vr_str _)⟩
        cases rd with
        | none =>
          exact PySem.P.repr_of_none (by
            have := w m H _ Post.refl S (vr_str _)
            exact ⟨.str _, H, I.tok _, ⟨_, rfl⟩, this⟩)
        | bool b =>
          exact PySem.P.repr_of_bool (by
            have := w m H _ Post.refl S (vr_str _)
            exact ⟨.str _, H, I.tok _, ⟨_, rfl⟩, this⟩)
        | int i t =>
          exact PySem.P.repr_of_int (by simpa [PyData.showable] using hs1.2) (by
            have := w m H _ Post.refl S (vr_str _)
            exact ⟨.str _, H, I.tok _, ⟨_, rfl⟩, this⟩)
        | str z t =>
          exact PySem.P.repr_of_str (by
            have := w m H _ Post.refl S (vr_str _)
            exact ⟨.str _, H, I.tok _, ⟨_, rfl⟩, this⟩) hz
        | list h1 h2 h3 h4 =>
          exact repr_of_reads' (.list h1 h2 h3 h4) hs1.2 (fun _ => ns) hg (by omega) (fun _ _ e => e) (fun h' u tk hk => ⟨.str _, H, I.kept hk, ⟨_, rfl⟩, w m H _ Post.refl S (vr_str _)⟩) hz
        | tuple h1 h2 h3 h4 =>
          exact repr_of_reads' (.tuple h1 h2 h3 h4) hs1.2 (fun _ => ns) hg (by omega) (fun _ _ e => e) (fun h' u tk hk => ⟨.str _, H, I.kept hk, ⟨_, rfl⟩, w m H _ Post.refl S (vr_str _)⟩) hz
        | dict h1 h2 h3 h4 h5 =>
          exact repr_of_reads' (.dict h1 h2 h3 h4 h5) hs1.2 (fun _ => ns) hg (by omega) (fun _ _ e => e) (fun h' u tk hk => ⟨.str _, H, I.kept hk, ⟨_, rfl⟩, w m H _ Post.refl S (vr_str _)⟩) hz
      · exact False.elim w
    · exact False.elim w
  · exact False.elim w
/-- calls of built-ins -/
theorem cr_bi (hc : X.calm = true) (hg : X.A.guards = some []) (sm : SmOk X) (hu : X.A.units + 65 < cLine) (b : Bi) : CallR X (biF b) (rF X.K (biV b)) := by
  cases b with
  | abs => exact cr_abs
  | max => exact cr_max hc
  | min => exact cr_min hc
  | int => exact cr_int
  | len => exact cr_len
  | divmod => exact cr_divmod
  | all => exact cr_allM hc
  | any => exact cr_anyM hc
  | repr => exact cr_repr hg sm hu
  | list => exact cr_list
  | tuple => exact cr_tuple
  | sum => exact cr_sumM hc
  | sorted =>
    intro pins s σ H xs us Q I r ⟨m, h, vs, S, rv, w⟩
    exact False.elim w
/-! ### methods -/
theorem mt_appendM : MtR X "list.append" (rM X.K appendV) := by
  intro pins s σ H x xs v us Q I rx r ⟨m, h, o, vs, S, ro, rv, w⟩
  unfold appendV at w
  split at w
  · rename_i z
    obtain ⟨y, rfl, q⟩ := vrs1 rv
    cases o with
    | ref l =>
      obtain ⟨a, ha, rfl⟩ := vr_ref' ro
      dsimp only at w
      split at w
      · rename_i ys e1
        split at w
        · rename_i hl
          obtain ⟨us', h1, r1⟩ := S.lst ha e1
          exact mt_append pins s σ H _ _ v us Q I rx r ⟨a, us', y, rfl, rfl, h1, by rw [← r1.length]; exact fitsL_lt hl, wp_put (y := V.non) w S ha h1 (r1.append (VRs.one q)) fun P => vr_non⟩
        · exact False.elim w
      · exact False.elim w
    | _ => exact False.elim w
  · exact False.elim w
theorem mt_popM : MtR X "list.pop" (rM X.K popV) := by
  intro pins s σ H x xs v us Q I rx r ⟨m, h, o, vs, S, ro, rv, w⟩
  unfold popV at w
  split at w
  · rw [vrs_nil' rv] at r
    cases o with
    | ref l =>
      obtain ⟨a, ha, rfl⟩ := vr_ref' ro
      dsimp only at w
      split at w
      · rename_i ys e1
        split at w
        · rename_i z e2
          obtain ⟨us', h1, r1⟩ := S.lst ha e1
          obtain ⟨y, e3, q⟩ := r1.get e2
          exact mt_pop pins s σ H _ _ v us Q I rx r ⟨a, us', y, rfl, rfl, h1, by rw [← r1.length]; exact e3, wp_put (y := y) w S ha h1 r1.dropLast fun P => q.mono P⟩
        · exact False.elim w
      · exact False.elim w
    | _ => exact False.elim w
  · exact False.elim w
theorem mt_popAtM : MtR X "list.pop" (rM X.K popAtV) := by
  intro pins s σ H x xs v us Q I rx r ⟨m, h, o, vs, S, ro, rv, w⟩
  unfold popAtV at w
  split at w
  · rename_i i
    obtain ⟨y, rfl, q⟩ := vrs1 rv
    rw [vr_int' q] at r
    cases o with
    | ref l =>
      obtain ⟨a, ha, rfl⟩ := vr_ref' ro
      dsimp only at w
      split at w
      · rename_i ys e1
        split at w
        · rename_i hl
          split at w
          · rename_i k e2
            split at w
            · rename_i z e3
              obtain ⟨us', h1, r1⟩ := S.lst ha e1
              obtain ⟨y, e4, q⟩ := r1.get e3
              exact mt_popAt pins s σ H _ _ v us Q I rx r ⟨a, us', i, k, y, rfl, rfl, h1, (small63_of hl).1, (small63_of hl).2, by rw [← r1.length]; exact e2, e4, wp_put (y := y) w S ha h1 (r1.erase k) fun P => q.mono P⟩
            · exact False.elim w
          · exact False.elim w
        · exact False.elim w
      · exact False.elim w
    | _ => exact False.elim w
  · exact False.elim w
theorem mt_joinM : MtR X "str.join" (rM X.K joinV) := by
  intro pins s σ H x xs v us Q I rx r ⟨m, h, o, vs, S, ro, rv, w⟩
  unfold joinV at w
  split at w
  · rename_i z
    obtain ⟨y, rfl, q⟩ := vrs1 rv
    cases o with
    | str a =>
      rw [vr_str' ro] at rx
      obtain ⟨p, ys, zs, rfl, h1, r1, w⟩ := wp_lstOf S q w
      obtain ⟨bs, e, w⟩ := wp_opt w
      obtain ⟨hf, w⟩ := wp_chk w
      rw [vrs_strs e r1] at h1
      exact mt_join pins s σ H _ _ v us Q I rx r ⟨a, p, bs, rfl, rfl, .inl h1, fitsJ_le hf, w.ret S (vr_str _)⟩
    | _ => exact False.elim w
  · exact False.elim w
def mtId : Mt → String
  | .append => "list.append" | .join => "str.join" | .pop => "list.pop" | .popAt => "list.pop"
theorem mt_M (n : Mt) : MtR X (mtId n) (rM X.K (mtV n)) := by
  cases n with
  | append => exact mt_appendM
  | join => exact mt_joinM
  | pop => exact mt_popM
  | popAt => exact mt_popAtM
/-! ### a store -/
def rSet (K : PySem.W.Frag) : V → V → V → Hp → (Hp → Prop) → Prop := fun o i v H Q => ∃ m h o' i' v', Sim K m h H ∧ VR K m H o' o ∧ VR K m H i' i ∧ VR K m H v' v ∧ WP K rId (setV o' i' v' h) m H (fun _ H' => Q H')
theorem set_M : PSet X (rSet X.K) := by
  intro pins s σ H o i v ov iv u Q I ro ri rv ⟨m, h, o', i', v', S, so, si, sv, w⟩
  unfold setV at w
  split at w
  · rename_i l k
    obtain ⟨a, ha, rfl⟩ := vr_ref' so
    rw [vr_int' si] at ri
    split at w
    · rename_i ys e1
      split at w
      · rename_i j e2
        obtain ⟨us', h1, r1⟩ := S.lst ha e1
        exact set_list pins s σ H _ _ _ ov iv u Q I ro ri rv ⟨a, us', k, j, rfl, rfl, h1, by rw [← r1.length]; exact e2, wp_put (y := ()) w S ha h1 (VRs.set sv j r1) fun P => rfl⟩
      · exact False.elim w
    · exact False.elim w
  · exact False.elim w
end
end MP
/-! MP: terms of the language as readings of the hand layer. -/
namespace MP
open PySem PySem.Spec PyProof.Rows L2

def EnvR (K : PySem.W.Frag) (m : List Addr) (H : Hp) (ρ : Env) (σ : L2.St) : Prop :=
  ρ.length = σ.length ∧ ∀ (i : Nat) (v : MV), ρ[i]? = some (some v) → ∃ x, σ[i]? = some (some x) ∧ VR K m H v x
theorem EnvR.mono {K : PySem.W.Frag} {m m' : List Addr} {H H' : Hp} {ρ : Env} {σ : L2.St} (h : EnvR K m H ρ σ) (P : Post K m H m' H') : EnvR K m' H' ρ σ :=
  ⟨h.1, fun i v e => let ⟨x, a, b⟩ := h.2 i v e; ⟨x, a, b.mono P⟩⟩
theorem EnvR.set {K : PySem.W.Frag} {m : List Addr} {H : Hp} {ρ : Env} {σ : L2.St} (h : EnvR K m H ρ σ) {i : Nat} {v : MV} {x : V} (r : VR K m H v x) : EnvR K m H (ρ.set i (some v)) (σ.set i (some x)) := by
  refine ⟨by simp [h.1], fun j u e => ?_⟩
  by_cases hj : i = j
  · subst hj
    by_cases hl : i < ρ.length
    · rw [List.getElem?_set_self hl] at e
      cases e
      exact ⟨x, by rw [List.getElem?_set_self (by rw [← h.1]; exact hl)], r⟩
    · rw [List.getElem?_eq_none (by simpa using hl)] at e
      cases e
  · rw [List.getElem?_set_ne hj] at e ⊢
    exact h.2 j u e
theorem EnvR.wipe {K : PySem.W.Frag} {m : List Addr} {H : Hp} {ρ : Env} {σ : L2.St} (h : EnvR K m H ρ σ) : ∀ own : List Nat, EnvR K m H (wipeE ρ own) (L2.wipe σ own)
  | [] => h
  | v :: vs => by
    have ih := EnvR.wipe h vs
    unfold wipeE L2.wipe
    refine ⟨by simp [ih.1], fun j u e => ?_⟩
    by_cases hj : v = j
    · subst hj
      by_cases hl : v < (wipeE ρ vs).length
      · rw [List.getElem?_set_self hl] at e
        cases e
      · rw [List.getElem?_eq_none (by simpa using hl)] at e
        cases e
    · rw [List.getElem?_set_ne hj] at e ⊢
      exact ih.2 j u e

abbrev rE (K : PySem.W.Frag) : List Addr → Hp → Env → L2.St → Prop := fun m H ρ σ => EnvR K m H ρ σ
def tE (K : PySem.W.Frag) (f : Env → M MV) : TE := fun σ H Q => ∃ m h ρ, Sim K m h H ∧ EnvR K m H ρ σ ∧ WP K (rV K) (f ρ h) m H Q
def tT (K : PySem.W.Frag) (f : Env → M Bool) : TT := fun σ H Q => ∃ m h ρ, Sim K m h H ∧ EnvR K m H ρ σ ∧ WP K rId (f ρ h) m H Q
def tA (K : PySem.W.Frag) (f : Env → M (List MV)) : TA := fun σ H Q => ∃ m h ρ, Sim K m h H ∧ EnvR K m H ρ σ ∧ WP K (rL K) (f ρ h) m H Q
def tO (K : PySem.W.Frag) (f : Env → M (Option Int)) : TO := fun σ H Q => ∃ m h ρ, Sim K m h H ∧ EnvR K m H ρ σ ∧ WP K rId (f ρ h) m H Q
def tG (K : PySem.W.Frag) (f : MV → Env → M Env) : TG := fun v σ H Q => ∃ m h ρ x, Sim K m h H ∧ EnvR K m H ρ σ ∧ VR K m H x v ∧ WP K (rE K) (f x ρ h) m H Q
def tGs (K : PySem.W.Frag) (f : List MV → Env → M Env) : TGs := fun vs σ H Q => ∃ m h ρ xs, Sim K m h H ∧ EnvR K m H ρ σ ∧ VRs K m H xs vs ∧ WP K (rE K) (f xs ρ h) m H Q
/-- what is walked -/
def JR (K : PySem.W.Frag) (m : List Addr) (H : Hp) : Itv → L2.It → Prop
  | .il l, J => ∃ a, m[l]? = some a ∧ J = Itl K a
  | .vs xs, J => (∃ a vs, J = Itt K a ∧ SqT K H a vs ∧ VRs K m H xs vs) ∨ (∃ a vs, J = Itl K a ∧ RoL K H a vs ∧ VRs K m H xs vs) ∨
      (∃ z : Str, J = Its z ∧ xs = z.cps.toList.map fun c => MV.str ⟨#[c]⟩) ∨ ∃ lo hi, J = Itr lo (hi - lo).toNat ∧ xs = rangeItems lo hi
def tI (K : PySem.W.Frag) (f : Env → M Itv) : TI := fun σ H R => ∃ m h ρ, Sim K m h H ∧ EnvR K m H ρ σ ∧ WP K (JR K) (f ρ h) m H R
/-- a statement's end -/
def WS (K : PySem.W.Frag) (r : Res (Env × Fl)) (m : List Addr) (H : Hp) (D : Ends) : Prop := match r with
  | .ok p h' => ∀ m' H' σ', Post K m H m' H' → Sim K m' h' H' → EnvR K m' H' p.1 σ' → (match p.2 with
    | .nx => D.nx σ' H'
    | .rt v => ∀ x, VR K m' H' v x → D.rt x H'
    | .bk => D.bk σ' H'
    | .ct => D.ct σ' H')
  | _ => False
def tSt (K : PySem.W.Frag) (f : Env → M (Env × Fl)) : TS := fun D σ H => ∃ m h ρ, Sim K m h H ∧ EnvR K m H ρ σ ∧ WS K (f ρ h) m H D
theorem WS.at {K : PySem.W.Frag} {r : Res (Env × Fl)} {m m1 : List Addr} {H H1 : Hp} {D : Ends} (h : WS K r m H D) (P : Post K m H m1 H1) : WS K r m1 H1 D := by
  cases r with
  | ok a h' => exact fun m' H' σ' P' S r => h m' H' σ' (P.trans P') S r
  | exc _ _ => exact h
  | stuck => exact h
theorem WS.bind {K : PySem.W.Frag} {α β : Type} {Rx : List Addr → Hp → α → β → Prop} {x : M α} {f : α → M (Env × Fl)} {m : List Addr} {h0 : MH} {H : Hp} {D : Ends} (h : WS K (M.bnd x f h0) m H D) :
    WP K Rx (x h0) m H (fun b H1 => ∃ m1 h1 a, Post K m H m1 H1 ∧ Sim K m1 h1 H1 ∧ Rx m1 H1 a b ∧ WS K (f a h1) m1 H1 D) := by
  unfold M.bnd at h
  cases e : x h0 with
  | ok a h' =>
    rw [e] at h
    exact fun m' H' b P S r => ⟨m', h', a, P, S, r, WS.at h P⟩
  | exc _ _ => rw [e] at h; exact h
  | stuck => rw [e] at h; exact h
/-- two statements -/
theorem WS.seq {K : PySem.W.Frag} {x : M (Env × Fl)} {f : Env × Fl → M (Env × Fl)} {m : List Addr} {h0 : MH} {H : Hp} {D D' : Ends} (h : WS K (M.bnd x f h0) m H D)
    (k : ∀ p m1 h1 H1 σ1, Post K m H m1 H1 → Sim K m1 h1 H1 → EnvR K m1 H1 p.1 σ1 → WS K (f p h1) m1 H1 D → (match p.2 with
    | .nx => D'.nx σ1 H1
    | .rt v => ∀ x, VR K m1 H1 v x → D'.rt x H1
    | .bk => D'.bk σ1 H1
    | .ct => D'.ct σ1 H1)) : WS K (x h0) m H D' := by
  unfold M.bnd at h
  cases e : x h0 with
  | ok p h' =>
    rw [e] at h
    intro m' H' σ' P S r
    exact k p m' h' H' σ' P S r (WS.at h P)
  | exc _ _ => rw [e] at h; exact h
  | stuck => rw [e] at h; exact h
theorem WS.ret {K : PySem.W.Frag} {p : Env × Fl} {m : List Addr} {h0 : MH} {H : Hp} {D : Ends} {σ : L2.St} (h : WS K (M.ret p h0) m H D) (S : Sim K m h0 H) (r : EnvR K m H p.1 σ) : (match p.2 with
    | .nx => D.nx σ H
    | .rt v => ∀ x, VR K m H v x → D.rt x H
    | .bk => D.bk σ H
    | .ct => D.ct σ H) := h m H σ Post.refl S r

theorem pe_imp {X : Cx} {e : Expr} {t t' : TE} (h : PE X e t') (k : ∀ σ H Q, t σ H Q → t' σ H Q) : PE X e t := ⟨fun pins s σ H Q I w => h.run pins s σ H Q I (k σ H Q w)⟩
theorem pt_imp {X : Cx} {e : Expr} {t t' : TT} (h : PT X e t') (k : ∀ σ H Q, t σ H Q → t' σ H Q) : PT X e t := ⟨fun pins s σ H Q I w => h.run pins s σ H Q I (k σ H Q w)⟩
theorem pw_imp {X : Cx} {e : Expr} {t t' : TT} (h : PW X e t') (k : ∀ σ H Q, t σ H Q → t' σ H Q) : PW X e t := ⟨fun wh pins s σ H Q I w => h.run wh pins s σ H Q I (k σ H Q w)⟩
theorem pa_imp {X : Cx} {e : List Expr} {t t' : TA} (h : PA X e t') (k : ∀ σ H Q, t σ H Q → t' σ H Q) : PA X e t := ⟨fun pos pins s σ H Q I w => h.run pos pins s σ H Q I (k σ H Q w)⟩
theorem po_imp {X : Cx} {e : Option Expr} {t t' : TO} (h : PO X e t') (k : ∀ σ H Q, t σ H Q → t' σ H Q) : PO X e t := ⟨fun pins s σ H Q I w => h.run pins s σ H Q I (k σ H Q w)⟩
theorem pg_imp {X : Cx} {e : Expr} {t t' : TG} (h : PG X e t') (k : ∀ v σ H Q, t v σ H Q → t' v σ H Q) : PG X e t := ⟨fun pins s σ H v u Q I r w => h.run pins s σ H v u Q I r (k v σ H Q w)⟩
theorem pgs_imp {X : Cx} {e : List Expr} {t t' : TGs} (h : PGs X e t') (k : ∀ v σ H Q, t v σ H Q → t' v σ H Q) : PGs X e t := ⟨fun pins s σ H v u Q I r w => h.run pins s σ H v u Q I r (k v σ H Q w)⟩
theorem pi_imp {X : Cx} {g e : Expr} {t t' : TI} (h : PI X g e t') (k : ∀ σ H Q, t σ H Q → t' σ H Q) : PI X g e t := ⟨fun pins s σ H Q I w => h.run pins s σ H Q I (k σ H Q w)⟩
theorem ps_imp {X : Cx} {e : Stmt} {t t' : TS} (h : PS X e t') (k : ∀ D σ H, t D σ H → t' D σ H) : PS X e t := ⟨fun pins s σ H D I w => h.run pins s σ H D I (k D σ H w)⟩
theorem pss_imp {X : Cx} {e : List Stmt} {t t' : TS} (h : PSs X e t') (k : ∀ D σ H, t D σ H → t' D σ H) : PSs X e t := ⟨fun pins s σ H D I w => h.run pins s σ H D I (k D σ H w)⟩

section
variable {K : PySem.W.Frag} {σ : L2.St} {H : Hp}
/-- one value, then a rule by values -/
theorem lift1 {f : Env → M MV} {g : MV → Env → M MV} {Q : VK} {r : V → Hp → Prop} (w : tE K (fun ρ => (f ρ).bnd fun x => g x ρ) σ H Q)
    (k : ∀ m h ρ x v H1, Sim K m h H1 → EnvR K m H1 ρ σ → VR K m H1 x v → WP K (rV K) (g x ρ h) m H1 Q → r v H1) : tE K f σ H r := by
  obtain ⟨m, h, ρ, S, en, w⟩ := w
  refine ⟨m, h, ρ, S, en, (WP.bind (Rx := rV K) w).mono fun v H1 ⟨m1, h1, x, P, S1, rx, w1⟩ => ?_⟩
  exact k m1 h1 ρ x v H1 S1 (en.mono P) rx w1
/-- the general form -/
theorem liftG {α β γ δ : Type} {R : List Addr → Hp → α → β → Prop} {R' : List Addr → Hp → γ → δ → Prop} {f : Env → M α} {g : α → Env → M γ} {Q : δ → Hp → Prop} {r : β → Hp → Prop} {m : List Addr} {h : MH} {ρ : Env} (S : Sim K m h H) (en : EnvR K m H ρ σ)
    (w : WP K R' (((f ρ).bnd fun x => g x ρ) h) m H Q)
    (k : ∀ m1 h1 x v H1, Post K m H m1 H1 → Sim K m1 h1 H1 → EnvR K m1 H1 ρ σ → R m1 H1 x v → WP K R' (g x ρ h1) m1 H1 Q → r v H1) : ∃ m h ρ, Sim K m h H ∧ EnvR K m H ρ σ ∧ WP K R (f ρ h) m H r :=
  ⟨m, h, ρ, S, en, (WP.bind (Rx := R) w).mono fun v H1 ⟨m1, h1, x, P, S1, rx, w1⟩ => k m1 h1 x v H1 P S1 (en.mono P) rx w1⟩
theorem liftS {α β : Type} {R : List Addr → Hp → α → β → Prop} {f : Env → M α} {g : α → Env → M (Env × Fl)} {D : Ends} {r : β → Hp → Prop} {m : List Addr} {h : MH} {ρ : Env} (S : Sim K m h H) (en : EnvR K m H ρ σ)
    (w : WS K (((f ρ).bnd fun x => g x ρ) h) m H D)
    (k : ∀ m1 h1 x v H1, Post K m H m1 H1 → Sim K m1 h1 H1 → EnvR K m1 H1 ρ σ → R m1 H1 x v → WS K (g x ρ h1) m1 H1 D → r v H1) : ∃ m h ρ, Sim K m h H ∧ EnvR K m H ρ σ ∧ WP K R (f ρ h) m H r :=
  ⟨m, h, ρ, S, en, (WS.bind (Rx := R) w).mono fun v H1 ⟨m1, h1, x, P, S1, rx, w1⟩ => k m1 h1 x v H1 P S1 (en.mono P) rx w1⟩
end

/-! ### loops -/
section
variable {K : PySem.W.Frag} {m m' : List Addr} {h : MH} {H H' : Hp}
theorem JR.mono (P : Post K m H m' H') : ∀ {it : Itv} {J : L2.It}, JR K m H it J → JR K m' H' it J
  | .il l, J, r => by
    obtain ⟨a, e, q⟩ := r
    exact ⟨a, P.get e, q⟩
  | .vs xs, J, r => by
    rcases r with ⟨a, vs, e, q, t⟩ | ⟨a, vs, e, q, t⟩ | r | r
    · exact .inl ⟨a, vs, e, P.tup _ _ q, t.mono P⟩
    · exact .inr (.inl ⟨a, vs, e, P.ro _ _ q, t.mono P⟩)
    · exact .inr (.inr (.inl r))
    · exact .inr (.inr (.inr r))
theorem range_len (lo hi : Int) : (rangeItems lo hi).length = (hi - lo).toNat := by unfold rangeItems; simp
theorem range_get {lo hi : Int} {i : Nat} {x : MV} (e : (rangeItems lo hi)[i]? = some x) : i < (hi - lo).toNat ∧ x = .int (lo + i) := by
  have hl := (List.getElem?_eq_some_iff.mp e).1
  rw [range_len] at hl
  refine ⟨hl, ?_⟩
  unfold rangeItems at e
  rw [List.getElem?_map, List.getElem?_range hl] at e
  exact (Option.some.inj e).symm
theorem nxt_stop (S : Sim K m h H) {it : Itv} {J : L2.It} {i : Nat} (r : JR K m H it J) (e : nxt h it i = some none) : J.stop i H := by
  cases it with
  | il l =>
    obtain ⟨a, ha, rfl⟩ := r
    unfold nxt at e
    dsimp only at e
    split at e
    · rename_i xs e1
      obtain ⟨vs, h1, r1⟩ := S.lst ha e1
      have e := Option.some.inj e
      refine ⟨vs, SqL.of h1, ?_⟩
      rw [← r1.length]
      exact List.getElem?_eq_none_iff.mp e
    · cases e
  | vs xs =>
    have e : xs[i]? = none := Option.some.inj e
    have hl := List.getElem?_eq_none_iff.mp e
    rcases r with ⟨a, vs, rfl, q, t⟩ | ⟨a, vs, rfl, q, t⟩ | ⟨z, rfl, rfl⟩ | ⟨lo, hi, rfl, rfl⟩
    · exact ⟨vs, q, by rw [← t.length]; exact hl⟩
    · exact ⟨vs, q.sq, by rw [← t.length]; exact hl⟩
    · show z.cps.size ≤ i
      simpa using hl
    · show (hi - lo).toNat ≤ i
      rw [range_len] at hl; exact hl
theorem nxt_item (S : Sim K m h H) {it : Itv} {J : L2.It} {i : Nat} {x : MV} (r : JR K m H it J) (e : nxt h it i = some (some x)) : J.go i H ∧ ∀ y H', J.yld i H y H' → Post K m H m H' ∧ Sim K m h H' ∧ VR K m H' x y := by
  cases it with
  | il l =>
    obtain ⟨a, ha, rfl⟩ := r
    unfold nxt at e
    dsimp only at e
    split at e
    · rename_i xs e1
      obtain ⟨vs, h1, r1⟩ := S.lst ha e1
      have e := Option.some.inj e
      obtain ⟨v, e2, q⟩ := r1.get e
      refine ⟨⟨vs, v, SqL.of h1, e2⟩, fun y H' hy => ?_⟩
      obtain ⟨rfl, hy⟩ := hy
      have e3 := hy vs (SqL.of h1)
      rw [e2] at e3
      cases e3
      exact ⟨Post.refl, S, q⟩
    · cases e
  | vs xs =>
    have e : xs[i]? = some x := Option.some.inj e
    rcases r with ⟨a, vs, rfl, q, t⟩ | ⟨a, vs, rfl, q, t⟩ | ⟨z, rfl, rfl⟩ | ⟨lo, hi, rfl, rfl⟩
    · obtain ⟨v, e2, rv⟩ := t.get e
      refine ⟨⟨vs, v, q, e2⟩, fun y H' hy => ?_⟩
      obtain ⟨rfl, hy⟩ := hy
      have e3 := hy vs q
      rw [e2] at e3
      cases e3
      exact ⟨Post.refl, S, rv⟩
    · obtain ⟨v, e2, rv⟩ := t.get e
      refine ⟨⟨vs, v, q.sq, e2⟩, fun y H' hy => ?_⟩
      obtain ⟨rfl, hy⟩ := hy
      have e3 := hy vs q.sq
      rw [e2] at e3
      cases e3
      exact ⟨Post.refl, S, rv⟩
    · have hl := (List.getElem?_eq_some_iff.mp e).1
      rw [List.length_map, Array.length_toList] at hl
      refine ⟨hl, fun y H' hy => ?_⟩
      obtain ⟨rfl, c, e2, rfl⟩ := hy
      rw [List.getElem?_map, Array.getElem?_toList, e2] at e
      cases e
      exact ⟨Post.refl, S, vr_str _⟩
    · obtain ⟨hl, rfl⟩ := range_get e
      refine ⟨hl, fun y H' hy => ?_⟩
      obtain ⟨rfl, rfl⟩ := hy
      exact ⟨Post.refl, S, vr_int _⟩
end
/-- for -/
theorem for_lift {K : PySem.W.Frag} {fi : Env → M Itv} {fg : MV → Env → M Env} {fb : Env → M (Env × Fl)} {W : Nat} {D : Ends} {σ : L2.St} {H : Hp}
    (w : tSt K (fun ρ => (fi ρ).bnd fun J => forLoop fg fb J W 0 ρ) D σ H) : tFor (tI K fi) (tG K fg) (tSt K fb) D σ H := by
  obtain ⟨m, h, ρ, S, en, w⟩ := w
  refine liftS (R := JR K) (g := fun J ρ => forLoop fg fb J W 0 ρ) S en w fun m1 h1 it J H1 P S1 en1 rJ w1 => ?_
  refine ⟨fun i μ σ' H' => ∃ m h ρ, Sim K m h H' ∧ EnvR K m H' ρ σ' ∧ JR K m H' it J ∧ WS K (forLoop fg fb it μ i ρ h) m H' D, ⟨W, m1, h1, ρ, S1, en1, rJ, w1⟩, ?_⟩
  rintro i μ σ2 H2 ⟨m2, h2, ρ2, S2, en2, r2, w2⟩
  cases μ with
  | zero => exact False.elim w2
  | succ μ =>
    unfold forLoop at w2
    cases e : nxt h2 it i with
    | none => rw [e] at w2; exact False.elim w2
    | some o =>
      rw [e] at w2
      cases o with
      | none => exact .inl ⟨nxt_stop S2 r2 e, WS.ret (p := (ρ2, Fl.nx)) w2 S2 en2⟩
      | some x =>
        obtain ⟨go, yl⟩ := nxt_item S2 r2 e
        refine .inr ⟨go, fun σ' H' => ∃ m h ρ, Sim K m h H' ∧ EnvR K m H' ρ σ' ∧ JR K m H' it J ∧ WS K (forLoop fg fb it μ (i + 1) ρ h) m H' D, fun σ' H' q => ⟨μ, Nat.lt_succ_self _, q⟩, fun y H3 hy => ?_⟩
        obtain ⟨P3, S3, rv⟩ := yl y H3 hy
        have w3 := WS.at w2 P3
        refine ⟨m2, h2, ρ2, x, S3, en2.mono P3, rv, (WS.bind (Rx := rE K) w3).mono fun σ4 H4 ⟨m4, h4, ρ4, P4, S4, en4, w4⟩ => ?_⟩
        refine ⟨m4, h4, ρ4, S4, en4, WS.seq w4 fun p m5 h5 H5 σ5 P5 S5 en5 w5 => ?_⟩
        have r5 := ((r2.mono P3).mono P4).mono P5
        obtain ⟨ρ5, fl⟩ := p
        cases fl with
        | nx => exact ⟨m5, h5, ρ5, S5, en5, r5, w5⟩
        | ct => exact ⟨m5, h5, ρ5, S5, en5, r5, w5⟩
        | bk => exact WS.ret (p := (ρ5, Fl.nx)) w5 S5 en5
        | rt v => exact WS.ret (p := (ρ5, Fl.rt v)) w5 S5 en5
/-- while -/
theorem whl_lift {K : PySem.W.Frag} {ft : Env → M Bool} {fb : Env → M (Env × Fl)} {W : Nat} {D : Ends} {σ : L2.St} {H : Hp}
    (w : tSt K (fun ρ => whlLoop ft fb W ρ) D σ H) : tWhile (tT K ft) (tSt K fb) D σ H := by
  obtain ⟨m, h, ρ, S, en, w⟩ := w
  refine ⟨fun μ σ' H' => ∃ m h ρ, Sim K m h H' ∧ EnvR K m H' ρ σ' ∧ WS K (whlLoop ft fb μ ρ h) m H' D, ⟨W, m, h, ρ, S, en, w⟩, ?_⟩
  rintro μ σ2 H2 ⟨m2, h2, ρ2, S2, en2, w2⟩
  cases μ with
  | zero => exact False.elim w2
  | succ μ =>
    unfold whlLoop at w2
    refine liftS (R := rId) (f := ft) (g := fun k ρ2 => if k then (fb ρ2).bnd fun p => match p.2 with
      | .nx => whlLoop ft fb μ p.1
      | .ct => whlLoop ft fb μ p.1
      | .bk => .ret (p.1, .nx)
      | .rt v => .ret (p.1, .rt v)
    else .ret (ρ2, .nx)) S2 en2 w2 fun m3 h3 k b H3 P3 S3 en3 e w3 => ?_
    cases e
    cases k with
    | false =>
      rw [if_neg Bool.false_ne_true]
      exact WS.ret (p := (ρ2, Fl.nx)) w3 S3 en3
    | true =>
      rw [if_pos rfl]
      replace w3 : WS K ((fb ρ2).bnd (fun p => match p.2 with
      | .nx => whlLoop ft fb μ p.1
      | .ct => whlLoop ft fb μ p.1
      | .bk => .ret (p.1, .nx)
      | .rt v => .ret (p.1, .rt v)) h3) m3 H3 D := w3
      refine ⟨fun σ' H' => ∃ m h ρ, Sim K m h H' ∧ EnvR K m H' ρ σ' ∧ WS K (whlLoop ft fb μ ρ h) m H' D, fun σ' H' q => ⟨μ, Nat.lt_succ_self _, q⟩, ?_⟩
      refine ⟨m3, h3, ρ2, S3, en3, WS.seq w3 fun p m5 h5 H5 σ5 P5 S5 en5 w5 => ?_⟩
      obtain ⟨ρ5, fl⟩ := p
      cases fl with
      | nx => exact ⟨m5, h5, ρ5, S5, en5, w5⟩
      | ct => exact ⟨m5, h5, ρ5, S5, en5, w5⟩
      | bk => exact WS.ret (p := (ρ5, Fl.nx)) w5 S5 en5
      | rt v => exact WS.ret (p := (ρ5, Fl.rt v)) w5 S5 en5
/-- a target of a comprehension: it stores in own slots alone -/
def tGw (K : PySem.W.Frag) (own : List Nat) (f : MV → Env → M Env) : TG := fun v σ H Q => ∃ m h ρ x, Sim K m h H ∧ EnvR K m H ρ σ ∧ VR K m H x v ∧ WP K (rE K) (f x ρ h) m H (fun σ' H' => L2.wipe σ' own = L2.wipe σ own → Q σ' H')
theorem WP.bind' {K : PySem.W.Frag} {α β γ δ : Type} {Rx : List Addr → Hp → α → β → Prop} {R : List Addr → Hp → γ → δ → Prop} {x : M α} {f : α → M γ} {m : List Addr} {h0 : MH} {H : Hp} {Q : δ → Hp → Prop} (h : WP K R (M.bnd x f h0) m H Q) (m2 : List Addr) (H2 : Hp) :
    WP K Rx (x h0) m2 H2 (fun b H3 => ∃ m3 h3 a, Post K m2 H2 m3 H3 ∧ Sim K m3 h3 H3 ∧ Rx m3 H3 a b ∧ WP K R (f a h3) m H Q) := by
  unfold M.bnd at h
  cases e : x h0 with
  | ok a h' =>
    rw [e] at h
    exact fun m' H' b P S r => ⟨m', h', a, P, S, r, h⟩
  | exc _ _ => rw [e] at h; exact h
  | stuck => rw [e] at h; exact h
theorem WP.bnd_bnd {K : PySem.W.Frag} {α β γ δ : Type} {R : List Addr → Hp → γ → δ → Prop} {x : M α} {f : α → M β} {g : β → M γ} {h0 : MH} : M.bnd (M.bnd x f) g h0 = M.bnd x (fun a => M.bnd (f a) g) h0 := by
  unfold M.bnd
  cases x h0 <;> rfl
theorem wipe_get (τ : L2.St) (j : Nat) : ∀ vs : List Nat, (L2.wipe τ vs)[j]? = if j ∈ vs then (τ[j]?).map (fun _ => none) else τ[j]?
  | [] => rfl
  | v :: vs => by
    have ih := wipe_get τ j vs
    unfold L2.wipe
    by_cases hv : v = j
    · subst hv
      rw [if_pos List.mem_cons_self]
      by_cases hl : v < (L2.wipe τ vs).length
      · rw [List.getElem?_set_self hl]
        rw [L2.wipe_length] at hl
        rw [List.getElem?_eq_getElem hl]
        rfl
      · rw [List.getElem?_eq_none (by simpa using hl)]
        rw [L2.wipe_length] at hl
        rw [List.getElem?_eq_none (by omega)]
        rfl
    · rw [List.getElem?_set_ne hv, ih]
      by_cases hi : j ∈ vs
      · rw [if_pos hi, if_pos (List.mem_cons_of_mem _ hi)]
      · rw [if_neg hi, if_neg (fun z => (List.mem_cons.mp z).elim (fun e => hv e.symm) hi)]
theorem wipe_wipe (σ : L2.St) (own : List Nat) : L2.wipe (L2.wipe σ own) own = L2.wipe σ own := by
  apply List.ext_getElem?
  intro i
  rw [wipe_get, wipe_get]
  by_cases hi : i ∈ own
  · rw [if_pos hi, if_pos hi]
    cases σ[i]? <;> rfl
  · rw [if_neg hi]
theorem wipe_set (σ : L2.St) {own : List Nat} {i : Nat} (hi : i ∈ own) (x : Option V) : L2.wipe (σ.set i x) own = L2.wipe σ own := by
  apply List.ext_getElem?
  intro j
  rw [wipe_get, wipe_get]
  by_cases hj : j ∈ own
  · rw [if_pos hj, if_pos hj]
    by_cases hij : i = j
    · subst hij
      by_cases hl : i < σ.length
      · rw [List.getElem?_set_self hl, List.getElem?_eq_getElem hl]; rfl
      · rw [List.getElem?_eq_none (by simpa using hl), List.getElem?_eq_none (by omega)]
    · rw [List.getElem?_set_ne hij]
  · rw [if_neg hj, if_neg hj, List.getElem?_set_ne (fun e => hj (by rw [← e]; exact hi))]
theorem M.bnd_congr {α β : Type} {x y : M α} {f : α → M β} {h : MH} (e : x h = y h) : M.bnd x f h = M.bnd y f h := by
  unfold M.bnd
  rw [e]
theorem lcLoop_eq {step : MV → M (Option MV)} {it : Itv} {w i : Nat} {acc : List MV} {h : MH} : lcLoop step it (w + 1) i acc h = match nxt h it i with
    | none => .stuck
    | some none => .ok acc h
    | some (some x) => ((step x).bnd fun o => match o with
      | some y => if fitsL acc.length then lcLoop step it w (i + 1) (acc ++ [y]) else .stk
      | none => lcLoop step it w (i + 1) acc) h := rfl
theorem lcStep_eq {fg : MV → Env → M Env} {ft : Env → M Bool} {fe : Env → M MV} {ρ : Env} {x : MV} : lcStep fg ft fe ρ x = (fg x ρ).bnd fun ρ' => (ft ρ').bnd fun k => if k then (fe ρ').bnd fun y => .ret (some y) else .ret none := rfl
/-- a comprehension -/
theorem lc_lift {K : PySem.W.Frag} {fi : Env → M Itv} {fg : MV → Env → M Env} {ft : Env → M Bool} {fe : Env → M MV} {own : List Nat} {W : Nat} {Q : VK} {σ : L2.St} {H : Hp}
    (w : tE K (fun ρ => (fi ρ).bnd fun J => (lcLoop (lcStep fg ft fe (wipeE ρ own)) J W 0 []).bnd fun ys => M.alloc (.lst ys)) σ H Q) :
    tLc (tI K fi) (tGw K own fg) (tT K ft) (tE K fe) own σ H Q := by
  obtain ⟨m, h, ρ, S, en, w⟩ := w
  refine liftG (R := JR K) (f := fi) (g := fun J ρ => (lcLoop (lcStep fg ft fe (wipeE ρ own)) J W 0 []).bnd fun ys => M.alloc (.lst ys)) S en w fun m1 h1 it J H1 P S1 en1 rJ w1 => ?_
  intro D hD
  have PD : Post K m1 H1 m1 (upd H1 D (.lst [])) := ⟨List.prefix_refl _, fun _ _ q => sqT_upd q (.inl hD), fun _ _ q => roL_upd q (.inl hD), fun a o _ e => by rw [upd_ne (ne_of_none e hD)]; exact e, fun _ z n => absurd z n⟩
  have SD : Sim K m1 h1 (upd H1 D (.lst [])) := ⟨S1.len, S1.nd, fun l a o e1 e2 => (S1.ob l a o e1 e2).mono PD fun u e => by rw [upd_ne (ne_of_none e hD)]; exact e⟩
  have nD : D ∉ m1 := S1.notIn hD
  refine ⟨fun i μ H' => ∃ m h acc vs, Sim K m h H' ∧ EnvR K m H' ρ σ ∧ JR K m H' it J ∧ D ∉ m ∧ H' D = some (.lst vs) ∧ VRs K m H' acc vs ∧ Post K m1 H1 m H' ∧
    WP K (rV K) (((lcLoop (lcStep fg ft fe (wipeE ρ own)) it μ i acc).bnd fun ys => M.alloc (.lst ys)) h) m1 H1 Q,
    ⟨W, m1, h1, [], [], SD, en1.mono PD, rJ.mono PD, nD, upd_same, by unfold VRs; rfl, PD, w1⟩, ?_⟩
  rintro i μ H2 ⟨m2, h2, acc, vs, S2, en2, r2, n2, hD2, ra, P2, w2⟩
  cases μ with
  | zero => exact False.elim w2
  | succ μ =>
    cases e : nxt h2 it i with
    | none =>
      rw [M.bnd_congr (y := fun _ => .stuck) (by rw [lcLoop_eq, e])] at w2
      exact False.elim w2
    | some o =>
      cases o with
      | none =>
        refine .inl ⟨nxt_stop S2 r2 e, ?_⟩
        rw [M.bnd_congr (y := M.ret acc) (by rw [lcLoop_eq, e]; rfl)] at w2
        have w3 : WP K (rV K) (M.alloc (.lst acc) h2) m1 H1 Q := w2
        refine w3 (m2 ++ [D]) H2 (.ref D) ⟨P2.pre.trans (List.prefix_append _ _), P2.tup, P2.ro, P2.out, fun a z n => ?_⟩ (S2.adopt n2 ⟨vs, hD2, ra.mn Mon.adopt⟩) ?_
        · rcases List.mem_append.mp z with z | z
          · exact P2.new a z n
          · rw [List.mem_singleton.mp z]; exact hD
        · show VR _ _ _ _ _
          unfold VR
          exact ⟨D, by rw [← S2.len]; simp, rfl⟩
      | some x =>
        obtain ⟨go, yl⟩ := nxt_item S2 r2 e
        refine .inr ⟨go, fun H' => ∃ m h acc vs, Sim K m h H' ∧ EnvR K m H' ρ σ ∧ JR K m H' it J ∧ D ∉ m ∧ H' D = some (.lst vs) ∧ VRs K m H' acc vs ∧ Post K m1 H1 m H' ∧
          WP K (rV K) (((lcLoop (lcStep fg ft fe (wipeE ρ own)) it μ (i + 1) acc).bnd fun ys => M.alloc (.lst ys)) h) m1 H1 Q, fun H' q => ⟨μ, Nat.lt_succ_self _, q⟩, fun y H3 hy => ?_⟩
        obtain ⟨P3, S3, rv⟩ := yl y H3 hy
        rw [M.bnd_congr (y := (lcStep fg ft fe (wipeE ρ own) x).bnd fun o => match o with
          | some y => if fitsL acc.length then lcLoop (lcStep fg ft fe (wipeE ρ own)) it μ (i + 1) (acc ++ [y]) else .stk
          | none => lcLoop (lcStep fg ft fe (wipeE ρ own)) it μ (i + 1) acc) (by rw [lcLoop_eq, e]), WP.bnd_bnd (K := K) (R := rV K)] at w2
        rw [lcStep_eq] at w2
        rw [WP.bnd_bnd (K := K) (R := rV K)] at w2
        refine ⟨m2, h2, wipeE ρ own, x, S3, (en2.mono P3).wipe own, rv, (WP.bind' (Rx := rE K) w2 m2 H3).mono fun σ4 H4 ⟨m4, h4, ρ4, P4, S4, en4, w4⟩ hwp => ⟨hwp.trans (wipe_wipe σ own), ?_⟩⟩
        rw [WP.bnd_bnd (K := K) (R := rV K)] at w4
        refine ⟨m4, h4, ρ4, S4, en4, (WP.bind' (Rx := rId) w4 m4 H4).mono fun b H5 ⟨m5, h5, k, P5, S5, ek, w5⟩ => ?_⟩
        cases ek
        have PP := (P3.trans P4).trans P5
        cases b with
        | false =>
          rw [if_neg Bool.false_ne_true]
          have n5 : D ∉ m5 := fun z => by
            have q := PP.new D z n2
            rw [hD2] at q; cases q
          exact ⟨m5, h5, acc, vs, S5, en2.mono PP, r2.mono PP, n5, PP.out D _ n2 hD2, ra.mono PP, P2.trans PP, w5⟩
        | true =>
          rw [if_pos rfl]
          replace w5 : WP K (rV K) (M.bnd (M.bnd ((fe ρ4).bnd fun y => M.ret (some y)) fun o => match o with
            | some y => if fitsL acc.length then lcLoop (lcStep fg ft fe (wipeE ρ own)) it μ (i + 1) (acc ++ [y]) else .stk
            | none => lcLoop (lcStep fg ft fe (wipeE ρ own)) it μ (i + 1) acc) (fun ys => M.alloc (.lst ys)) h5) m1 H1 Q := by
            rw [WP.bnd_bnd (K := K) (R := rV K)]
            exact w5
          rw [WP.bnd_bnd (K := K) (R := rV K), WP.bnd_bnd (K := K) (R := rV K)] at w5
          refine ⟨m5, h5, ρ4, S5, en4.mono P5, (WP.bind' (Rx := rV K) w5 m5 H5).mono fun z H6 ⟨m6, h6, zv, P6, S6, rz, w6⟩ => ?_⟩
          have PQ := PP.trans P6
          have n6 : D ∉ m6 := fun z => by
            have q := PQ.new D z n2
            rw [hD2] at q; cases q
          have h6D := PQ.out D _ n2 hD2
          replace w6 : WP K (rV K) (M.bnd (if fitsL acc.length then lcLoop (lcStep fg ft fe (wipeE ρ own)) it μ (i + 1) (acc ++ [zv]) else .stk) (fun ys => M.alloc (.lst ys)) h6) m1 H1 Q := w6
          cases hf : fitsL acc.length with
          | false =>
            rw [hf] at w6
            exact False.elim w6
          | true =>
            rw [hf] at w6
            have A6 : Mon K m6 H6 m6 (upd H6 D (.lst (vs ++ [z]))) := Mon.aside h6D
            refine ⟨vs, h6D, by rw [← ra.length]; exact fitsL_lt hf, m6, h6, acc ++ [zv], vs ++ [z], S6.aside h6D n6, ⟨(en2.mono PQ).1, fun j u ej => ?_⟩, ?_, n6, upd_same, (((ra.mono PQ).append (VRs.one rz)).mn A6), ?_, w6⟩
            · obtain ⟨xx, e1, e2⟩ := (en2.mono PQ).2 j u ej
              exact ⟨xx, e1, e2.mn A6⟩
            · cases it with
              | il l => exact r2.mono PQ
              | vs xs =>
                rcases r2.mono PQ with ⟨a, us, q1, q, t⟩ | ⟨a, us, q1, q, t⟩ | q | q
                · exact .inl ⟨a, us, q1, A6.tup _ _ q, t.mn A6⟩
                · exact .inr (.inl ⟨a, us, q1, A6.ro _ _ q, t.mn A6⟩)
                · exact .inr (.inr (.inl q))
                · exact .inr (.inr (.inr q))
            · have PR := P2.trans PQ
              refine ⟨PR.pre, fun a us q => A6.tup a us (PR.tup a us q), fun a us q => A6.ro a us (PR.ro a us q), fun a o n e => ?_, PR.new⟩
              rw [upd_ne (ne_of_none e hD)]
              exact PR.out a o n e
end MP
/-! MP: each construct lifted. -/
namespace MP
open PySem PySem.Spec PyProof.Rows L2
section
variable {X : Cx} {ea eb ec : Expr} {pos : Pos} {fa fb fc : Env → M MV} {ta tb tc : Env → M Bool}
/-! ### the syntax' side conditions -/
def noStar : Expr → Bool
  | .Starred _ _ => false
  | _ => true
theorem star_cons {e : Expr} {es : List Expr} {env : PySem.Env} (h : noStar e = true) : starEach (e :: es) env = (false, eval e env) :: starEach es env := by
  cases e <;> first | rfl | cases h
theorem star_any {env : PySem.Env} : ∀ {es : List Expr}, es.all noStar = true → (backTo pos (starEach es env)).any (·.1) = false
  | [], _ => rfl
  | e :: es, h => by
    rw [List.all_cons, Bool.and_eq_true_iff] at h
    rw [star_cons h.1]
    exact star_any h.2
theorem star_all {env : PySem.Env} : ∀ {es : List Expr}, es.all noStar = true → (backTo pos (starEach es env)).all (fun x => !x.1) = true
  | [], _ => rfl
  | e :: es, h => by
    rw [List.all_cons, Bool.and_eq_true_iff] at h
    rw [star_cons h.1]
    exact star_all h.2
def noSlice : Expr → Bool
  | .Slice _ _ _ _ => false
  | _ => true
theorem plain_ix {e : Expr} (h : noSlice e = true) : PlainIx e := by
  intro o i
  cases e <;> first | rfl | cases h
def noSet : Expr → Bool
  | .Set _ _ _ => false
  | _ => true
theorem no_behind {op : CmpOp} {e : Expr} (h : noSet e = true) : behindInMarks op e = false := by
  cases e <;> first | rfl | cases h
/-- no comprehension, so that nothing is swapped -/
def noComp : Expr → Bool
  | .ListComp _ _ _ _ | .SetComp _ _ _ _ | .DictComp _ _ _ _ _ => false
  | _ => true
theorem no_swaps {e : Expr} {t : Option Expr} {l : Nat} {env : PySem.Env} (h : noComp e = true) : swapsWith e t l env = pure false := by
  cases e <;> first | rfl | cases h
def noSuper : Expr → Bool
  | .Call (.Name _ _) [] [] _ => false
  | _ => true
theorem no_super {e : Expr} {a : Str} {env : PySem.Env} {w : Sem Value} (h : noSuper e = true) : attributeBase e a env w = w := by
  unfold attributeBase
  split
  · cases h
  · rfl
theorem no_folded {e : Expr} {env : PySem.Env} (h : noSet e = true) : ∀ x, foldedSetIterable e env x = pure x := by
  intro x
  cases e <;> first | rfl | cases h
/-- an expression whose test is its value's truth -/
def plainTest : Expr → Bool
  | .UnaryOp .Not _ _ | .BoolOp _ _ _ | .IfExp _ _ _ _ | .Compare _ _ _ _ => false
  | _ => true
theorem plain_test {e : Expr} {env : PySem.Env} (h : plainTest e = true) : ∀ w, isTrue e env w = (do let v ← w; standAt e.pos; holding [v] (truthy v)) := by
  intro w
  cases e with
  | UnaryOp o x p => cases o <;> first | rfl | cases h
  | _ => first | rfl | cases h

/-! ### expressions -/
theorem l_bin (o : Bop) (ha : PE X ea (tE X.K fa)) (hb : PE X eb (tE X.K fb)) : PE X (.BinOp ea (aBop o) eb pos) (tE X.K fun ρ => (fa ρ).bnd fun x => (fb ρ).bnd fun y => binV o x y) :=
  pe_imp (pe_op (op_binM o) ha hb) fun σ H Q ⟨m, h, ρ, S, en, w⟩ =>
    liftG (g := fun x ρ => (fb ρ).bnd fun y => binV o x y) S en w fun m1 h1 x v H1 P1 S1 en1 r1 w1 =>
      liftG (g := fun y _ => binV o x y) S1 en1 w1 fun m2 h2 y u H2 P2 S2 en2 r2 w2 => ⟨m2, h2, x, y, S2, r1.mono P2, r2, w2⟩
theorem l_neg (ha : PE X ea (tE X.K fa)) : PE X (.UnaryOp .USub ea pos) (tE X.K fun ρ => (fa ρ).bnd negV) :=
  pe_imp (pe_un un_neg ha) fun σ H Q ⟨m, h, ρ, S, en, w⟩ =>
    liftG (R := rV X.K) (g := fun x _ => negV x) S en w fun m1 h1 x v H1 P1 S1 en1 r1 w1 => by
      cases x with
      | int i => exact ⟨i, vr_int' r1, w1.ret S1 (vr_int _)⟩
      | _ => exact False.elim w1
theorem l_cmp (sm : SmOk X) (hu : X.A.units + 65 < cLine) (o : Cop) (hn : noSet eb = true) (ha : PE X ea (tE X.K fa)) (hb : PE X eb (tE X.K fb)) :
    PE X (.Compare ea [aCop o] [eb] pos) (tE X.K fun ρ => (fa ρ).bnd fun x => (fb ρ).bnd fun y => (cmpV o x y).bnd fun k => .ret (MV.bl k)) :=
  pe_imp (pe_cmpR (op_cmpM sm hu o) ha hb (no_behind hn)) fun σ H Q ⟨m, h, ρ, S, en, w⟩ =>
    liftG (R := rV X.K) (g := fun x ρ => (fb ρ).bnd fun y => (cmpV o x y).bnd fun k => .ret (MV.bl k)) S en w fun m1 h1 x v H1 P1 S1 en1 r1 w1 =>
      liftG (R := rV X.K) (g := fun y _ => (cmpV o x y).bnd fun k => .ret (MV.bl k)) S1 en1 w1 fun m2 h2 y u H2 P2 S2 en2 r2 w2 =>
        ⟨m2, h2, x, y, S2, r1.mono P2, r2, (WP.bind (Rx := rId) w2).mono fun k H3 ⟨m3, h3, k', P3, S3, e, w3⟩ => by
          cases e
          exact w3.ret S3 (vr_bl _)⟩
theorem lt_cmp (sm : SmOk X) (hu : X.A.units + 65 < cLine) (o : Cop) (hn : noSet eb = true) (ha : PE X ea (tE X.K fa)) (hb : PE X eb (tE X.K fb)) :
    PT X (.Compare ea [aCop o] [eb] pos) (tT X.K fun ρ => (fa ρ).bnd fun x => (fb ρ).bnd fun y => cmpV o x y) :=
  pt_imp (pt_cmpR (op_cmpM sm hu o) ha hb (no_behind hn)) fun σ H Q ⟨m, h, ρ, S, en, w⟩ =>
    liftG (R := rV X.K) (g := fun x ρ => (fb ρ).bnd fun y => cmpV o x y) S en w fun m1 h1 x v H1 P1 S1 en1 r1 w1 =>
      liftG (R := rV X.K) (g := fun y _ => cmpV o x y) S1 en1 w1 fun m2 h2 y u H2 P2 S2 en2 r2 w2 =>
        ⟨m2, h2, x, y, S2, r1.mono P2, r2, w2.mono fun k H3 q => ⟨k, rfl, q⟩⟩
theorem marks2 {o p : CmpOp} {b c : Expr} (h : noSet c = true) : lastMarks [o, p] [b, c] = false := by
  show behindInMarks p c = false
  exact no_behind h
theorem l_chain (sm : SmOk X) (hu : X.A.units + 65 < cLine) (o p : Cop) (hn : noSet ec = true) (ha : PE X ea (tE X.K fa)) (hb : PE X eb (tE X.K fb)) (hc : PE X ec (tE X.K fc)) :
    PE X (.Compare ea [aCop o, aCop p] [eb, ec] pos) (tE X.K fun ρ => (fa ρ).bnd fun x => (fb ρ).bnd fun y => (cmpV o x y).bnd fun k =>
      if k then (fc ρ).bnd fun z => (cmpV p y z).bnd fun k => .ret (MV.bl k) else .ret (MV.bl false)) :=
  pe_imp (L2.pe_chain (op_cmpM sm hu o) (op_cmpM sm hu p) ha hb hc (marks2 hn)) fun σ H Q ⟨m, h, ρ, S, en, w⟩ =>
    liftG (R := rV X.K) (g := fun x ρ => (fb ρ).bnd fun y => (cmpV o x y).bnd fun k => if k then (fc ρ).bnd fun z => (cmpV p y z).bnd fun k => .ret (MV.bl k) else .ret (MV.bl false)) S en w fun m1 h1 x v H1 P1 S1 en1 r1 w1 =>
      liftG (R := rV X.K) (g := fun y ρ => (cmpV o x y).bnd fun k => if k then (fc ρ).bnd fun z => (cmpV p y z).bnd fun k => .ret (MV.bl k) else .ret (MV.bl false)) S1 en1 w1 fun m2 h2 y u H2 P2 S2 en2 r2 w2 =>
        ⟨m2, h2, x, y, S2, r1.mono P2, r2, (WP.bind (Rx := rId) w2).mono fun k H3 ⟨m3, h3, k', P3, S3, e, w3⟩ => by
          cases e
          refine ⟨k, rfl, ?_⟩
          cases k with
          | false =>
            rw [if_neg Bool.false_ne_true]
            exact WP.ret (a := MV.bl false) w3 S3 (vr_bl _)
          | true =>
            rw [if_pos rfl]
            exact liftG (R := rV X.K) (g := fun z _ => (cmpV p y z).bnd fun k => .ret (MV.bl k)) S3 (en2.mono P3) w3 fun m4 h4 z uz H4 P4 S4 en4 r4 w4 =>
              ⟨m4, h4, y, z, S4, (r2.mono P3).mono P4, r4, (WP.bind (Rx := rId) w4).mono fun k H5 ⟨m5, h5, k', P5, S5, e, w5⟩ => by
                cases e
                exact w5.ret S5 (vr_bl _)⟩⟩
theorem lt_chain (sm : SmOk X) (hu : X.A.units + 65 < cLine) (o p : Cop) (hn : noSet ec = true) (ha : PE X ea (tE X.K fa)) (hb : PE X eb (tE X.K fb)) (hc : PE X ec (tE X.K fc)) :
    PT X (.Compare ea [aCop o, aCop p] [eb, ec] pos) (tT X.K fun ρ => (fa ρ).bnd fun x => (fb ρ).bnd fun y => (cmpV o x y).bnd fun k =>
      if k then (fc ρ).bnd fun z => cmpV p y z else .ret false) :=
  pt_imp (L2.pt_chain (op_cmpM sm hu o) (op_cmpM sm hu p) ha hb hc (marks2 hn)) fun σ H Q ⟨m, h, ρ, S, en, w⟩ =>
    liftG (R := rV X.K) (g := fun x ρ => (fb ρ).bnd fun y => (cmpV o x y).bnd fun k => if k then (fc ρ).bnd fun z => cmpV p y z else .ret false) S en w fun m1 h1 x v H1 P1 S1 en1 r1 w1 =>
      liftG (R := rV X.K) (g := fun y ρ => (cmpV o x y).bnd fun k => if k then (fc ρ).bnd fun z => cmpV p y z else .ret false) S1 en1 w1 fun m2 h2 y u H2 P2 S2 en2 r2 w2 =>
        ⟨m2, h2, x, y, S2, r1.mono P2, r2, (WP.bind (Rx := rId) w2).mono fun k H3 ⟨m3, h3, k', P3, S3, e, w3⟩ => by
          cases e
          refine ⟨k, rfl, ?_⟩
          cases k with
          | false =>
            rw [if_neg Bool.false_ne_true]
            exact ⟨false, rfl, WP.ret (a := false) w3 S3 rfl⟩
          | true =>
            rw [if_pos rfl]
            exact liftG (R := rV X.K) (g := fun z _ => cmpV p y z) S3 (en2.mono P3) w3 fun m4 h4 z uz H4 P4 S4 en4 r4 w4 =>
              ⟨m4, h4, y, z, S4, (r2.mono P3).mono P4, r4, w4.mono fun k H5 q => ⟨k, rfl, q⟩⟩⟩
/-- is a constant -/
theorem is_bool_gen {M : Model} {A : Around} {E : Value → Shared → Prop} {s : Shared} {v : Value} {b : Bool} {Q : Value → Shared → Prop} (nb : ∀ i, v ≠ .builtin i) (h : Q (.bool (v == .bool b)) s) : wpAny M A (compareOp .Is v (.bool b)) Q E s := by
  cases v <;> first | exact wpAny_pure h | exact absurd rfl (nb _)
theorem isnot_bool_gen {M : Model} {A : Around} {E : Value → Shared → Prop} {s : Shared} {v : Value} {b : Bool} {Q : Value → Shared → Prop} (nb : ∀ i, v ≠ .builtin i) (h : Q (.bool (!(v == .bool b))) s) : wpAny M A (compareOp .IsNot v (.bool b)) Q E s := by
  cases v <;> first | exact wpAny_pure h | exact absurd rfl (nb _)
def cK : MV → Option Const
  | .non => some .none
  | .bl b => some (.bool b)
  | .int i => some (.int i)
  | .str s => some (.str s)
  | _ => none
theorem isK_val {K : PySem.W.Frag} {m : List Addr} {H : Hp} {x k : MV} {v : V} {u : Value} {α β : Type} {R : List Addr → Hp → α → β → Prop} {f : Bool → M α} {h : MH} {Q : β → Hp → Prop} (hk : k = .non ∨ ∃ b, k = .bl b) (r : VR K m H x v) (q : L2.RelV v u) (w : WP K R (((isKV x k).bnd f) h) m H Q) :
    (∀ i, u ≠ .builtin i) ∧ ∃ b, WP K R (f b h) m H Q ∧ ((k = .non ∧ (u == Value.none) = b) ∨ ∃ c, k = .bl c ∧ (u == Value.bool c) = b) := by
  rcases hk with rfl | ⟨c, rfl⟩
  · cases x with
    | non => rw [vr_non' r] at q; cases q; exact ⟨(fun _ z => nomatch z), true, w, .inl ⟨rfl, rfl⟩⟩
    | bl b => rw [vr_bl' r] at q; cases q; exact ⟨(fun _ z => nomatch z), false, w, .inl ⟨rfl, rfl⟩⟩
    | int b => rw [vr_int' r] at q; obtain ⟨t, rfl⟩ := q; exact ⟨(fun _ z => nomatch z), false, w, .inl ⟨rfl, rfl⟩⟩
    | str b => rw [vr_str' r] at q; obtain ⟨t, rfl⟩ := q; exact ⟨(fun _ z => nomatch z), false, w, .inl ⟨rfl, rfl⟩⟩
    | tup b => obtain ⟨a, vs, rfl, _⟩ := vr_tup' r; cases q; exact ⟨(fun _ z => nomatch z), false, w, .inl ⟨rfl, rfl⟩⟩
    | ro b => obtain ⟨a, vs, rfl, _⟩ := vr_ro' r; cases q; exact ⟨(fun _ z => nomatch z), false, w, .inl ⟨rfl, rfl⟩⟩
    | ref b => obtain ⟨a, _, rfl⟩ := vr_ref' r; cases q; exact ⟨(fun _ z => nomatch z), false, w, .inl ⟨rfl, rfl⟩⟩
  · cases x with
    | non => rw [vr_non' r] at q; cases q; exact ⟨(fun _ z => nomatch z), false, w, .inr ⟨c, rfl, rfl⟩⟩
    | bl b => rw [vr_bl' r] at q; cases q; exact ⟨(fun _ z => nomatch z), b == c, w, .inr ⟨c, rfl, by cases b <;> cases c <;> rfl⟩⟩
    | int b => rw [vr_int' r] at q; obtain ⟨t, rfl⟩ := q; exact ⟨(fun _ z => nomatch z), false, w, .inr ⟨c, rfl, rfl⟩⟩
    | str b => rw [vr_str' r] at q; obtain ⟨t, rfl⟩ := q; exact ⟨(fun _ z => nomatch z), false, w, .inr ⟨c, rfl, rfl⟩⟩
    | tup b => obtain ⟨a, vs, rfl, _⟩ := vr_tup' r; cases q; exact ⟨(fun _ z => nomatch z), false, w, .inr ⟨c, rfl, rfl⟩⟩
    | ro b => obtain ⟨a, vs, rfl, _⟩ := vr_ro' r; cases q; exact ⟨(fun _ z => nomatch z), false, w, .inr ⟨c, rfl, rfl⟩⟩
    | ref b => obtain ⟨a, _, rfl⟩ := vr_ref' r; cases q; exact ⟨(fun _ z => nomatch z), false, w, .inr ⟨c, rfl, rfl⟩⟩
def isKop (ng : Bool) : CmpOp := if ng then .IsNot else .Is
/-- the rule of is, by values -/
def rK (K : PySem.W.Frag) (ng : Bool) (k : MV) : R2 := fun x y H Q => ∃ m h a, Sim K m h H ∧ VR K m H a x ∧ ((k = .non ∧ y = .non) ∨ ∃ b, k = .bl b ∧ y = .bl b) ∧ WP K rId (((isKV a k).bnd fun b => .ret (if ng then !b else b)) h) m H (fun b H' => Q (.bl b) H')
theorem op_isK (ng : Bool) (k : MV) : OpR X (compareOp (isKop ng)) (rK X.K ng k) := by
  intro pins s σ H x y v u Q I rx ry ⟨m, h, a, S, ra, hk, w⟩
  obtain ⟨nb, b, w, e⟩ := isK_val (hk.imp (fun z => z.1) fun ⟨b, z, _⟩ => ⟨b, z⟩) ra rx w
  have q := w.ret S rfl
  rcases hk with ⟨rfl, rfl⟩ | ⟨c, rfl, rfl⟩
  · cases ry
    rcases e with ⟨_, e⟩ | ⟨_, e, _⟩
    · cases ng with
      | false => exact is_none_gen ⟨.bl b, H, I, by rw [e]; rfl, q⟩
      | true => exact isnot_none_gen ⟨.bl (!b), H, I, by rw [e]; rfl, q⟩
    · cases e
  · cases ry
    rcases e with ⟨e, _⟩ | ⟨c', e', e⟩
    · cases e
    · cases e'
      cases ng with
      | false => exact is_bool_gen nb ⟨.bl b, H, I, by rw [e]; rfl, q⟩
      | true => exact isnot_bool_gen nb ⟨.bl (!b), H, I, by rw [e]; rfl, q⟩
theorem pe_const {k : MV} {c : Const} {j : Nat} {p : Pos} (hk : (k = .non ∧ c = .none) ∨ ∃ b, k = .bl b ∧ c = .bool b) : PE X (.Constant c j p) (fun _ H Q => ∀ y, ((k = .non ∧ y = .non) ∨ ∃ b, k = .bl b ∧ y = .bl b) → Q y H) := by
  rcases hk with ⟨rfl, rfl⟩ | ⟨b, rfl, rfl⟩
  · exact pe_imp pe_non fun σ H Q q => q .non (.inl ⟨rfl, rfl⟩)
  · exact pe_imp pe_bl fun σ H Q q => q (.bl b) (.inr ⟨b, rfl, rfl⟩)
theorem l_isK (ng : Bool) {k : MV} {c : Const} {j : Nat} {p : Pos} (hk : (k = .non ∧ c = .none) ∨ ∃ b, k = .bl b ∧ c = .bool b) (ha : PE X ea (tE X.K fa)) :
    PE X (.Compare ea [isKop ng] [.Constant c j p] pos) (tE X.K fun ρ => (fa ρ).bnd fun x => (isKV x k).bnd fun b => .ret (MV.bl (if ng then !b else b))) :=
  pe_imp (pe_cmpR (op_isK ng k) ha (pe_const hk) (by cases ng <;> rfl)) fun σ H Q ⟨m, h, ρ, S, en, w⟩ =>
    liftG (R := rV X.K) (g := fun x _ => (isKV x k).bnd fun b => .ret (MV.bl (if ng then !b else b))) S en w fun m1 h1 x v H1 P1 S1 en1 r1 w1 y hy => by
      refine ⟨m1, h1, x, S1, r1, hy, ?_⟩
      have : WP X.K (rV X.K) ((((isKV x k).bnd fun b => M.ret (if ng then !b else b)).bnd fun b => .ret (MV.bl b)) h1) m1 H1 Q := by
        rw [WP.bnd_bnd (K := X.K) (R := rV X.K)]
        exact w1
      exact (WP.bind (Rx := rId) this).mono fun b H2 ⟨m2, h2, b', P2, S2, e, w2⟩ => by
        cases e
        exact w2.ret S2 (vr_bl _)
theorem lt_isK (ng : Bool) {k : MV} {c : Const} {j : Nat} {p : Pos} (hk : (k = .non ∧ c = .none) ∨ ∃ b, k = .bl b ∧ c = .bool b) (ha : PE X ea (tE X.K fa)) :
    PT X (.Compare ea [isKop ng] [.Constant c j p] pos) (tT X.K fun ρ => (fa ρ).bnd fun x => (isKV x k).bnd fun b => .ret (if ng then !b else b)) :=
  pt_imp (pt_cmpR (op_isK ng k) ha (pe_const hk) (by cases ng <;> rfl)) fun σ H Q ⟨m, h, ρ, S, en, w⟩ =>
    liftG (R := rV X.K) (g := fun x _ => (isKV x k).bnd fun b => .ret (if ng then !b else b)) S en w fun m1 h1 x v H1 P1 S1 en1 r1 w1 y hy =>
      ⟨m1, h1, x, S1, r1, hy, w1.mono fun b H2 q => ⟨b, rfl, q⟩⟩
/-- a value's truth -/
theorem lt_val (hp : plainTest ea = true) (ha : PE X ea (tE X.K fa)) : PT X ea (tT X.K fun ρ => (fa ρ).bnd truV) :=
  pt_imp (pt_truth ha (plain_test hp)) fun σ H Q ⟨m, h, ρ, S, en, w⟩ =>
    liftG (R := rV X.K) (g := fun x _ => truV x) S en w fun m1 h1 x v H1 P1 S1 en1 r1 w1 => tru_of S1 r1 w1
theorem l_not (ha : PE X ea (tE X.K fa)) : PE X (.UnaryOp .Not ea pos) (tE X.K fun ρ => (fa ρ).bnd notV) :=
  pe_imp (pe_not ha) fun σ H Q ⟨m, h, ρ, S, en, w⟩ =>
    liftG (R := rV X.K) (g := fun x _ => notV x) S en w fun m1 h1 x v H1 P1 S1 en1 r1 w1 => by
      cases x with
      | bl i => exact ⟨i, vr_bl' r1, w1.ret S1 (vr_bl _)⟩
      | _ => exact False.elim w1
theorem lt_not (ha : PT X ea (tT X.K ta)) : PT X (.UnaryOp .Not ea pos) (tT X.K fun ρ => (ta ρ).bnd fun k => .ret (!k)) :=
  pt_imp (pt_not ha) fun σ H Q ⟨m, h, ρ, S, en, w⟩ =>
    liftG (R := rId) (g := fun k _ => .ret (!k)) S en w fun m1 h1 k v H1 P1 S1 en1 r1 w1 => by
      cases r1
      exact w1.ret S1 rfl
theorem l_ife (hc : PT X ec (tT X.K tc)) (ha : PE X ea (tE X.K fa)) (hb : PE X eb (tE X.K fb)) : PE X (.IfExp ec ea eb pos) (tE X.K fun ρ => (tc ρ).bnd fun k => if k then fa ρ else fb ρ) :=
  pe_imp (pe_ifExp hc ha hb) fun σ H Q ⟨m, h, ρ, S, en, w⟩ =>
    liftG (R := rId) (g := fun k ρ => if k then fa ρ else fb ρ) S en w fun m1 h1 k v H1 P1 S1 en1 r1 w1 => by
      cases r1
      cases k with
      | false => rw [if_neg Bool.false_ne_true]; exact ⟨m1, h1, ρ, S1, en1, w1⟩
      | true => rw [if_pos rfl]; exact ⟨m1, h1, ρ, S1, en1, w1⟩
/-! and, or -/
def aB (d : Bool) : BoolOp := if d then .And else .Or
theorem l_b1 (d : Bool) (ha : PE X ea (tE X.K fa)) : PE X (.BoolOp (aB d) [ea] pos) (tE X.K fa) := pe_one ha
theorem l_b2 (d : Bool) {er : Expr} {es : List Expr} (ha : PE X ea (tE X.K fa)) (hb : PE X (.BoolOp (aB d) (er :: es) pos) (tE X.K fb)) :
    PE X (.BoolOp (aB d) (ea :: er :: es) pos) (tE X.K fun ρ => (fa ρ).bnd fun x => bopV d (fb ρ) x) := by
  cases d with
  | true =>
    refine pe_imp (pe_and ha hb) fun σ H Q ⟨m, h, ρ, S, en, w⟩ =>
      liftG (R := rV X.K) (g := fun x ρ => bopV true (fb ρ) x) S en w fun m1 h1 x v H1 P1 S1 en1 r1 w1 => ?_
    cases x with
    | bl k =>
      refine ⟨k, vr_bl' r1, ?_⟩
      cases k with
      | true => rw [if_pos rfl]; exact ⟨m1, h1, ρ, S1, en1, w1⟩
      | false => rw [if_neg Bool.false_ne_true]; exact WP.ret (a := MV.bl false) w1 S1 (vr_bl _)
    | _ => exact False.elim w1
  | false =>
    refine pe_imp (pe_or ha hb) fun σ H Q ⟨m, h, ρ, S, en, w⟩ =>
      liftG (R := rV X.K) (g := fun x ρ => bopV false (fb ρ) x) S en w fun m1 h1 x v H1 P1 S1 en1 r1 w1 => ?_
    cases x with
    | bl k =>
      refine ⟨k, vr_bl' r1, ?_⟩
      cases k with
      | true => rw [if_pos rfl]; exact WP.ret (a := MV.bl true) w1 S1 (vr_bl _)
      | false => rw [if_neg Bool.false_ne_true]; exact ⟨m1, h1, ρ, S1, en1, w1⟩
    | _ => exact False.elim w1
theorem lw_1 (d : Bool) (ha : PT X ea (tT X.K ta)) : PW X (.BoolOp (aB d) [ea] pos) (tT X.K ta) := by
  cases d with
  | true => exact pw_and1 ha
  | false => exact pw_or1 ha
theorem lw_2 (d : Bool) {er : Expr} {es : List Expr} (ha : PT X ea (tT X.K ta)) (hb : PW X (.BoolOp (aB d) (er :: es) pos) (tT X.K tb)) :
    PW X (.BoolOp (aB d) (ea :: er :: es) pos) (tT X.K fun ρ => (ta ρ).bnd fun k => if k == d then tb ρ else .ret k) := by
  cases d with
  | true =>
    refine pw_imp (pw_and ha hb) fun σ H Q ⟨m, h, ρ, S, en, w⟩ =>
      liftG (R := rId) (g := fun k ρ => if k == true then tb ρ else .ret k) S en w fun m1 h1 k v H1 P1 S1 en1 r1 w1 => ?_
    cases r1
    cases k with
    | true => rw [if_pos rfl]; exact ⟨m1, h1, ρ, S1, en1, w1⟩
    | false => rw [if_neg Bool.false_ne_true]; exact WP.ret (a := false) w1 S1 rfl
  | false =>
    refine pw_imp (pw_or ha hb) fun σ H Q ⟨m, h, ρ, S, en, w⟩ =>
      liftG (R := rId) (g := fun k ρ => if k == false then tb ρ else .ret k) S en w fun m1 h1 k v H1 P1 S1 en1 r1 w1 => ?_
    cases r1
    cases k with
    | true => rw [if_pos rfl]; exact WP.ret (a := true) w1 S1 rfl
    | false => rw [if_neg Bool.false_ne_true]; exact ⟨m1, h1, ρ, S1, en1, w1⟩
end
end MP
/-! MP: names, displays, calls, items, comprehensions, stores, statements. -/
namespace MP
open PySem PySem.Spec PyProof.Rows L2
section
variable {X : Cx} {ea eb ec : Expr} {es : List Expr} {pos p : Pos} {fa fb fc : Env → M MV} {ta tb tc : Env → M Bool} {fl fk : Env → M (List MV)}
theorem l_var {i : Nat} {x : Str} (hN : X.N[i]? = some x) (hv : Vis X.env.scope x) (hd : (x == ("__debug__" : Str)) = false) (hcd : (x == ("__classdict__" : Str)) = false) :
    PE X (.Name x pos) (tE X.K fun ρ => match ρ[i]? with
    | some (some v) => .ret v
    | _ => .stk) :=
  pe_imp (L2.pe_var hN hv hd hcd) fun σ H Q ⟨m, h, ρ, S, en, w⟩ => by
    cases e : ρ[i]? with
    | none =>
      have w : WP X.K (rV X.K) ((match ρ[i]? with
        | some (some v) => M.ret v
        | _ => M.stk) h) m H Q := w
      rw [e] at w
      exact False.elim w
    | some o =>
      have w : WP X.K (rV X.K) ((match ρ[i]? with
        | some (some v) => M.ret v
        | _ => M.stk) h) m H Q := w
      rw [e] at w
      cases o with
      | none => exact False.elim w
      | some v =>
        obtain ⟨y, e2, r⟩ := en.2 i v e
        exact ⟨y, e2, w.ret S r⟩
theorem l_lit {v : MV} {c : Const} {j : Nat} (h : cK v = some c) : PE X (.Constant c j pos) (tE X.K fun _ => .ret v) := by
  cases v with
  | non => cases h; exact pe_imp pe_non fun σ H Q ⟨m, h, ρ, S, en, w⟩ => w.ret S vr_non
  | bl b => cases h; exact pe_imp pe_bl fun σ H Q ⟨m, h, ρ, S, en, w⟩ => w.ret S (vr_bl _)
  | int b => cases h; exact pe_imp pe_int fun σ H Q ⟨m, h, ρ, S, en, w⟩ => w.ret S (vr_int _)
  | str b => cases h; exact pe_imp pe_str fun σ H Q ⟨m, h, ρ, S, en, w⟩ => w.ret S (vr_str _)
  | _ => cases h
/-- a module's constant -/
structure ConOk (K : PySem.W.Frag) (mg : Str → Option Value) (x : Str) (v : MV) : Prop where
  ex : ∃ u y, mg x = some u ∧ L2.RelV y u ∧ ∀ m H, VR K m H v y
theorem l_glo {x : Str} {v : MV} (hg : Gl X x) (hd : (x == ("__debug__" : Str)) = false) (c : ConOk X.K X.mg x v) : PE X (.Name x pos) (tE X.K fun _ => .ret v) := by
  obtain ⟨u, y, e, r, q⟩ := c.ex
  exact pe_imp (pe_glob hg e r hd) fun σ H Q ⟨m, h, ρ, S, en, w⟩ => w.ret S (q m H)
theorem l_nil : PA X [] (tA X.K fun _ => .ret []) := pa_imp pa_nil fun σ H Q ⟨m, h, ρ, S, en, w⟩ => w.ret S (by show VRs _ _ _ _ _; unfold VRs; rfl)
theorem l_cons (hs : noStar ea = true) (ha : PE X ea (tE X.K fa)) (hr : PA X es (tA X.K fl)) : PA X (ea :: es) (tA X.K fun ρ => (fa ρ).bnd fun x => (fl ρ).bnd fun xs => .ret (x :: xs)) :=
  pa_imp (pa_cons ha hr (star_cons hs)) fun σ H Q ⟨m, h, ρ, S, en, w⟩ =>
    liftG (R := rV X.K) (g := fun x ρ => (fl ρ).bnd fun xs => .ret (x :: xs)) S en w fun m1 h1 x v H1 P1 S1 en1 r1 w1 =>
      liftG (R := rL X.K) (g := fun xs _ => .ret (x :: xs)) S1 en1 w1 fun m2 h2 xs us H2 P2 S2 en2 r2 w2 =>
        w2.ret S2 (by show VRs _ _ _ _ _; unfold VRs; exact ⟨v, us, rfl, r1.mono P2, r2⟩)
theorem l_tup {j : Nat} (hl : PA X es (tA X.K fl)) : PE X (.Tuple es j pos) (tE X.K fun ρ => (fl ρ).bnd tupV) :=
  pe_imp (pe_tup hl) fun σ H Q ⟨m, h, ρ, S, en, w⟩ =>
    liftG (R := rL X.K) (g := fun xs _ => tupV xs) S en w fun m1 h1 xs vs H1 P1 S1 en1 r1 w1 => by
      unfold tupV at w1
      split at w1
      · rename_i hf
        exact ⟨by rw [← r1.length]; exact fits_le hf, wp_tup w1 S1 r1⟩
      · exact False.elim w1
theorem l_lst (hl : PA X es (tA X.K fl)) : PE X (.List es pos) (tE X.K fun ρ => (fl ρ).bnd lstV) :=
  pe_imp (pe_lst hl) fun σ H Q ⟨m, h, ρ, S, en, w⟩ =>
    liftG (R := rL X.K) (g := fun xs _ => lstV xs) S en w fun m1 h1 xs vs H1 P1 S1 en1 r1 w1 => by
      unfold lstV at w1
      split at w1
      · rename_i hf
        exact ⟨by rw [← r1.length]; exact fits_le hf, wp_lst w1 S1 r1⟩
      · exact False.elim w1
theorem l_dct0 : PE X (.Dict [] [] pos) (tE X.K fun _ => (M.ret []).bnd dctV) :=
  pe_imp pe_dnewK fun σ H Q ⟨m, h, ρ, S, en, w⟩ => wp_dct0 w S
theorem l_dct1 {k : Str} {j : Nat} (ha : PE X ea (tE X.K fa)) : PE X (.Dict [some (.Constant (.str k) j p)] [ea] pos) (tE X.K fun ρ => ((M.ret (MV.str k)).bnd fun x => ((fa ρ).bnd fun y => (M.ret []).bnd fun zs => .ret (y :: zs)).bnd fun ys => .ret (x :: ys)).bnd dctV) :=
  pe_imp (pe_disp (pps_cons pe_str ha pps_nil) rfl rfl (by simp) (by simp)) fun σ H Q ⟨m, h, ρ, S, en, w⟩ => by
    intro q hq
    have e : (((M.ret (MV.str k)).bnd fun x => ((fa ρ).bnd fun y => (M.ret []).bnd fun zs => M.ret (y :: zs)).bnd fun ys => M.ret (x :: ys)).bnd dctV) h = ((fa ρ).bnd fun y => dctV [.str k, y]) h := by
      simp only [M.bnd, M.ret]
      generalize fa ρ h = r
      cases r <;> rfl
    replace w : WP X.K (rV X.K) ((((M.ret (MV.str k)).bnd fun x => ((fa ρ).bnd fun y => (M.ret []).bnd fun zs => M.ret (y :: zs)).bnd fun ys => M.ret (x :: ys)).bnd dctV) h) m H Q := w
    rw [e] at w
    have PD : Post X.K m H m (upd H q (.dK [])) := ⟨List.prefix_refl _, fun _ _ z => sqT_upd z (.inl hq), fun _ _ z => roL_upd z (.inl hq), fun a o _ z => by rw [upd_ne (ne_of_none z hq)]; exact z, fun _ z n => absurd z n⟩
    have SD : Sim X.K m h (upd H q (.dK [])) := ⟨S.len, S.nd, fun l a o e1 e2 => (S.ob l a o e1 e2).mono PD fun u z => by rw [upd_ne (ne_of_none z hq)]; exact z⟩
    have nq : q ∉ m := S.notIn hq
    refine ⟨m, h, ρ, SD, en.mono PD, (WP.bind' (Rx := rV X.K) w m (upd H q (.dK []))).mono fun y H3 ⟨m3, h3, x, P3, S3, rx, w3⟩ => ?_⟩
    have n3 : q ∉ m3 := fun z => by
      have := P3.new q z nq
      rw [upd_same] at this; cases this
    have h3q : H3 q = some (.dK []) := P3.out q _ nq upd_same
    refine ⟨h3q, [(Sum.inr k, y)], rfl, by simp, ?_⟩
    have A3 : Mon X.K m3 H3 m3 (upd H3 q (.dK [(Sum.inr k, y)])) := ⟨List.prefix_refl _, fun _ _ z => sqT_upd z (.inr (.inr ⟨_, h3q⟩)), fun _ _ z => roL_upd z (.inr (.inr ⟨_, h3q⟩))⟩
    have S4 : Sim X.K m3 h3 (upd H3 q (.dK [(Sum.inr k, y)])) := ⟨S3.len, S3.nd, fun l a u e1 e2 => (S3.ob l a u e1 e2).mn A3 fun w' z => by
      rw [upd_ne]; exact z
      rintro rfl
      exact n3 (List.mem_of_getElem? e1)⟩
    have w3 : WP X.K (rV X.K) (M.alloc (.dct true [(.str k, x)]) h3) m H Q := w3
    have PR := PD.trans P3
    show Q (.ref q) (upd H3 q (.dK [(Sum.inr k, y)]))
    refine w3 (m3 ++ [q]) _ (.ref q) ⟨PR.pre.trans (List.prefix_append _ _), fun a us z => A3.tup a us (PR.tup a us z), fun a us z => A3.ro a us (PR.ro a us z), fun a o n z => ?_, fun a z n => ?_⟩ (S4.adopt n3 ⟨_, upd_same, ⟨Sum.inr k, y, [], rfl, rfl, (rx.mn A3).mn Mon.adopt, rfl⟩⟩) ?_
    · rw [upd_ne (ne_of_none z hq)]
      exact PR.out a o n z
    · rcases List.mem_append.mp z with z | z
      · exact PR.new a z n
      · rw [List.mem_singleton.mp z]; exact hq
    · show VR _ _ _ _ _
      unfold VR
      exact ⟨q, by rw [← S4.len]; simp, rfl⟩
end
end MP
/-! MP: calls, kinds, methods, items, slices, comprehensions, targets, walks, statements. -/
namespace MP
open PySem PySem.Spec PyProof.Rows L2
section
variable {X : Cx} {ea eb ec : Expr} {es : List Expr} {pos p : Pos} {fa fb fc : Env → M MV} {ta tb tc : Env → M Bool} {fl fk : Env → M (List MV)}
/-! ### calls -/
/-- a def as it is called by position -/
def CallM (X : Cx) (a : Addr) (g : List MV → M MV) : Prop := CallR X (.ref a) (rF X.K g)
theorem l_call0 {x : Str} {a : Addr} {g : List MV → M MV} (hg : Gl X x) (hd : (x == ("__debug__" : Str)) = false) (hm : X.mg x = some (.ref a)) (hk : PySem.W.keepIn X.K (.ref a) = true) (hc : CallM X a g) :
    PE X (.Call (.Name x p) [] [] pos) (tE X.K fun _ => (M.ret []).bnd g) := by
  refine ⟨fun pins s σ H Q I ⟨m, h, ρ, S, en, w⟩ => ?_⟩
  refine wpAny_Call_Name_kw (ld_glob I hg hm ?_ hd)
  exact PySem.W.callWith_K0 I.kIn hk (hc pins s σ H [] [] Q I .nil ⟨m, h, [], S, by unfold VRs; rfl, w⟩)
theorem l_call {x : Str} {a : Addr} {g : List MV → M MV} (hs : noStar ea = true) (hss : es.all noStar = true) (hg : Gl X x) (hd : (x == ("__debug__" : Str)) = false) (hm : X.mg x = some (.ref a)) (hk : PySem.W.keepIn X.K (.ref a) = true) (hc : CallM X a g) (hl : PA X (ea :: es) (tA X.K fl)) :
    PE X (.Call (.Name x p) (ea :: es) [] pos) (tE X.K fun ρ => (fl ρ).bnd g) := by
  refine ⟨fun pins s σ H Q I ⟨m, h, ρ, S, en, w⟩ => ?_⟩
  refine wpAny_Call_Name_kw (ld_glob I hg hm ?_ hd)
  have hl' := hl.run pos pins s σ H _ I (liftG (R := rL X.K) (g := fun xs _ => g xs) (r := fun vs H1 => rF X.K g vs H1 Q) S en w fun m1 h1 xs vs H1 P1 S1 en1 r1 w1 => ⟨m1, h1, xs, S1, r1, w1⟩)
  exact PySem.W.callWith_K (h₀ := X.base) I.ok.mod.kin hk (thn hl' fun us s1 ⟨vs, H1, I1, r1, q1⟩ => ⟨I1.kIn, hc pins s1 σ H1 vs us Q I1 r1 q1⟩) (star_cons hs) (star_any hss)
/-- keywords: all of them named -/
def kwOk (ks : List Str) : List Keyword → Bool
  | [] => ks.isEmpty
  | ⟨some n, _, _⟩ :: r => match ks with
    | k :: t => decide (k = n) && kwOk t r
    | [] => false
  | ⟨none, _, _⟩ :: _ => false
theorem kw_all {env : PySem.Env} : ∀ {kws : List Keyword} {ks : List Str}, kwOk ks kws = true → (backToKw pos (keywordEach kws env)).all (·.1.isSome) = true ∧ (backToKw pos (keywordEach kws env)).filterMap (·.1) = ks ∧ (backToKw pos (keywordEach kws env)).any (·.1.isNone) = false
  | [], ks, h => by
    cases ks with
    | nil => exact ⟨rfl, rfl, rfl⟩
    | cons _ _ => cases h
  | ⟨none, v, q⟩ :: r, ks, h => absurd h (by unfold kwOk; exact Bool.false_ne_true)
  | ⟨some n, v, q⟩ :: r, ks, h => by
    cases ks with
    | nil => cases h
    | cons k t =>
      have h : (decide (k = n) && kwOk t r) = true := h
      rw [Bool.and_eq_true_iff] at h
      obtain ⟨h1, h2, h3⟩ := kw_all (env := env) h.2
      have e : k = n := of_decide_eq_true h.1
      subst e
      refine ⟨?_, ?_, ?_⟩
      · show (true && _) = true
        rw [Bool.true_and]; exact h1
      · show k :: _ = k :: t
        rw [← h2]; rfl
      · show (false || _) = false
        rw [Bool.false_or]; exact h3
theorem l_knil : PK X [] (tA X.K fun _ => .ret []) := ⟨fun pos pins s σ H Q I ⟨m, h, ρ, S, en, w⟩ => pk_nil.run pos pins s σ H Q I (w.ret S (by show VRs _ _ _ _ _; unfold VRs; rfl))⟩
theorem l_kcons {nm : Option Str} {q : Pos} {kws : List Keyword} (ha : PE X ea (tE X.K fa)) (hr : PK X kws (tA X.K fl)) : PK X (⟨nm, ea, q⟩ :: kws) (tA X.K fun ρ => (fa ρ).bnd fun x => (fl ρ).bnd fun xs => .ret (x :: xs)) :=
  ⟨fun pos pins s σ H Q I ⟨m, h, ρ, S, en, w⟩ => (pk_cons ha hr).run pos pins s σ H Q I
    (liftG (R := rV X.K) (g := fun x ρ => (fl ρ).bnd fun xs => .ret (x :: xs)) S en w fun m1 h1 x v H1 P1 S1 en1 r1 w1 =>
      liftG (R := rL X.K) (g := fun xs _ => .ret (x :: xs)) S1 en1 w1 fun m2 h2 xs us H2 P2 S2 en2 r2 w2 =>
        w2.ret S2 (by show VRs _ _ _ _ _; unfold VRs; exact ⟨v, us, rfl, r1.mono P2, r2⟩))⟩
/-- a def as it is called with keywords: the values in the parameters' order -/
def rFK (K : PySem.W.Frag) (g : List MV → M MV) (arr : List Nat) : List V → List V → Hp → VK → Prop := fun xs zs H Q => ∃ m h vs ws, Sim K m h H ∧ VRs K m H vs xs ∧ VRs K m H ws zs ∧ WP K (rV K) (((M.opt (pick (vs ++ ws) arr)).bnd g) h) m H Q
def CallK (X : Cx) (a : Addr) (np : Nat) (ks : List Str) (arr : List Nat) (g : List MV → M MV) : Prop :=
  ∀ (pins : List (Addr × Obj)) (s : Shared) (σ : L2.St) (H : Hp) (vs zs : List V) (us ws : List Value) (Q : VK), Inv X pins σ H s → Vals vs us → Vals zs ws → us.length = np → ws.length = ks.length → rFK X.K g arr vs zs H Q →
    wpAny (model X.prog X.w) X.A (call (.ref a) us (ks.zip ws)) (EP X pins σ Q) X.xe s
theorem VRs.len_of {K : PySem.W.Frag} {m : List Addr} {H : Hp} {xs : List MV} {vs : List V} (r : VRs K m H xs vs) : vs.length = xs.length := r.length.symm
theorem l_callk0 {x : Str} {a : Addr} {g : List MV → M MV} {kws : List Keyword} {ks : List Str} {arr : List Nat} {n : Nat} (hkw : kwOk ks kws = true) (hlen : ∀ ρ h ys h', fk ρ h = .ok ys h' → ys.length = ks.length) (hg : Gl X x) (hd : (x == ("__debug__" : Str)) = false) (hm : X.mg x = some (.ref a)) (hk : PySem.W.keepIn X.K (.ref a) = true) (hc : CallK X a 0 ks arr g)
    (hl : PK X kws (tA X.K fk)) : PE X (.Call (.Name x p) [] kws pos) (tE X.K fun ρ => (M.ret ([] : List MV)).bnd fun xs => (fk ρ).bnd fun ys => (M.opt (pick (xs ++ ys) arr)).bnd g) := by
  refine ⟨fun pins s σ H Q I ⟨m, h, ρ, S, en, w⟩ => ?_⟩
  obtain ⟨k1, k2, k3⟩ := kw_all (pos := pos) (env := X.env) hkw
  refine wpAny_Call_Name_kw (ld_glob I hg hm ?_ hd)
  replace w : WP X.K (rV X.K) (((fk ρ).bnd fun ys => (M.opt (pick ys arr)).bnd g) h) m H Q := w
  refine PySem.W.callWith_KW0 (h₀ := X.base) I.ok.mod.kin hk k1 ?_ (by rw [k3]; rfl)
  have key : tA X.K fk σ H (fun vs H1 => vs.length = ks.length ∧ rFK X.K g arr [] vs H1 Q) := by
    refine ⟨m, h, ρ, S, en, ?_⟩
    cases e : fk ρ h with
    | ok ys h' =>
      have hw : WP X.K (rV X.K) (((M.opt (pick ys arr)).bnd g) h') m H Q := by
        have := w
        unfold M.bnd at this
        rw [e] at this
        exact this
      intro m' H' b P S' r
      refine ⟨by rw [← hlen ρ h ys h' e]; exact r.len_of, m', h', [], ys, S', by unfold VRs; rfl, r, hw.at P⟩
    | exc _ _ =>
      unfold M.bnd at w
      rw [e] at w
      exact w
    | stuck =>
      unfold M.bnd at w
      rw [e] at w
      exact w
  refine thn (hl.run pos pins s σ H _ I key) fun ws s1 ⟨zs, H1, I1, r1, q0, q1⟩ => ⟨I1.kIn, ?_⟩
  rw [k2]
  exact hc pins s1 σ H1 [] zs [] ws Q I1 .nil r1 rfl (by rw [← r1.length]; exact q0) q1
theorem l_callk {x : Str} {a : Addr} {g : List MV → M MV} {kws : List Keyword} {ks : List Str} {arr : List Nat} {n : Nat} (hs : noStar ea = true) (hss : es.all noStar = true) (hkw : kwOk ks kws = true) (hlen0 : ∀ ρ h ys h', fl ρ h = .ok ys h' → ys.length = n) (hlen : ∀ ρ h ys h', fk ρ h = .ok ys h' → ys.length = ks.length) (hg : Gl X x) (hd : (x == ("__debug__" : Str)) = false)
    (hm : X.mg x = some (.ref a)) (hk : PySem.W.keepIn X.K (.ref a) = true) (hc : CallK X a n ks arr g) (hl : PA X (ea :: es) (tA X.K fl)) (hkk : PK X kws (tA X.K fk)) :
    PE X (.Call (.Name x p) (ea :: es) kws pos) (tE X.K fun ρ => (fl ρ).bnd fun xs => (fk ρ).bnd fun ys => (M.opt (pick (xs ++ ys) arr)).bnd g) := by
  refine ⟨fun pins s σ H Q I ⟨m, h, ρ, S, en, w⟩ => ?_⟩
  obtain ⟨k1, k2, k3⟩ := kw_all (pos := pos) (env := X.env) hkw
  replace w : WP X.K (rV X.K) (((fl ρ).bnd fun xs => (fk ρ).bnd fun ys => (M.opt (pick (xs ++ ys) arr)).bnd g) h) m H Q := w
  refine wpAny_Call_Name_kw (ld_glob I hg hm ?_ hd)
  refine PySem.W.callWith_KW (h₀ := X.base) I.ok.mod.kin hk k1 ?_ (by rw [star_any (by rw [List.all_cons, hs, hss]; rfl), k3]; rfl) (star_cons hs)
  have key : tA X.K fl σ H (fun vs H1 => vs.length = n ∧ ∃ m1 h1 ρ xs, Sim X.K m1 h1 H1 ∧ EnvR X.K m1 H1 ρ σ ∧ VRs X.K m1 H1 xs vs ∧ WP X.K (rV X.K) (((fk ρ).bnd fun ys => (M.opt (pick (xs ++ ys) arr)).bnd g) h1) m1 H1 Q) := by
    refine ⟨m, h, ρ, S, en, ?_⟩
    cases e : fl ρ h with
    | ok xs h' =>
      have hw : WP X.K (rV X.K) (((fk ρ).bnd fun ys => (M.opt (pick (xs ++ ys) arr)).bnd g) h') m H Q := by
        have := w
        unfold M.bnd at this
        rw [e] at this
        exact this
      exact fun m' H' b P S' r => ⟨by rw [← hlen0 ρ h xs h' e]; exact r.len_of, m', h', ρ, xs, S', en.mono P, r, hw.at P⟩
    | exc _ _ =>
      unfold M.bnd at w
      rw [e] at w
      exact w
    | stuck =>
      unfold M.bnd at w
      rw [e] at w
      exact w
  refine thn (hl.run pos pins s σ H _ I key) fun us s1 ⟨vs, H1, I1, r1, q0, m1, h1, ρ1, xs, S1, en1, rx, w1⟩ => ?_
  have key2 : tA X.K fk σ H1 (fun zs H2 => zs.length = ks.length ∧ rFK X.K g arr vs zs H2 Q) := by
    refine ⟨m1, h1, ρ1, S1, en1, ?_⟩
    cases e : fk ρ1 h1 with
    | ok ys h' =>
      have hw : WP X.K (rV X.K) (((M.opt (pick (xs ++ ys) arr)).bnd g) h') m1 H1 Q := by
        have := w1
        unfold M.bnd at this
        rw [e] at this
        exact this
      exact fun m' H' b P S' r => ⟨by rw [← hlen ρ1 h1 ys h' e]; exact r.len_of, m', h', xs, ys, S', rx.mono P, r, hw.at P⟩
    | exc _ _ =>
      unfold M.bnd at w1
      rw [e] at w1
      exact w1
    | stuck =>
      unfold M.bnd at w1
      rw [e] at w1
      exact w1
  refine thn (hkk.run pos pins s1 σ H1 _ I1 key2) fun ws s2 ⟨zs, H2, I2, r2, q1, q2⟩ => ⟨I2.kIn, ?_⟩
  rw [k2]
  exact hc pins s2 σ H2 vs zs us ws Q I2 r1 r2 (by rw [← r1.length]; exact q0) (by rw [← r2.length]; exact q1) q2
/-! ### built-ins -/
def biN : Bi → Str
  | .abs => "abs" | .max => "max" | .min => "min" | .int => "int" | .len => "len" | .divmod => "divmod" | .all => "all" | .any => "any" | .repr => "repr" | .list => "list" | .tuple => "tuple" | .sum => "sum" | .sorted => "sorted"
theorem boot_bi (b : Bi) : bootBuiltins (biN b) = some (biF b) := by
  cases b <;> decide +kernel
theorem biN_ok (b : Bi) : biN b ≠ "__name__" ∧ (biN b == ("__debug__" : Str)) = false := by
  cases b <;> decide +kernel
theorem l_bi (b : Bi) (gd : X.A.guards = some []) (sm : SmOk X) (hu : X.A.units + 65 < cLine) (hcalm : X.calm = true) (hs : noStar ea = true) (hss : es.all noStar = true) (hg : Gl X (biN b)) (hm : X.mg (biN b) = none) (hl : PA X (ea :: es) (tA X.K fl)) :
    PE X (.Call (.Name (biN b) p) (ea :: es) [] pos) (tE X.K fun ρ => (fl ρ).bnd (biV b)) := by
  have hc := cr_bi (X := X) hcalm gd sm hu b
  have key : ∀ σ H Q, tE X.K (fun ρ => (fl ρ).bnd (biV b)) σ H Q → tCB (rF X.K (biV b)) (tA X.K fl) σ H Q := fun σ H Q ⟨m, h, ρ, S, en, w⟩ =>
    liftG (R := rL X.K) (g := fun xs _ => biV b xs) S en w fun m1 h1 xs vs H1 P1 S1 en1 r1 w1 => ⟨m1, h1, xs, S1, r1, w1⟩
  cases b <;> first
    | exact pe_imp (pe_callB hc hg hm (boot_bi _) hl (biN_ok _).1 (biN_ok _).2 (star_cons hs) (star_any hss)) key
    | exact pe_imp (pe_callTy hc hg hm (boot_bi _) hl (biN_ok _).1 (biN_ok _).2 (star_cons hs) (star_any hss)) key
end
end MP
/-! MP: kinds, methods, items, slices, walks, targets, comprehensions. -/
namespace MP
open PySem PySem.Spec PyProof.Rows L2
section
variable {X : Cx} {ea eb ec : Expr} {es : List Expr} {pos p : Pos} {fa fb fc : Env → M MV} {ta tb tc : Env → M Bool} {fl fk : Env → M (List MV)}
/-! ### isinstance -/
def tyN : Ty → Str
  | .int => "int" | .str => "str" | .bool => "bool" | .list => "list" | .tuple => "tuple" | .dict => "dict"
theorem boot_ty (t : Ty) : bootBuiltins (tyN t) = some (.type (tyS t)) := by
  cases t <;> decide +kernel
theorem tyN_ok (t : Ty) : tyN t ≠ "__name__" ∧ (tyN t == ("__debug__" : Str)) = false := by
  cases t <;> decide +kernel
theorem isi_of {m : List Addr} {h : MH} {H : Hp} {x : MV} {v : V} {t : Ty} {b : Bool} {h' : MH} (S : Sim X.K m h H) (r : VR X.K m H x v) (e : isiV x t h = .ok b h') : ∃ n, TyX X.K H v (.type n) ∧ ∀ u c h'', isiV x u h = .ok c h'' → h'' = h ∧ kitB n (tyS u) = some c := by
  cases x with
  | non =>
    rw [vr_non' r]
    exact ⟨_, .base .non, fun u c h'' e => by cases u <;> (cases e; exact ⟨rfl, by decide +kernel⟩)⟩
  | bl k =>
    rw [vr_bl' r]
    exact ⟨_, .base (.bl k), fun u c h'' e => by cases u <;> (cases e; exact ⟨rfl, by decide +kernel⟩)⟩
  | int k =>
    rw [vr_int' r]
    exact ⟨_, .base (.int k), fun u c h'' e => by cases u <;> (cases e; exact ⟨rfl, by decide +kernel⟩)⟩
  | str k =>
    rw [vr_str' r]
    exact ⟨_, .base (.str k), fun u c h'' e => by cases u <;> (cases e; exact ⟨rfl, by decide +kernel⟩)⟩
  | tup k =>
    obtain ⟨a, vs, rfl, q, _⟩ := vr_tup' r
    have ty : TyX X.K H (.ref a) (.type "tuple") := by
      rcases q with (q | ⟨o, q⟩) | ⟨o, its, n, q, c, _⟩
      · exact .base (.tup q)
      · exact .fTuple q
      · exact .kTuple q c
    exact ⟨_, ty, fun u c h'' e => by cases u <;> (cases e; exact ⟨rfl, by decide +kernel⟩)⟩
  | ro k =>
    obtain ⟨a, vs, rfl, q, _⟩ := vr_ro' r
    have ty : TyX X.K H (.ref a) (.type "list") := by
      rcases q with ⟨o, q⟩ | ⟨o, its, n, q, c, _⟩
      · exact .base (.frz q)
      · exact .kList q c
    exact ⟨_, ty, fun u c h'' e => by cases u <;> (cases e; exact ⟨rfl, by decide +kernel⟩)⟩
  | ref l =>
    obtain ⟨a, ha, rfl⟩ := vr_ref' r
    unfold isiV at e
    dsimp only at e
    split at e
    · rename_i xs e1
      obtain ⟨vs, q, _⟩ := S.lst ha e1
      refine ⟨_, .base (.lst q), fun u c h'' e => ?_⟩
      unfold isiV at e
      dsimp only at e
      rw [e1] at e
      cases u <;> (cases e; exact ⟨rfl, by decide +kernel⟩)
    · rename_i w xs e1
      obtain ⟨vs, q, _⟩ := S.dct ha e1
      refine ⟨_, .base (.dK q), fun u c h'' e => ?_⟩
      unfold isiV at e
      dsimp only at e
      rw [e1] at e
      cases u <;> (cases e; exact ⟨rfl, by decide +kernel⟩)
    · cases e
def isiN : Str := "isinstance"
/-- isinstance by one type -/
def rI1 (K : PySem.W.Frag) (t : Ty) : List V → Hp → VK → Prop := fun vs H Q => ∃ m h x v, vs = [v, .ty (tyS t)] ∧ Sim K m h H ∧ VR K m H x v ∧ WP K rId (isiV x t h) m H (fun b H' => Q (.bl b) H')
theorem call_i1 {t : Ty} : CallR X (.builtin "isinstance") (rI1 X.K t) := by
  intro pins s σ H xs us Q I r ⟨m, h, x, v, e, S, rx, w⟩
  cases ee : isiV x t h with
  | ok b h' =>
    rw [ee] at w
    obtain ⟨n, ty, kk⟩ := isi_of S rx ee
    obtain ⟨e2, k⟩ := kk _ _ _ ee
    subst e2
    exact call_isi pins s σ H xs us Q I r ⟨v, _, _, _, b, e, .ty _, ty, kit_ty k, w m H b Post.refl S rfl⟩
  | exc _ _ => rw [ee] at w; exact False.elim w
  | stuck => rw [ee] at w; exact False.elim w
theorem pe_tyN {t : Ty} (hg : Gl X (tyN t)) (hm : X.mg (tyN t) = none) : PE X (.Name (tyN t) pos) (tC (.ty (tyS t))) :=
  pe_bltn hg hm (boot_ty t) rfl (tyN_ok t).1 (tyN_ok t).2
theorem l_isi1 {t : Ty} {q : Pos} (hs : noStar ea = true) (hi : Gl X isiN) (hj : X.mg isiN = none) (hg : Gl X (tyN t)) (hm : X.mg (tyN t) = none) (ha : PE X ea (tE X.K fa)) :
    PE X (.Call (.Name isiN p) [ea, .Name (tyN t) q] [] pos) (tE X.K fun ρ => (fa ρ).bnd fun x => (isisV x [t]).bnd fun k => .ret (MV.bl k)) :=
  pe_imp (pe_callB call_i1 hi hj boot_isinstance (pa_cons ha (pa_cons (pe_tyN hg hm) pa_nil (by rfl)) (star_cons hs)) (by decide +kernel) (by decide +kernel) (star_cons hs) (by rfl)) fun σ H Q ⟨m, h, ρ, S, en, w⟩ =>
    liftG (R := rV X.K) (g := fun x _ => (isisV x [t]).bnd fun k => .ret (MV.bl k)) S en w fun m1 h1 x v H1 P1 S1 en1 r1 w1 =>
      ⟨m1, h1, x, v, rfl, S1, r1, (WP.bind (Rx := rId) w1).mono fun b H2 ⟨m2, h2, b', P2, S2, e, w2⟩ => by
        cases e
        exact w2.ret S2 (vr_bl _)⟩
/-- isinstance by two types, in a tuple just laid -/
def rI2 (K : PySem.W.Frag) (t u : Ty) : List V → Hp → VK → Prop := fun vs H Q => ∃ m h x v tp, vs = [v, .ref tp] ∧ H tp = some (.tup [.ty (tyS t), .ty (tyS u)]) ∧ Sim K m h H ∧ VR K m H x v ∧ WP K rId (isisV x [t, u] h) m H (fun b H' => Q (.bl b) H')
theorem call_i2 {t u : Ty} : CallR X (.builtin "isinstance") (rI2 X.K t u) := by
  intro pins s σ H xs us Q I r ⟨m, h, x, v, tp, e, htp, S, rx, w⟩
  replace w : WP X.K rId (((isiV x t).bnd fun k => (isiV x u).bnd fun j => .ret (k || j)) h) m H (fun b H' => Q (.bl b) H') := w
  unfold M.bnd at w
  cases ee : isiV x t h with
  | ok b h' =>
    obtain ⟨n, ty, kk⟩ := isi_of S rx ee
    obtain ⟨e2, k⟩ := kk _ _ _ ee
    subst e2
    rw [ee] at w
    dsimp only at w
    cases e3 : isiV x u h' with
    | ok b2 h2 =>
      obtain ⟨e4, k2⟩ := kk _ _ _ e3
      subst e4
      rw [e3] at w
      refine call_isiT pins s σ H xs us Q I r ⟨v, tp, _, _, _, b || b2, e, htp, .cons (.ty _) (.cons (.ty _) .nil), ty, ?_, w m H (b || b2) Post.refl S rfl⟩
      refine kitAny_cons (kit_ty k) (fun hb => ?_) (fun hb => by rw [hb]; rfl)
      subst hb
      refine kitAny_cons (kit_ty k2) (fun hb => ?_) (fun hb => by rw [hb]; rfl)
      subst hb
      rfl
    | exc _ _ => rw [e3] at w; exact False.elim w
    | stuck => rw [e3] at w; exact False.elim w
  | exc _ _ => rw [ee] at w; exact False.elim w
  | stuck => rw [ee] at w; exact False.elim w
theorem wp_atTuple {α β : Type} {R : List Addr → Hp → α → β → Prop} {r : Res α} {m : List Addr} {h : MH} {H : Hp} {Q : β → Hp → Prop} {q : Addr} {us : List V} (S : Sim X.K m h H) (hp : H q = none) (w : WP X.K R r m H Q) : WP X.K R r m (upd H q (.tup us)) Q := w.at (Post.new_tuple S hp)
theorem l_isi2 {t u : Ty} {q q2 q3 : Pos} {j : Nat} (hs : noStar ea = true) (hi : Gl X isiN) (hj : X.mg isiN = none) (hg : Gl X (tyN t)) (hm : X.mg (tyN t) = none) (hg2 : Gl X (tyN u)) (hm2 : X.mg (tyN u) = none) (ha : PE X ea (tE X.K fa)) :
    PE X (.Call (.Name isiN p) [ea, .Tuple [.Name (tyN t) q, .Name (tyN u) q2] j q3] [] pos) (tE X.K fun ρ => (fa ρ).bnd fun x => (isisV x [t, u]).bnd fun k => .ret (MV.bl k)) :=
  pe_imp (pe_callB call_i2 hi hj boot_isinstance (pa_cons ha (pa_cons (pe_tup (pa_cons (pe_tyN hg hm) (pa_cons (pe_tyN hg2 hm2) pa_nil (by rfl)) (by rfl))) pa_nil (by rfl)) (star_cons hs)) (by decide +kernel) (by decide +kernel) (star_cons hs) (by rfl)) fun σ H Q ⟨m, h, ρ, S, en, w⟩ =>
    liftG (R := rV X.K) (g := fun x _ => (isisV x [t, u]).bnd fun k => .ret (MV.bl k)) S en w fun m1 h1 x v H1 P1 S1 en1 r1 w1 => by
      refine ⟨show 2 ≤ sizeLine by decide +kernel, fun tp htp => ?_⟩
      have PT := Post.new_tuple (vs := [V.ty (tyS t), V.ty (tyS u)]) S1 htp
      refine ⟨m1, h1, x, v, tp, rfl, upd_same, S1.new_tuple htp, r1.mono PT, (WP.bind (Rx := rId) (wp_atTuple S1 htp w1)).mono fun b H2 ⟨m2, h2, b', P2, S2, e, w2⟩ => ?_⟩
      cases e
      exact w2.ret S2 (vr_bl _)
/-! ### methods -/
def mtT : Mt → String
  | .join => "str"
  | _ => "list"
def mtN : Mt → Str
  | .append => "append" | .join => "join" | .pop => "pop" | .popAt => "pop"
theorem mt_plain (n : Mt) : PlainAttrs (mtT n) := by
  cases n with
  | join => exact PySem.F.plainAttrs_str
  | _ => exact PySem.F.plainAttrs_list
theorem mt_slot (n : Mt) : Slot (mtT n) (mtN n) (mtId n) := by
  cases n with
  | append => exact PySem.F.slot_list_append
  | join => exact PySem.F.slot_str_join
  | pop => exact PySem.F.slot_list_pop
  | popAt => exact PySem.F.slot_list_pop
theorem mt_type (n : Mt) : typeOf (.builtin (mtId n)) = pure (.type "method_descriptor") := by
  cases n with
  | append => exact PySem.F.type_list_append
  | join => exact PySem.F.type_str_join
  | pop => exact PySem.F.type_list_pop
  | popAt => exact PySem.F.type_list_pop
theorem rcv_of {α β : Type} {R : List Addr → Hp → α → β → Prop} {n : Mt} {m : List Addr} {h : MH} {H : Hp} {x : MV} {v : V} {f : M α} {Q : β → Hp → Prop} (S : Sim X.K m h H) (r : VR X.K m H x v) (w : WP X.K R (((rcvV n x).bnd fun _ => f) h) m H Q) : tyV X.K (mtT n) v H ∧ WP X.K R (f h) m H Q := by
  have key : ∀ l, rcvV n (.ref l) = chkL l → mtT n = "list" → x = .ref l → tyV X.K (mtT n) v H ∧ WP X.K R (f h) m H Q := by
    intro l e2 e1 e
    subst e
    obtain ⟨a, ha, rfl⟩ := vr_ref' r
    have e3 : ((rcvV n (.ref l)).bnd fun _ => f) h = ((chkL l).bnd fun _ => f) h := by rw [e2]
    rw [e3] at w
    cases e : h[l]? with
    | none =>
      have e4 : chkL l h = .stuck := by unfold chkL; rw [e]
      unfold M.bnd at w
      rw [e4] at w
      exact False.elim w
    | some o =>
      cases o with
      | lst xs =>
        have e4 : chkL l h = .ok () h := by unfold chkL; rw [e]
        unfold M.bnd at w
        rw [e4] at w
        obtain ⟨vs, h1, _⟩ := S.lst ha e
        exact ⟨.inl ⟨e1, vs, SqL.of h1⟩, w⟩
      | dct _ _ =>
        have e4 : chkL l h = .stuck := by unfold chkL; rw [e]
        unfold M.bnd at w
        rw [e4] at w
        exact False.elim w
      | ins _ _ =>
        have e4 : chkL l h = .stuck := by unfold chkL; rw [e]
        unfold M.bnd at w
        rw [e4] at w
        exact False.elim w
  cases n with
  | join =>
    cases x with
    | str z =>
      rw [vr_str' r]
      exact ⟨rfl, w⟩
    | _ => exact False.elim w
  | append =>
    cases x with
    | ref l => exact key l rfl rfl rfl
    | _ => exact False.elim w
  | pop =>
    cases x with
    | ref l => exact key l rfl rfl rfl
    | _ => exact False.elim w
  | popAt =>
    cases x with
    | ref l => exact key l rfl rfl rfl
    | _ => exact False.elim w
theorem few_args {env : PySem.Env} (hs : noStar ea = true) (hss : es.all noStar = true) (hn : decide ((ea :: es).length < 30) = true) : ((backTo pos (starEach (ea :: es) env)).all (fun x => !x.1) && (backToKw pos (keywordEach [] env)).all (fun x => x.1.isSome)
      && decide ((ea :: es).length + ([] : List Keyword).length + (if ([] : List Keyword).isEmpty then 0 else 1) < 30)) = true := by
  rw [star_all (by rw [List.all_cons, hs, hss]; rfl)]
  exact hn
theorem l_mth (n : Mt) {apos : Pos} (hb : noSuper ea = true) (hs : noStar eb = true) (hss : es.all noStar = true) (hn : decide ((eb :: es).length < 30) = true) (hline : (apos.endLine == pos.line) = true) (ho : PE X ea (tE X.K fa)) (hl : PA X (eb :: es) (tA X.K fl)) :
    PE X (.Call (.Attribute ea (mtN n) apos) (eb :: es) [] pos) (tE X.K fun ρ => (fa ρ).bnd fun x => (rcvV n x).bnd fun _ => (fl ρ).bnd fun xs => mtV n x xs) :=
  pe_imp (pe_bm (mt_plain n) (mt_slot n) (mt_type n) (mt_M n) ho hl (no_super hb) (few_args hs hss hn) hline (star_cons hs) (star_any hss)) fun σ H Q ⟨m, h, ρ, S, en, w⟩ =>
    liftG (R := rV X.K) (g := fun x ρ => (rcvV n x).bnd fun _ => (fl ρ).bnd fun xs => mtV n x xs) S en w fun m1 h1 x v H1 P1 S1 en1 r1 w1 => by
      obtain ⟨ty, w2⟩ := rcv_of S1 r1 w1
      exact ⟨ty, liftG (R := rL X.K) (g := fun xs _ => mtV n x xs) S1 en1 w2 fun m2 h2 xs vs H2 P2 S2 en2 r2 w3 => ⟨m2, h2, x, xs, S2, r1.mono P2, r2, w3⟩⟩
theorem l_mth0 (n : Mt) {apos : Pos} (hb : noSuper ea = true) (hline : (apos.endLine == pos.line) = true) (ho : PE X ea (tE X.K fa)) :
    PE X (.Call (.Attribute ea (mtN n) apos) [] [] pos) (tE X.K fun ρ => (fa ρ).bnd fun x => (rcvV n x).bnd fun _ => (M.ret []).bnd fun xs => mtV n x xs) :=
  pe_imp (pe_bm0 (mt_plain n) (mt_slot n) (mt_type n) (mt_M n) ho (no_super hb) hline) fun σ H Q ⟨m, h, ρ, S, en, w⟩ =>
    liftG (R := rV X.K) (g := fun x ρ => (rcvV n x).bnd fun _ => (M.ret []).bnd fun xs => mtV n x xs) S en w fun m1 h1 x v H1 P1 S1 en1 r1 w1 => by
      obtain ⟨ty, w2⟩ := rcv_of S1 r1 w1
      exact ⟨ty, m1, h1, x, [], S1, r1, by unfold VRs; rfl, w2⟩
/-! ### items, slices -/
theorem l_idx (hn : noSlice eb = true) (ha : PE X ea (tE X.K fa)) (hb : PE X eb (tE X.K fb)) : PE X (.Subscript ea eb pos) (tE X.K fun ρ => (fa ρ).bnd fun x => (fb ρ).bnd fun y => idxV x y) :=
  pe_imp (pe_ix ix_M ha hb (plain_ix hn)) fun σ H Q ⟨m, h, ρ, S, en, w⟩ =>
    liftG (R := rV X.K) (g := fun x ρ => (fb ρ).bnd fun y => idxV x y) S en w fun m1 h1 x v H1 P1 S1 en1 r1 w1 =>
      liftG (R := rV X.K) (g := fun y _ => idxV x y) S1 en1 w1 fun m2 h2 y u H2 P2 S2 en2 r2 w2 => ⟨m2, h2, x, y, S2, r1.mono P2, r2, w2⟩
theorem lo_no : PO X none (tO X.K fun _ => .ret none) := po_imp po_none fun σ H Q ⟨m, h, ρ, S, en, w⟩ => w.ret S rfl
theorem lo_so (ha : PE X ea (tE X.K fa)) : PO X (some ea) (tO X.K fun ρ => (fa ρ).bnd intO) :=
  po_imp (po_some ha) fun σ H Q ⟨m, h, ρ, S, en, w⟩ =>
    liftG (R := rV X.K) (g := fun x _ => intO x) S en w fun m1 h1 x v H1 P1 S1 en1 r1 w1 => by
      cases x with
      | int i => exact ⟨i, vr_int' r1, w1.ret S1 rfl⟩
      | _ => exact False.elim w1
theorem l_slc {lo hi : Option Expr} {fo fu : Env → M (Option Int)} {q : Pos} (ha : PE X ea (tE X.K fa)) (hl : PO X lo (tO X.K fo)) (hu : PO X hi (tO X.K fu)) : PE X (.Subscript ea (.Slice lo hi none q) pos) (tE X.K fun ρ => (fa ρ).bnd fun x => (fo ρ).bnd fun l => (fu ρ).bnd fun u => slcV x l u) :=
  pe_imp (pe_slice sl_M ha hl hu) fun σ H Q ⟨m, h, ρ, S, en, w⟩ =>
    liftG (R := rV X.K) (g := fun x ρ => (fo ρ).bnd fun l => (fu ρ).bnd fun u => slcV x l u) S en w fun m1 h1 x v H1 P1 S1 en1 r1 w1 =>
      liftG (R := rId) (g := fun l ρ => (fu ρ).bnd fun u => slcV x l u) S1 en1 w1 fun m2 h2 l l' H2 P2 S2 en2 e2 w2 =>
        liftG (R := rId) (g := fun u _ => slcV x l u) S2 en2 w2 fun m3 h3 u u' H3 P3 S3 en3 e3 w3 => by
          cases e2
          cases e3
          exact ⟨m3, h3, x, S3, (r1.mono P2).mono P3, w3⟩
end
end MP
/-! MP: walks, targets, comprehensions, statements. -/
namespace MP
open PySem PySem.Spec PyProof.Rows L2
section
variable {X : Cx} {ea eb ec tg : Expr} {es : List Expr} {pos p : Pos} {fa fb fc : Env → M MV} {ta tb tc : Env → M Bool} {fl fk : Env → M (List MV)}
/-! ### walks -/
/-- a list, a tuple, a text: by the value met -/
def iAny (K : PySem.W.Frag) (t : TE) : TI := fun σ H R => t σ H fun x H1 => (∃ a xs, x = .ref a ∧ SqL K H1 a xs ∧ R (Itl K a) H1) ∨ (∃ a xs, x = .ref a ∧ SqT K H1 a xs ∧ R (Itt K a) H1) ∨ ∃ z, x = .str z ∧ R (Its z) H1
theorem pi_any {t : TE} (he : PE X ea t) : PI X tg ea (iAny X.K t) := by
  refine ⟨fun pins s σ H R I k => ?_⟩
  refine thn (he.run pins s σ H _ I k) fun u s1 ⟨x, H1, I1, rx, d⟩ => ?_
  rcases d with ⟨a, xs, rfl, hq, q⟩ | ⟨a, xs, rfl, hq, q⟩ | ⟨z, rfl, q⟩
  · obtain ⟨w, rv, hl, _⟩ := I1.list hq
    cases rx
    exact wpAny_pyIter_list hl.isList (pi_one (tk := s1.toks) I1 _ (turn_list a _) ⟨_, Heap.get?_push_size _ rfl, rfl, rfl⟩ q)
  · obtain ⟨w, rv, hl, _⟩ := I1.tuple hq
    cases rx
    exact wpAny_pyIter_tuple (show s1.heap.IsTuple a w.toArray from hl) (pi_one (tk := s1.toks) I1 _ (turn_tuple a _) ⟨_, Heap.get?_push_size _ rfl, rfl, rfl⟩ q)
  · obtain ⟨tk, rfl⟩ := rx
    cases hw : z.cps.all (· < 128) with
    | false => exact wpAny_pyIter_wide hw (pi_one (tk := s1.toks) I1 _ (turn_str _ z tk "str_iterator" (.inr rfl)) ⟨_, Heap.get?_push_size _ rfl, rfl, rfl⟩ q)
    | true => exact wpAny_pyIter_ascii hw (pi_one (tk := s1.toks) I1 _ (turn_str _ z tk "str_ascii_iterator" (.inl rfl)) ⟨_, Heap.get?_push_size _ rfl, rfl, rfl⟩ q)
theorem wp_chkL {α β : Type} {R : List Addr → Hp → α → β → Prop} {l : Nat} {m : List Addr} {h : MH} {f : M α} {H : Hp} {Q : β → Hp → Prop} (S : Sim X.K m h H) (w : WP X.K R (((chkL l).bnd fun _ => f) h) m H Q) : (∃ xs, h[l]? = some (.lst xs)) ∧ WP X.K R (f h) m H Q := by
  cases e : h[l]? with
  | none =>
    have e4 : chkL l h = .stuck := by unfold chkL; rw [e]
    unfold M.bnd at w
    rw [e4] at w
    exact False.elim w
  | some o =>
    cases o with
    | lst xs =>
      have e4 : chkL l h = .ok () h := by unfold chkL; rw [e]
      unfold M.bnd at w
      rw [e4] at w
      exact ⟨⟨xs, rfl⟩, w⟩
    | dct _ _ =>
      have e4 : chkL l h = .stuck := by unfold chkL; rw [e]
      unfold M.bnd at w
      rw [e4] at w
      exact False.elim w
    | ins _ _ =>
      have e4 : chkL l h = .stuck := by unfold chkL; rw [e]
      unfold M.bnd at w
      rw [e4] at w
      exact False.elim w
theorem li_vl (ha : PE X ea (tE X.K fa)) : PI X tg ea (tI X.K fun ρ => (fa ρ).bnd itV) :=
  pi_imp (pi_any ha) fun σ H Q ⟨m, h, ρ, S, en, w⟩ =>
    liftG (R := rV X.K) (g := fun x _ => itV x) S en w fun m1 h1 x v H1 P1 S1 en1 r1 w1 => by
      cases x with
      | ref l =>
        obtain ⟨⟨xs, e⟩, w2⟩ := wp_chkL (f := M.ret (Itv.il l)) S1 w1
        obtain ⟨a, ha, rfl⟩ := vr_ref' r1
        obtain ⟨vs, h1, _⟩ := S1.lst ha e
        exact .inl ⟨a, vs, rfl, SqL.of h1, w2.ret S1 ⟨a, ha, rfl⟩⟩
      | tup xs =>
        obtain ⟨a, vs, rfl, q, r⟩ := vr_tup' r1
        exact .inr (.inl ⟨a, vs, rfl, q, WP.ret (a := Itv.vs xs) w1 S1 (.inl ⟨a, vs, rfl, q, r⟩)⟩)
      | ro xs =>
        obtain ⟨a, vs, rfl, q, r⟩ := vr_ro' r1
        exact .inl ⟨a, vs, rfl, q.sq, WP.ret (a := Itv.vs xs) w1 S1 (.inr (.inl ⟨a, vs, rfl, q, r⟩))⟩
      | str z => exact .inr (.inr ⟨z, vr_str' r1, WP.ret (a := Itv.vs (z.cps.toList.map fun c => MV.str ⟨#[c]⟩)) w1 S1 (.inr (.inr (.inl ⟨z, rfl, rfl⟩)))⟩)
      | _ => exact False.elim w1
def rangeN : Str := "range"
theorem li_rg1 (hs : noStar ea = true) (hg : Gl X rangeN) (hm : X.mg rangeN = none) (ha : PE X ea (tE X.K fa)) : PI X tg (.Call (.Name rangeN p) [ea] [] pos) (tI X.K fun ρ => (fa ρ).bnd rg1V) :=
  pi_imp (pi_range1 hg hm (pa_cons ha pa_nil (star_cons hs)) (star_cons hs)) fun σ H Q ⟨m, h, ρ, S, en, w⟩ =>
    liftG (R := rV X.K) (g := fun x _ => rg1V x) S en w fun m1 h1 x v H1 P1 S1 en1 r1 w1 => by
      cases x with
      | int n =>
        replace w1 : WP X.K (JR X.K) ((if smallR n then M.ret (Itv.vs (rangeItems 0 n)) else .stk) h1) m1 H1 Q := w1
        split at w1
        · rename_i hn
          have e := (smallR_of hn)
          refine ⟨n, by rw [vr_int' r1], e.1, e.2, WP.ret (a := Itv.vs (rangeItems 0 n)) w1 S1 (.inr (.inr (.inr ⟨0, n, by rw [Int.sub_zero], rfl⟩)))⟩
        · exact False.elim w1
      | _ => exact False.elim w1
theorem li_rg2 (hs : noStar ea = true) (hs2 : noStar eb = true) (hg : Gl X rangeN) (hm : X.mg rangeN = none) (ha : PE X ea (tE X.K fa)) (hb : PE X eb (tE X.K fb)) : PI X tg (.Call (.Name rangeN p) [ea, eb] [] pos) (tI X.K fun ρ => (fa ρ).bnd fun x => (fb ρ).bnd fun y => rg2V x y) :=
  pi_imp (pi_range2 hg hm (pa_cons ha (pa_cons hb pa_nil (star_cons hs2)) (star_cons hs)) (by rw [star_cons hs, star_cons hs2]; rfl) (star_cons hs2)) fun σ H Q ⟨m, h, ρ, S, en, w⟩ =>
    liftG (R := rV X.K) (g := fun x ρ => (fb ρ).bnd fun y => rg2V x y) S en w fun m1 h1 x v H1 P1 S1 en1 r1 w1 =>
      liftG (R := rV X.K) (g := fun y _ => rg2V x y) S1 en1 w1 fun m2 h2 y u H2 P2 S2 en2 r2 w2 => by
        cases x with
        | int n =>
          cases y with
          | int k =>
            replace w2 : WP X.K (JR X.K) ((if smallR n && smallR k then M.ret (Itv.vs (rangeItems n k)) else .stk) h2) m2 H2 Q := w2
            split at w2
            · rename_i hn
              rw [Bool.and_eq_true_iff] at hn
              have e := (smallR_of hn.1)
              have e2 := (smallR_of hn.2)
              refine ⟨n, k, by rw [vr_int' r1, vr_int' r2], ⟨e.1, e.2, e2.1, e2.2⟩, WP.ret (a := Itv.vs (rangeItems n k)) w2 S2 (.inr (.inr (.inr ⟨n, k, rfl, rfl⟩)))⟩
            · exact False.elim w2
          | _ => exact False.elim w2
        | _ => exact False.elim w2
/-! ### targets -/
/-- a target by values; c: what it may store -/
def tGq (K : PySem.W.Frag) (c : L2.St → L2.St → Prop) (f : MV → Env → M Env) : TG := fun v σ H Q => ∃ m h ρ x, Sim K m h H ∧ EnvR K m H ρ σ ∧ VR K m H x v ∧ WP K (rE K) (f x ρ h) m H (fun σ' H' => c σ σ' → Q σ' H')
def tGqs (K : PySem.W.Frag) (c : L2.St → L2.St → Prop) (f : List MV → Env → M Env) : TGs := fun vs σ H Q => ∃ m h ρ xs, Sim K m h H ∧ EnvR K m H ρ σ ∧ VRs K m H xs vs ∧ WP K (rE K) (f xs ρ h) m H (fun σ' H' => c σ σ' → Q σ' H')
structure CRel (c : L2.St → L2.St → Prop) : Prop where
  refl : ∀ σ, c σ σ
  trans : ∀ a b d, c a b → c b d → c a d
theorem cr_all : CRel fun _ _ => True := ⟨fun _ => trivial, fun _ _ _ _ _ => trivial⟩
theorem cr_wipe (own : List Nat) : CRel fun σ σ' => L2.wipe σ' own = L2.wipe σ own := ⟨fun _ => rfl, fun _ _ _ h k => k.trans h⟩
theorem lg_nm {c : L2.St → L2.St → Prop} {i : Nat} {x : Str} (hN : X.N.Nodup) (hi : X.N[i]? = some x) (hx : Loc X.env.scope x) (hf : X.fn x = true ∨ X.env.scope.names.lookup x = some .local) (hc : ∀ σ v, c σ (σ.set i v)) : PG X (.Name x pos) (tGq X.K c fun v ρ => .ret (ρ.set i (some v))) :=
  pg_imp (pg_name hN hi hx hf) fun v σ H Q ⟨m, h, ρ, y, S, en, r, w⟩ => WP.ret (a := ρ.set i (some y)) w S (en.set r) (hc _ _)
theorem lgs_nil {c : L2.St → L2.St → Prop} (k : CRel c) {f : List MV → Env → M Env} (h0 : ∀ ρ, f [] ρ = .ret ρ) (h1 : ∀ x xs ρ h, f (x :: xs) ρ h = .stuck) : PGs X [] (tGqs X.K c f) :=
  pgs_imp pgs_nil fun vs σ H Q ⟨m, h, ρ, ys, S, en, r, w⟩ => by
    cases ys with
    | nil =>
      rw [h0] at w
      exact ⟨vrs_nil' r, w.ret S en (k.refl _)⟩
    | cons y ys =>
      rw [h1] at w
      exact False.elim w
theorem each_cons {e : Expr} {es : List Expr} {env : PySem.Env} (h : noStar e = true) : assignEach (e :: es) env = (false, assign e env) :: assignEach es env := by
  cases e <;> first | rfl | cases h
theorem each_len {env : PySem.Env} : ∀ {es : List Expr}, es.all noStar = true → (assignEach es env).length = es.length ∧ (assignEach es env).findIdx? (·.1) = none
  | [], _ => ⟨rfl, rfl⟩
  | e :: es, h => by
    rw [List.all_cons, Bool.and_eq_true_iff] at h
    have ih := each_len (env := env) h.2
    rw [each_cons h.1]
    refine ⟨by rw [List.length_cons, List.length_cons, ih.1], ?_⟩
    rw [List.findIdx?_cons, ih.2]
    rfl
theorem lgs_cons {c : L2.St → L2.St → Prop} (k : CRel c) {g : MV → Env → M Env} {f f' : List MV → Env → M Env} (hs : noStar ea = true) (h0 : ∀ ρ h, f' [] ρ h = .stuck) (h1 : ∀ x xs ρ, f' (x :: xs) ρ = (g x ρ).bnd fun ρ' => f xs ρ') (ha : PG X ea (tGq X.K c g)) (hr : PGs X es (tGqs X.K c f)) : PGs X (ea :: es) (tGqs X.K c f') :=
  pgs_imp (pgs_cons ha hr (by rw [each_cons hs]; rfl)) fun vs σ H Q ⟨m, h, ρ, ys, S, en, r, w⟩ => by
    cases ys with
    | nil =>
      rw [h0] at w
      exact False.elim w
    | cons y ys =>
      obtain ⟨v, vr, rfl, r1, r2⟩ := vrs_cons' r
      rw [h1] at w
      refine ⟨v, vr, rfl, m, h, ρ, y, S, en, r1, (WP.bind (Rx := rE X.K) w).mono fun σ1 H1 ⟨m1, h1, ρ1, P1, S1, en1, w1⟩ c1 => ?_⟩
      exact ⟨m1, h1, ρ1, ys, S1, en1, r2.mono P1, w1.mono fun σ2 H2 q c2 => q (k.trans _ _ _ c1 c2)⟩
theorem lg_tup {c : L2.St → L2.St → Prop} {j : Nat} {f : List MV → Env → M Env} (hc : X.calm = true) (hss : es.all noStar = true) (hlen : ∀ xs ρ h ρ' h', f xs ρ h = .ok ρ' h' → xs.length = es.length) (hl : PGs X es (tGqs X.K c f)) : PG X (.Tuple es j pos) (tGq X.K c fun v ρ => match v with
    | .tup xs => f xs ρ
    | _ => .stk) :=
  pg_imp (pg_tup (n := es.length) hc hl (each_len hss).1 (each_len hss).2) fun v σ H Q ⟨m, h, ρ, y, S, en, r, w⟩ => by
    cases y with
    | tup xs =>
      obtain ⟨a, vs, rfl, q, r2⟩ := vr_tup' r
      replace w : WP X.K (rE X.K) (f xs ρ h) m H (fun σ' H' => c σ σ' → Q σ' H') := w
      refine ⟨a, vs, rfl, q, ?_, m, h, ρ, xs, S, en, r2, w⟩
      cases e : f xs ρ h with
      | ok ρ' h' => rw [← r2.length]; exact hlen _ _ _ _ _ e
      | exc _ _ => rw [e] at w; exact False.elim w
      | stuck => rw [e] at w; exact False.elim w
    | _ => exact False.elim w
theorem lg_sub {c : L2.St → L2.St → Prop} (k : CRel c) (hn : noSlice eb = true) (ha : PE X ea (tE X.K fa)) (hb : PE X eb (tE X.K fb)) : PG X (.Subscript ea eb pos) (tGq X.K c fun v ρ => (fa ρ).bnd fun x => (fb ρ).bnd fun y => (setV x y v).bnd fun _ => .ret ρ) :=
  pg_imp (pg_sub ha hb set_M (fun v => by cases eb <;> first | rfl | cases hn)) fun v σ H Q ⟨m, h, ρ, z, S, en, r, w⟩ =>
    liftG (R := rV X.K) (R' := rE X.K) (g := fun x ρ => (fb ρ).bnd fun y => (setV x y z).bnd fun _ => .ret ρ) S en w fun m1 h1 x u H1 P1 S1 en1 r1 w1 =>
      liftG (R := rV X.K) (R' := rE X.K) (g := fun y ρ => (setV x y z).bnd fun _ => .ret ρ) S1 en1 w1 fun m2 h2 y u2 H2 P2 S2 en2 r2 w2 =>
        ⟨m2, h2, x, y, z, S2, r1.mono P2, r2, (r.mono P1).mono P2, (WP.bind (Rx := rId) w2).mono fun b H3 ⟨m3, h3, b', P3, S3, e, w3⟩ => w3.ret S3 (en2.mono P3) (k.refl _)⟩
theorem lg_all {f : MV → Env → M Env} (h : PG X ea (tGq X.K (fun _ _ => True) f)) : PG X ea (tG X.K f) := pg_imp h fun v σ H Q ⟨m, h, ρ, y, S, en, r, w⟩ => ⟨m, h, ρ, y, S, en, r, w.mono fun _ _ q _ => q⟩
end
end MP
/-! MP: comprehensions, statements. -/
namespace MP
open PySem PySem.Spec PyProof.Rows L2
section
variable {X : Cx} {ea eb ec tg : Expr} {es : List Expr} {pos p : Pos} {fa fb fc : Env → M MV} {ta tb tc : Env → M Bool} {fl fk : Env → M (List MV)}
theorem lts_nil : PTs X [] (tT X.K fun _ => .ret true) := ⟨fun pins s σ H Q I ⟨m, h, ρ, S, en, w⟩ => pts_nil.run pins s σ H Q I (w.ret S rfl)⟩
theorem lts_one (h : PT X ea (tT X.K ta)) : PTs X [ea] (tT X.K ta) := pts_one h
/-- the blocks of a comprehension -/
def BX (X : Cx) (scope : Scope) (P : Cx → Prop) : Prop := ∀ (s : Shared) (H : Hp) (C : Addr) (cl : List (Str × Addr)) (fp : List Addr), P (X.blk s H scope (compEnvC scope cl C X.env) fp)
theorem l_lc {ifs : List Expr} {scope : Scope} {own : List (Str × Nat)} {W : Nat} {fi : Env → M Itv} {fg : MV → Env → M Env} {ft : Env → M Bool} (hc : X.calm = true) (hN : X.N.Nodup) (hset : noSet eb = true) (hi : PI X tg eb (tI X.K fi)) (ok : BlkOk X.N X.env.scope scope own)
    (hg : BX X scope fun Y => PG Y tg (tGq X.K (fun σ σ' => L2.wipe σ' (own.map (·.2)) = L2.wipe σ (own.map (·.2))) fg)) (ht : BX X scope fun Y => PTs Y ifs (tT X.K ft)) (he : BX X scope fun Y => PE Y ea (tE X.K fe)) :
    PE X (.ListComp ea [⟨tg, eb, ifs, 0⟩] scope pos) (tE X.K fun ρ => (fi ρ).bnd fun J => (lcLoop (lcStep fg ft fe (wipeE ρ (own.map (·.2)))) J W 0 []).bnd fun ys => M.alloc (.lst ys)) :=
  pe_imp (pe_lc hc hN hi ok hg ht he (no_folded hset)) fun σ H Q w => lc_lift w
theorem lift_asg {ft' : MV → Env → M Env} {te : TE} {σ : L2.St} {H : Hp} {D : Ends} (hte : ∀ σ H Q, tE X.K fa σ H Q → te σ H Q) (w : tSt X.K (fun ρ => (fa ρ).bnd fun x => (ft' x ρ).bnd fun ρ' => .ret (ρ', .nx)) D σ H) : tAsg te (tG X.K ft') D σ H := by
  obtain ⟨m, h, ρ, S, en, w⟩ := w
  refine hte _ _ _ (liftS (R := rV X.K) (g := fun x ρ => (ft' x ρ).bnd fun ρ' => .ret (ρ', .nx)) S en w fun m1 h1 x v H1 P1 S1 en1 r1 w1 => ?_)
  exact ⟨m1, h1, ρ, x, S1, en1, r1, (WS.bind (Rx := rE X.K) w1).mono fun σ2 H2 ⟨m2, h2, ρ2, P2, S2, en2, w2⟩ => WS.ret (p := (ρ2, Fl.nx)) w2 S2 en2⟩
theorem lift_set {i : Nat} {te : TE} {σ : L2.St} {H : Hp} {D : Ends} (hte : ∀ σ H Q, tE X.K fa σ H Q → te σ H Q) (w : tSt X.K (fun ρ => (fa ρ).bnd fun x => (M.ret (ρ.set i (some x))).bnd fun ρ' => .ret (ρ', .nx)) D σ H) : tAsg te (gName i) D σ H := by
  obtain ⟨m, h, ρ, S, en, w⟩ := w
  refine hte _ _ _ (liftS (R := rV X.K) (g := fun x ρ => (M.ret (ρ.set i (some x))).bnd fun ρ' => .ret (ρ', .nx)) S en w fun m1 h1 x v H1 P1 S1 en1 r1 w1 => ?_)
  exact WS.ret (p := (ρ.set i (some x), Fl.nx)) w1 S1 (en1.set r1)
theorem s_set {i : Nat} {x : Str} {q : Pos} (hN : X.N.Nodup) (hi : X.N[i]? = some x) (hx : Loc X.env.scope x) (hf : X.fn x = true ∨ X.env.scope.names.lookup x = some .local) (hs : swapsWith ea (some (.Name x q)) pos.line X.env = pure false) (ha : PE X ea (tE X.K fa)) :
    PS X (.Assign [.Name x q] ea pos) (tSt X.K fun ρ => (fa ρ).bnd fun x => (M.ret (ρ.set i (some x))).bnd fun ρ' => .ret (ρ', .nx)) :=
  ps_imp (ps_set hN hi hx ha hs hf) fun D σ H w => lift_set (X := X) (fun _ _ _ z => z) w
theorem s_setLc {i : Nat} {y : Str} {py : Pos} {spos : Pos} {ifs : List Expr} {scope : Scope} {own : List (Str × Nat)} {W : Nat} {fi : Env → M Itv} {fg : MV → Env → M Env} {ft : Env → M Bool} {fe : Env → M MV} (hc : X.calm = true) (hN : X.N.Nodup) (hy : X.N[i]? = some y) (hyl : X.env.scope.names.lookup y = some .local)
    (hsw : swapsWith (.ListComp ea [⟨tg, eb, ifs, 0⟩] scope pos) (some (.Name y py)) spos.line X.env = pure true) (hset : noSet eb = true) (hi : PI X tg eb (tI X.K fi)) (ok : BlkOk X.N X.env.scope scope own)
    (hg : BX X scope fun Y => PG Y tg (tGq X.K (fun σ σ' => L2.wipe σ' (own.map (·.2)) = L2.wipe σ (own.map (·.2))) fg)) (ht : BX X scope fun Y => PTs Y ifs (tT X.K ft)) (he : BX X scope fun Y => PE Y ea (tE X.K fe)) :
    PS X (.Assign [.Name y py] (.ListComp ea [⟨tg, eb, ifs, 0⟩] scope pos) spos) (tSt X.K fun ρ => ((fi ρ).bnd fun J => (lcLoop (lcStep fg ft fe (wipeE ρ (own.map (·.2)))) J W 0 []).bnd fun ys => M.alloc (.lst ys)).bnd fun x => (M.ret (ρ.set i (some x))).bnd fun ρ' => .ret (ρ', .nx)) :=
  ps_imp (ps_setLc hc hN hy hyl hsw hi ok hg ht he (no_folded hset)) fun D σ H w => lift_set (X := X) (fun _ _ _ z => lc_lift z) w
def notTup : Expr → Bool
  | .Tuple _ _ _ | .List _ _ => false
  | _ => true
/-- no two of its stores change places -/
theorem no_stores {t e : Expr} {env : PySem.Env} (h : notTup t = true ∨ notTup e = true) : swappedStores [t] e env = pure none := by
  rcases h with h | h
  · cases t <;> first | rfl | cases h
  · cases e <;> first | (cases t <;> rfl) | cases h
theorem s_asg {ft' : MV → Env → M Env} (hn : noComp ea = true) (hs : noStar tg = true) (hw : notTup tg = true ∨ notTup ea = true) (ha : PE X ea (tE X.K fa)) (hg : PG X tg (tG X.K ft')) :
    PS X (.Assign [tg] ea pos) (tSt X.K fun ρ => (fa ρ).bnd fun x => (ft' x ρ).bnd fun ρ' => .ret (ρ', .nx)) :=
  ps_imp (ps_asg ha hg (no_swaps hn) (no_stores hw) (by rw [each_cons hs]; rfl)) fun D σ H w => lift_asg (X := X) (fun _ _ _ z => z) w
theorem s_par {i j : Nat} {x y : Str} {px py pt : Pos} {kt k2 : Nat} {pt2 : Pos} (hc : X.calm = true) (hN : X.N.Nodup) (hi : X.N[i]? = some x) (hj : X.N[j]? = some y) (hij : i ≠ j) (hx : X.env.scope.names.lookup x = some .local) (hy : X.env.scope.names.lookup y = some .local)
    (hs : noStar ea = true) (hs2 : noStar eb = true) (ha : PE X ea (tE X.K fa)) (hb : PE X eb (tE X.K fb))
    (hw : swappedStores [.Tuple [.Name x px, .Name y py] kt pt] (.Tuple [ea, eb] k2 pt2) X.env = pure (some [x, y])) :
    PS X (.Assign [.Tuple [.Name x px, .Name y py] kt pt] (.Tuple [ea, eb] k2 pt2) pos) (tSt X.K fun ρ => (fa ρ).bnd fun x => (fb ρ).bnd fun y => .ret ((ρ.set i (some x)).set j (some y), .nx)) :=
  ps_imp (ps_par hc hN hi hj hij hx hy (pa_cons ha (pa_cons hb pa_nil (star_cons hs2)) (star_cons hs)) hw) fun D σ H ⟨m, h, ρ, S, en, w⟩ =>
    liftS (R := rV X.K) (g := fun x ρ => (fb ρ).bnd fun y => .ret ((ρ.set i (some x)).set j (some y), .nx)) S en w fun m1 h1 x v H1 P1 S1 en1 r1 w1 =>
      liftS (R := rV X.K) (g := fun y ρ => .ret ((ρ.set i (some x)).set j (some y), .nx)) S1 en1 w1 fun m2 h2 y u H2 P2 S2 en2 r2 w2 =>
        ⟨v, u, rfl, WS.ret (p := ((ρ.set i (some x)).set j (some y), Fl.nx)) w2 S2 ((en2.set (r1.mono P2)).set r2)⟩
theorem s_ex (hn : noComp ea = true) (ha : PE X ea (tE X.K fa)) : PS X (.Expr ea pos) (tSt X.K fun ρ => (fa ρ).bnd fun _ => .ret (ρ, .nx)) :=
  ps_imp (ps_expr ha (no_swaps hn)) fun D σ H ⟨m, h, ρ, S, en, w⟩ =>
    liftS (R := rV X.K) (g := fun _ ρ => .ret (ρ, .nx)) S en w fun m1 h1 x v H1 P1 S1 en1 r1 w1 => WS.ret (p := (ρ, Fl.nx)) w1 S1 en1
theorem s_ret (ha : PE X ea (tE X.K fa)) : PS X (.Return (some ea) pos) (tSt X.K fun ρ => (fa ρ).bnd fun x => .ret (ρ, .rt x)) :=
  ps_imp (ps_ret ha) fun D σ H ⟨m, h, ρ, S, en, w⟩ =>
    liftS (R := rV X.K) (g := fun x ρ => .ret (ρ, .rt x)) S en w fun m1 h1 x v H1 P1 S1 en1 r1 w1 => WS.ret (p := (ρ, Fl.rt x)) w1 S1 en1 v r1
theorem s_retN : PS X (.Return none pos) (tSt X.K fun ρ => .ret (ρ, .rt .non)) :=
  ps_imp ps_retN fun D σ H ⟨m, h, ρ, S, en, w⟩ => WS.ret (p := (ρ, Fl.rt .non)) w S en _ vr_non
theorem s_pas : PS X (.Pass pos) (tSt X.K fun ρ => .ret (ρ, .nx)) := ps_imp ps_pass fun D σ H ⟨m, h, ρ, S, en, w⟩ => WS.ret (p := (ρ, Fl.nx)) w S en
theorem s_doc {x : Str} {j : Nat} : PS X (.Expr (.Constant (.str x) j p) pos) (tSt X.K fun ρ => .ret (ρ, .nx)) := ps_imp ps_doc fun D σ H ⟨m, h, ρ, S, en, w⟩ => WS.ret (p := (ρ, Fl.nx)) w S en
theorem s_if {A B : List Stmt} {ga gb : Env → M (Env × Fl)} (hc : PT X ec (tT X.K tc)) (ha : PSs X A (tSt X.K ga)) (hb : PSs X B (tSt X.K gb)) : PS X (.If ec A B pos) (tSt X.K fun ρ => (tc ρ).bnd fun k => if k then ga ρ else gb ρ) :=
  ps_imp (ps_if hc ha hb) fun D σ H ⟨m, h, ρ, S, en, w⟩ =>
    liftS (R := rId) (g := fun k ρ => if k then ga ρ else gb ρ) S en w fun m1 h1 k v H1 P1 S1 en1 r1 w1 => by
      cases r1
      cases k with
      | true => rw [if_pos rfl]; exact ⟨m1, h1, ρ, S1, en1, w1⟩
      | false => rw [if_neg Bool.false_ne_true]; exact ⟨m1, h1, ρ, S1, en1, w1⟩
theorem s_for {A : List Stmt} {W : Nat} {fi : Env → M Itv} {fg : MV → Env → M Env} {ga : Env → M (Env × Fl)} (hp : PassesOwn (model X.prog X.w) X.A X.env X.xe) (hc : X.calm = true) (hset : noSet ea = true) (hi : PI X tg ea (tI X.K fi)) (hg : PG X tg (tG X.K fg)) (hb : PSs X A (tSt X.K ga)) :
    PS X (.For tg ea A [] pos) (tSt X.K fun ρ => (fi ρ).bnd fun J => forLoop fg ga J W 0 ρ) :=
  ps_imp (ps_for hp hc hi hg hb (no_folded hset)) fun D σ H w => for_lift w
theorem s_whl {A : List Stmt} {W : Nat} {ga : Env → M (Env × Fl)} (hp : PassesOwn (model X.prog X.w) X.A X.env X.xe) (hc : PT X ec (tT X.K tc)) (hb : PSs X A (tSt X.K ga)) : PS X (.While ec A [] pos) (tSt X.K fun ρ => whlLoop tc ga W ρ) :=
  ps_imp (ps_while hp hc hb) fun D σ H w => whl_lift w
theorem ss_nil : PSs X [] (tSt X.K fun ρ => .ret (ρ, .nx)) := pss_imp pss_nil fun D σ H ⟨m, h, ρ, S, en, w⟩ => WS.ret (p := (ρ, Fl.nx)) w S en
theorem ss_cons {st : Stmt} {A : List Stmt} {ga gb : Env → M (Env × Fl)} (h1 : PS X st (tSt X.K ga)) (h2 : PSs X A (tSt X.K gb)) : PSs X (st :: A) (tSt X.K fun ρ => (ga ρ).bnd fun p => match p.2 with
    | .nx => gb p.1
    | f => .ret (p.1, f)) :=
  pss_imp (pss_cons h1 h2) fun D σ H ⟨m, h, ρ, S, en, w⟩ => ⟨m, h, ρ, S, en, WS.seq w fun q m1 h1 H1 σ1 P1 S1 en1 w1 => by
    obtain ⟨ρ1, f⟩ := q
    cases f with
    | nx => exact ⟨m1, h1, ρ1, S1, en1, w1⟩
    | rt v => exact WS.ret (p := (ρ1, Fl.rt v)) w1 S1 en1
    | bk => exact WS.ret (p := (ρ1, Fl.bk)) w1 S1 en1
    | ct => exact WS.ret (p := (ρ1, Fl.ct)) w1 S1 en1⟩
end
end MP
/-! MP: the test that a term tells an expression of the text. -/
namespace MP
open PySem PySem.Spec PyProof.Rows L2
/-- a def of the text -/
structure FD where
  x : Str
  ps : List Str
  st : Stmt
/-- what the module holds: its defs, its constants, the built-ins' names that it leaves alone -/
structure TB where
  fns : List FD
  cs : List (Str × MV)
  bs : List Str
  ks : List (Nat × Nat × List Str × List Nat)
def visB (sc : Scope) (x : Str) : Bool := match sc.names.lookup x with
  | some .local | some .cell | some .free => true
  | _ => false
def gloB (sc : Scope) (x : Str) : Bool := match sc.names.lookup x with
  | some .globalImplicit => !(x == ("__debug__" : Str))
  | _ => false
def locB (sc : Scope) (x : Str) : Bool := match sc.names.lookup x with
  | some .local => true
  | _ => false
def celB (sc : Scope) (x : Str) : Bool := match sc.names.lookup x with
  | some .cell => true
  | _ => false
def stoB (N : List Str) (sc : Scope) (fb : Str → Bool) (i : Nat) (x : Str) : Bool := decide (N[i]? = some x) && (locB sc x || (celB sc x && fb x))
def varB (N : List Str) (sc : Scope) (i : Nat) (x : Str) : Bool := decide (N[i]? = some x) && visB sc x && !(x == ("__debug__" : Str)) && !(x == ("__classdict__" : Str))
def litB (v : MV) (c : Const) : Bool := match cK v with
  | some d => decide (d = c)
  | none => false
mutual
def mvB : MV → MV → Bool
  | .non, .non => true
  | .bl a, .bl b => a == b
  | .int a, .int b => decide (a = b)
  | .str a, .str b => decide (a = b)
  | .tup xs, .tup ys => mvsB xs ys
  | .ro xs, .ro ys => mvsB xs ys
  | _, _ => false
def mvsB : List MV → List MV → Bool
  | [], [] => true
  | x :: xs, y :: ys => mvB x y && mvsB xs ys
  | _, _ => false
end
def opB (o : Bop) (p : Operator) : Bool := match o, p with
  | .add, .Add => true | .sub, .Sub => true | .mul, .Mult => true | .fdiv, .FloorDiv => true | .mod, .Mod => true | .pow, .Pow => true
  | _, _ => false
def copB (o : Cop) (p : CmpOp) : Bool := match o, p with
  | .eq, .Eq => true | .ne, .NotEq => true | .lt, .Lt => true | .le, .LtE => true | .gt, .Gt => true | .ge, .GtE => true | .isin, .In => true | .notin, .NotIn => true
  | _, _ => false
def isB (ng : Bool) (p : CmpOp) : Bool := match ng, p with
  | true, .IsNot => true
  | false, .Is => true
  | _, _ => false
def kB (v : MV) (c : Const) : Bool := match v, c with
  | .non, .none => true
  | .bl a, .bool b => a == b
  | _, _ => false
def boB (d : Bool) (p : BoolOp) : Bool := match d, p with
  | true, .And => true
  | false, .Or => true
  | _, _ => false
def bltB (B : TB) (sc : Scope) (x y : Str) : Bool := decide (x = y) && gloB sc x && B.bs.contains x
def fnB (B : TB) (sc : Scope) (f : Nat) (x : Str) : Bool := gloB sc x && match B.fns[f]? with
  | some d => decide (d.x = x)
  | none => false
/-- the slots with their names -/
def ownN (N : List Str) (own : List Nat) : List (Str × Nat) := own.map fun i => (N.getD i "", i)
def blkF (scope : Scope) : Str → Bool := fun x => scope.names.lookup x == some .cell
mutual
def chkE (B : TB) (N : List Str) : E → Scope → (Str → Bool) → Expr → Bool
  | .var i, sc, _, e => match e with
    | .Name x _ => varB N sc i x
    | _ => false
  | .lit v, _, _, e => match e with
    | .Constant c _ _ => litB v c
    | _ => false
  | .glo x v, sc, _, e => match e with
    | .Name y _ => decide (x = y) && gloB sc x && B.cs.any fun p => decide (p.1 = x) && mvB p.2 v
    | _ => false
  | .tup es, sc, fb, e => match e with
    | .Tuple l _ _ => chkEL B N es sc fb l
    | _ => false
  | .lst es, sc, fb, e => match e with
    | .List l _ => chkEL B N es sc fb l
    | _ => false
  | .dct es, sc, fb, e => match es, e with
    | .nil, .Dict [] [] _ => true
    | .cons (.lit (.str k)) (.cons a .nil), .Dict [some (.Constant (.str j) _ _)] [v] _ => decide (k = j) && chkE B N a sc fb v
    | _, _ => false
  | .bin o a b, sc, fb, e => match e with
    | .BinOp x p y _ => opB o p && chkE B N a sc fb x && chkE B N b sc fb y
    | _ => false
  | .neg a, sc, fb, e => match e with
    | .UnaryOp .USub x _ => chkE B N a sc fb x
    | _ => false
  | .cmp o a b, sc, fb, e => match e with
    | .Compare x [p] [y] _ => copB o p && noSet y && chkE B N a sc fb x && chkE B N b sc fb y
    | _ => false
  | .chain o p a b c, sc, fb, e => match e with
    | .Compare x [u, v] [y, z] _ => copB o u && copB p v && noSet z && chkE B N a sc fb x && chkE B N b sc fb y && chkE B N c sc fb z
    | _ => false
  | .isK ng a v, sc, fb, e => match e with
    | .Compare x [p] [.Constant c _ _] _ => isB ng p && kB v c && chkE B N a sc fb x
    | _ => false
  | .bop d es, sc, fb, e => match e with
    | .BoolOp p l _ => boB d p && chkB B N es sc fb l
    | _ => false
  | .not a, sc, fb, e => match e with
    | .UnaryOp .Not x _ => chkE B N a sc fb x
    | _ => false
  | .ife t a b, sc, fb, e => match e with
    | .IfExp x y z _ => chkT B N t sc fb x && chkE B N a sc fb y && chkE B N b sc fb z
    | _ => false
  | .call f es, sc, fb, e => match e with
    | .Call (.Name x _) l [] _ => fnB B sc f x && chkEL B N es sc fb l
    | _ => false
  | .callk f es kes arr, sc, fb, e => match e with
    | .Call (.Name x _) l kws _ => fnB B sc f x && B.ks.contains (f, l.length, kws.filterMap (·.arg), arr) && kwOk (kws.filterMap (·.arg)) kws && chkEL B N es sc fb l && chkEL B N kes sc fb (kws.map (·.value))
    | _ => false
  | .bi b es, sc, fb, e => match e with
    | .Call (.Name x _) (a :: l) [] _ => bltB B sc x (biN b) && chkEL B N es sc fb (a :: l)
    | _ => false
  | .isi a ts, sc, fb, e => match e with
    | .Call (.Name x _) [v, .Name y _] [] _ => (match ts with
      | [t] => bltB B sc x isiN && bltB B sc y (tyN t) && noStar v && chkE B N a sc fb v
      | _ => false)
    | .Call (.Name x _) [v, .Tuple [.Name y _, .Name z _] _ _] [] _ => (match ts with
      | [t, u] => bltB B sc x isiN && bltB B sc y (tyN t) && bltB B sc z (tyN u) && noStar v && chkE B N a sc fb v
      | _ => false)
    | _ => false
  | .mth m o es, sc, fb, e => match e with
    | .Call (.Attribute v n p) l [] q => decide (n = mtN m) && noSuper v && (p.endLine == q.line) && decide (l.length < 30) && chkE B N o sc fb v && chkEL B N es sc fb l
    | _ => false
  | .idx a b, sc, fb, e => match e with
    | .Subscript x y _ => noSlice y && chkE B N a sc fb x && chkE B N b sc fb y
    | _ => false
  | .slc a lo hi, sc, fb, e => match e with
    | .Subscript x (.Slice u v none _) _ => chkE B N a sc fb x && chkO B N lo sc fb u && chkO B N hi sc fb v
    | _ => false
  | .lc a t it cs own, sc, fb, e => match e with
    | .ListComp v [⟨tg, iter, ifs, 0⟩] scope _ => blkC N sc scope (ownN N own) && noSet iter && chkIt B N it sc fb iter && chkTg B N t (fun i => own.contains i) (relS scope sc) (blkF scope) tg &&
        chkC B N cs (relS scope sc) (blkF scope) ifs && chkE B N a (relS scope sc) (blkF scope) v
    | _ => false
def chkEL (B : TB) (N : List Str) : EL → Scope → (Str → Bool) → List Expr → Bool
  | .nil, _, _, l => l.isEmpty
  | .cons a r, sc, fb, l => match l with
    | v :: t => noStar v && chkE B N a sc fb v && chkEL B N r sc fb t
    | [] => false
def chkB (B : TB) (N : List Str) : EL → Scope → (Str → Bool) → List Expr → Bool
  | .nil, _, _, _ => false
  | .cons a .nil, sc, fb, l => match l with
    | [v] => chkE B N a sc fb v
    | _ => false
  | .cons a (.cons b r), sc, fb, l => match l with
    | v :: w :: t => chkE B N a sc fb v && chkB B N (.cons b r) sc fb (w :: t)
    | _ => false
def chkO (B : TB) (N : List Str) : EO → Scope → (Str → Bool) → Option Expr → Bool
  | .no, _, _, o => o.isNone
  | .so a, sc, fb, o => match o with
    | some v => chkE B N a sc fb v
    | none => false
def chkC (B : TB) (N : List Str) : EO → Scope → (Str → Bool) → List Expr → Bool
  | .no, _, _, o => o.isEmpty
  | .so a, sc, fb, o => match o with
    | [v] => chkT B N a sc fb v
    | _ => false
def chkT (B : TB) (N : List Str) : E → Scope → (Str → Bool) → Expr → Bool
  | .bop d es, sc, fb, e => match e with
    | .BoolOp p l _ => boB d p && chkBT B N es sc fb l
    | _ => false
  | .not a, sc, fb, e => match e with
    | .UnaryOp .Not x _ => chkT B N a sc fb x
    | _ => false
  | .var i, sc, fb, e => match e with
    | .Name x _ => varB N sc i x
    | _ => false
  | .cmp o a b, sc, fb, e => match e with
    | .Compare x [p] [y] _ => copB o p && noSet y && chkE B N a sc fb x && chkE B N b sc fb y
    | _ => false
  | .chain o p a b c, sc, fb, e => match e with
    | .Compare x [u, v] [y, z] _ => copB o u && copB p v && noSet z && chkE B N a sc fb x && chkE B N b sc fb y && chkE B N c sc fb z
    | _ => false
  | .isK ng a v, sc, fb, e => match e with
    | .Compare x [p] [.Constant c _ _] _ => isB ng p && kB v c && chkE B N a sc fb x
    | _ => false
  | .call f es, sc, fb, e => match e with
    | .Call (.Name x _) l [] _ => fnB B sc f x && chkEL B N es sc fb l
    | _ => false
  | .bi b es, sc, fb, e => match e with
    | .Call (.Name x _) (a :: l) [] _ => bltB B sc x (biN b) && chkEL B N es sc fb (a :: l)
    | _ => false
  | .isi a ts, sc, fb, e => match e with
    | .Call (.Name x _) [v, .Name y _] [] _ => (match ts with
      | [t] => bltB B sc x isiN && bltB B sc y (tyN t) && noStar v && chkE B N a sc fb v
      | _ => false)
    | .Call (.Name x _) [v, .Tuple [.Name y _, .Name z _] _ _] [] _ => (match ts with
      | [t, u] => bltB B sc x isiN && bltB B sc y (tyN t) && bltB B sc z (tyN u) && noStar v && chkE B N a sc fb v
      | _ => false)
    | _ => false
  | .idx a b, sc, fb, e => match e with
    | .Subscript x y _ => noSlice y && chkE B N a sc fb x && chkE B N b sc fb y
    | _ => false
  | _, _, _, _ => false
def chkBT (B : TB) (N : List Str) : EL → Scope → (Str → Bool) → List Expr → Bool
  | .nil, _, _, _ => false
  | .cons a .nil, sc, fb, l => match l with
    | [v] => chkT B N a sc fb v
    | _ => false
  | .cons a (.cons b r), sc, fb, l => match l with
    | v :: w :: t => chkT B N a sc fb v && chkBT B N (.cons b r) sc fb (w :: t)
    | _ => false
def chkTg (B : TB) (N : List Str) : Tg → (Nat → Bool) → Scope → (Str → Bool) → Expr → Bool
  | .nm i, ok, sc, fb, e => match e with
    | .Name x _ => ok i && stoB N sc fb i x
    | _ => false
  | .tp ts, ok, sc, fb, e => match e with
    | .Tuple l _ _ => l.all noStar && chkTgL B N ts ok sc fb l
    | _ => false
  | .sb o i, ok, sc, fb, e => match e with
    | .Subscript x y _ => noSlice y && chkE B N o sc fb x && chkE B N i sc fb y
    | _ => false
def chkTgL (B : TB) (N : List Str) : TgL → (Nat → Bool) → Scope → (Str → Bool) → List Expr → Bool
  | .nil, _, _, _, l => l.isEmpty
  | .cons t r, ok, sc, fb, l => match l with
    | v :: q => noStar v && chkTg B N t ok sc fb v && chkTgL B N r ok sc fb q
    | [] => false
def chkIt (B : TB) (N : List Str) : Ir → Scope → (Str → Bool) → Expr → Bool
  | .vl a, sc, fb, e => chkE B N a sc fb e
  | .rg1 a, sc, fb, e => match e with
    | .Call (.Name x _) [v] [] _ => bltB B sc x rangeN && noStar v && chkE B N a sc fb v
    | _ => false
  | .rg2 a b, sc, fb, e => match e with
    | .Call (.Name x _) [v, w] [] _ => bltB B sc x rangeN && noStar v && noStar w && chkE B N a sc fb v && chkE B N b sc fb w
    | _ => false
end
/-- two names stored at once, changed in place -/
def parB (sc : Scope) (x y : Str) (px py : Pos) (a b : Expr) : Bool := locB sc x && locB sc y && (py.line == px.line) && decide (x ≠ y) && !(foldedForSure 8 a && foldedForSure 8 b) && !(constantsAlone 8 a && constantsAlone 8 b) && noStar a && noStar b
/-- a comprehension stored in a name on its line -/
def swpB (sc scope : Scope) (y : Str) (py pos : Pos) : Bool := locB sc y && (py.line == pos.line) && !(scope.names.any fun (n, k) => n == y && (k == .local || k == .cell))
def isComp : Expr → Bool
  | .ListComp _ _ _ _ => true
  | _ => false
mutual
def chkS (B : TB) (N : List Str) (sc : Scope) : S → Stmt → Bool
  | .asg t e, s => match s with
    | .Assign [tg] v p => (match t, tg with
      | .nm i, .Name x q => stoB N sc (fun _ => true) i x && chkE B N e sc (fun _ => true) v && (match v with
        | .ListComp _ _ scope lp => swpB sc scope x q lp || celB sc x
        | v => noComp v)
      | t, tg => noComp v && noStar tg && (notTup tg || notTup v) && chkE B N e sc (fun _ => true) v && chkTg B N t (fun _ => true) sc (fun _ => true) tg)
    | _ => false
  | .par i j a b, s => match s with
    | .Assign [.Tuple [.Name x px, .Name y py] _ _] (.Tuple [u, v] _ _) _ => decide (N[i]? = some x) && decide (N[j]? = some y) && decide (i ≠ j) && parB sc x y px py u v && chkE B N a sc (fun _ => true) u && chkE B N b sc (fun _ => true) v
    | _ => false
  | .ex e, s => match s with
    | .Expr v _ => noComp v && chkE B N e sc (fun _ => true) v
    | _ => false
  | .ret e, s => match s with
    | .Return (some v) _ => chkE B N e sc (fun _ => true) v
    | _ => false
  | .retN, s => match s with
    | .Return none _ => true
    | _ => false
  | .ifs c a b, s => match s with
    | .If v l r _ => chkT B N c sc (fun _ => true) v && chkSL B N sc a l && chkSL B N sc b r
    | _ => false
  | .fors t it b, s => match s with
    | .For tg iter l [] _ => noSet iter && chkIt B N it sc (fun _ => true) iter && chkTg B N t (fun _ => true) sc (fun _ => true) tg && chkSL B N sc b l
    | _ => false
  | .whl c b, s => match s with
    | .While v l [] _ => chkT B N c sc (fun _ => true) v && chkSL B N sc b l
    | _ => false
  | .pas, s => match s with
    | .Pass _ => true
    | .Expr (.Constant (.str _) _ _) _ => true
    | _ => false
def chkSL (B : TB) (N : List Str) (sc : Scope) : SL → List Stmt → Bool
  | .nil, l => l.isEmpty
  | .cons s r, l => match l with
    | v :: t => chkS B N sc s v && chkSL B N sc r t
    | [] => false
end
end MP
/-! MP: a term that passes the test is walked. -/
namespace MP
open PySem PySem.Spec PyProof.Rows L2
theorem bt {a b : Bool} (h : (a && b) = true) : a = true ∧ b = true := Bool.and_eq_true_iff.mp h
structure SameM (X Y : Cx) : Prop where
  prog : Y.prog = X.prog
  w : Y.w = X.w
  K : Y.K = X.K
  mg : Y.mg = X.mg
  base : Y.base = X.base
  A : Y.A = X.A
theorem SameM.refl {X : Cx} : SameM X X := ⟨rfl, rfl, rfl, rfl, rfl, rfl⟩
/-- a context in which terms over these slots are walked -/
structure GX (B : TB) (F : Nat → List MV → M MV) (N : List Str) (sc : Scope) (fb : Str → Bool) (X : Cx) : Prop where
  hN : X.N = N
  nd : X.N.Nodup
  hsc : X.env.scope = sc
  calm : X.calm = true
  gd : X.A.guards = some []
  sm : SmOk X
  hu : X.A.units + 65 < cLine
  hfb : ∀ x, fb x = true → X.fn x = true
  con : ∀ p ∈ B.cs, ConOk X.K X.mg p.1 p.2
  fun_ : ∀ f d, B.fns[f]? = some d → ∃ a, X.mg d.x = some (.ref a) ∧ PySem.W.keepIn X.K (.ref a) = true ∧ (∀ Y, SameM X Y → CallM Y a (F f)) ∧ ∀ n ks arr, (f, n, ks, arr) ∈ B.ks → ∀ Y, SameM X Y → CallK Y a n ks arr (F f)
  blt : ∀ b ∈ B.bs, X.mg b = none
section
variable {B : TB} {F : Nat → List MV → M MV} {W : Nat} {N : List Str} {sc : Scope} {fb : Str → Bool} {X : Cx}
theorem GX.blk (G : GX B F N sc fb X) (scope : Scope) (s : Shared) (H : Hp) (C : Addr) (cl : List (Str × Addr)) (fp : List Addr) : GX B F N (relS scope sc) (blkF scope) (X.blk s H scope (compEnvC scope cl C X.env) fp) where
  hN := G.hN
  nd := G.nd
  hsc := by rw [← G.hsc]; rfl
  calm := G.calm
  gd := G.gd
  sm := G.sm
  hu := G.hu
  hfb := fun x h => h
  con := G.con
  fun_ := fun f d h => by
    obtain ⟨a, h1, h2, h3, h4⟩ := G.fun_ f d h
    exact ⟨a, h1, h2, fun Y s => h3 Y ⟨s.prog, s.w, s.K, s.mg, s.base, s.A⟩, fun n ks arr hk Y s => h4 n ks arr hk Y ⟨s.prog, s.w, s.K, s.mg, s.base, s.A⟩⟩
  blt := G.blt
theorem notB {b : Bool} (h : (!b) = true) : b = false := by
  cases b with
  | false => rfl
  | true => cases h
theorem GX.glo (G : GX B F N sc fb X) {x : Str} (h : gloB sc x = true) : Gl X x ∧ (x == ("__debug__" : Str)) = false := by
  unfold gloB at h
  split at h
  · rename_i e
    exact ⟨by show X.env.scope.names.lookup x = _; rw [G.hsc]; exact e, notB h⟩
  · cases h
theorem GX.vis (G : GX B F N sc fb X) {x : Str} (h : visB sc x = true) : Vis X.env.scope x := by
  rw [G.hsc]
  unfold visB at h
  split at h
  · rename_i e; exact .inl e
  · rename_i e; exact .inr (.inl e)
  · rename_i e; exact .inr (.inr e)
  · cases h
theorem loc_of {x : Str} (h : locB sc x = true) : sc.names.lookup x = some .local := by
  unfold locB at h
  split at h
  · assumption
  · cases h
theorem cel_of {x : Str} (h : celB sc x = true) : sc.names.lookup x = some .cell := by
  unfold celB at h
  split at h
  · assumption
  · cases h
theorem GX.sto (G : GX B F N sc fb X) {i : Nat} {x : Str} (h : stoB N sc fb i x = true) : X.N[i]? = some x ∧ Loc X.env.scope x ∧ (X.fn x = true ∨ X.env.scope.names.lookup x = some .local) := by
  obtain ⟨h1, h2⟩ := bt h
  refine ⟨by rw [G.hN]; exact of_decide_eq_true h1, ?_⟩
  rw [G.hsc]
  rcases Bool.or_eq_true_iff.mp h2 with h2 | h2
  · exact ⟨.inl (loc_of h2), .inr (loc_of h2)⟩
  · obtain ⟨h3, h4⟩ := bt h2
    exact ⟨.inr (cel_of h3), .inl (G.hfb x h4)⟩
theorem GX.var (G : GX B F N sc fb X) {i : Nat} {x : Str} {pos : Pos} (h : varB N sc i x = true) : PE X (.Name x pos) (tE X.K fun ρ => match ρ[i]? with
    | some (some v) => .ret v
    | _ => .stk) := by
  obtain ⟨h, h4⟩ := bt h
  obtain ⟨h, h3⟩ := bt h
  obtain ⟨h1, h2⟩ := bt h
  exact l_var (by rw [G.hN]; exact of_decide_eq_true h1) (G.vis h2) (notB h3) (notB h4)
mutual
theorem mv_eq : ∀ {a b : MV}, mvB a b = true → a = b
  | .non, b, h => by cases b <;> first | rfl | cases h
  | .bl x, b, h => by
    cases b <;> first | cases h | skip
    rw [eq_of_beq (show (x == _) = true from h)]
  | .int x, b, h => by
    cases b <;> first | cases h | skip
    rw [of_decide_eq_true (show decide (x = _) = true from h)]
  | .str x, b, h => by
    cases b <;> first | cases h | skip
    rw [of_decide_eq_true (show decide (x = _) = true from h)]
  | .tup x, b, h => by
    cases b <;> first | cases h | skip
    rw [mvs_eq (show mvsB x _ = true from h)]
  | .ro x, b, h => by
    cases b <;> first | cases h | skip
    rw [mvs_eq (show mvsB x _ = true from h)]
  | .ref x, b, h => by cases b <;> cases h
theorem mvs_eq : ∀ {a b : List MV}, mvsB a b = true → a = b
  | [], b, h => by cases b <;> first | rfl | cases h
  | x :: xs, b, h => by
    cases b with
    | nil => cases h
    | cons y ys =>
      obtain ⟨h1, h2⟩ := bt (show (mvB x y && mvsB xs ys) = true from h)
      rw [mv_eq h1, mvs_eq h2]
end
theorem op_eq {o : Bop} {p : Operator} (h : opB o p = true) : p = aBop o := by
  cases o <;> cases p <;> first | rfl | cases h
theorem cop_eq {o : Cop} {p : CmpOp} (h : copB o p = true) : p = aCop o := by
  cases o <;> cases p <;> first | rfl | cases h
theorem is_eq {o : Bool} {p : CmpOp} (h : isB o p = true) : p = isKop o := by
  cases o <;> cases p <;> first | rfl | cases h
theorem bo_eq {o : Bool} {p : BoolOp} (h : boB o p = true) : p = aB o := by
  cases o <;> cases p <;> first | rfl | cases h
theorem k_eq {v : MV} {c : Const} (h : kB v c = true) : (v = .non ∧ c = .none) ∨ ∃ b, v = .bl b ∧ c = .bool b := by
  unfold kB at h
  split at h
  · exact .inl ⟨rfl, rfl⟩
  · exact .inr ⟨_, rfl, by rw [eq_of_beq h]⟩
  · cases h
theorem lit_eq {v : MV} {c : Const} (h : litB v c = true) : cK v = some c := by
  unfold litB at h
  split at h
  · rename_i e; rw [e, of_decide_eq_true h]
  · cases h
theorem GX.bl (G : GX B F N sc fb X) {x y : Str} (h : bltB B sc x y = true) : x = y ∧ Gl X y ∧ X.mg y = none := by
  obtain ⟨h, h3⟩ := bt h
  obtain ⟨h1, h2⟩ := bt h
  have e := of_decide_eq_true h1
  subst e
  exact ⟨rfl, (G.glo h2).1, G.blt _ (List.contains_iff_mem.mp h3)⟩
theorem GX.fn (G : GX B F N sc fb X) {f : Nat} {x : Str} (h : fnB B sc f x = true) : Gl X x ∧ (x == ("__debug__" : Str)) = false ∧ ∃ a, X.mg x = some (.ref a) ∧ PySem.W.keepIn X.K (.ref a) = true ∧ CallM X a (F f) ∧ ∀ n ks arr, (f, n, ks, arr) ∈ B.ks → CallK X a n ks arr (F f) := by
  obtain ⟨h1, h2⟩ := bt h
  split at h2
  · rename_i d e
    have ex := of_decide_eq_true h2
    subst ex
    obtain ⟨a, m1, m2, m3, m4⟩ := G.fun_ _ _ e
    exact ⟨(G.glo h1).1, (G.glo h1).2, a, m1, m2, m3 X .refl, fun n ks arr hk => m4 n ks arr hk X .refl⟩
  · cases h2
/-! ### lengths -/
def lenEL : EL → Nat
  | .nil => 0
  | .cons _ r => lenEL r + 1
theorem evEL_len : ∀ {es : EL} {ρ : Env} {h : MH} {ys : List MV} {h' : MH}, evEL F W es ρ h = .ok ys h' → ys.length = lenEL es
  | .nil, ρ, h, ys, h', e => by
    have e : M.ret ([] : List MV) h = .ok ys h' := e
    cases e
    rfl
  | .cons a r, ρ, h, ys, h', e => by
    have e : ((evE F W a ρ).bnd fun x => (evEL F W r ρ).bnd fun xs => M.ret (x :: xs)) h = .ok ys h' := e
    unfold M.bnd at e
    cases e1 : evE F W a ρ h with
    | ok x h1 =>
      rw [e1] at e
      dsimp only at e
      cases e2 : evEL F W r ρ h1 with
      | ok xs h2 =>
        rw [e2] at e
        cases e
        show xs.length + 1 = _
        rw [evEL_len e2]
        rfl
      | exc _ _ => rw [e2] at e; cases e
      | stuck => rw [e2] at e; cases e
    | exc _ _ => rw [e1] at e; cases e
    | stuck => rw [e1] at e; cases e
def lenTg : TgL → Nat
  | .nil => 0
  | .cons _ r => lenTg r + 1
theorem asgL_len : ∀ {ts : TgL} {xs : List MV} {ρ : Env} {h : MH} {ρ' : Env} {h' : MH}, asgL F W ts xs ρ h = .ok ρ' h' → xs.length = lenTg ts
  | .nil, [], _, _, _, _, _ => rfl
  | .nil, _ :: _, _, _, _, _, e => by cases e
  | .cons _ _, [], _, _, _, _, e => by cases e
  | .cons t r, x :: xs, ρ, h, ρ', h', e => by
    have e : ((asgT F W t x ρ).bnd fun ρ' => asgL F W r xs ρ') h = .ok ρ' h' := e
    unfold M.bnd at e
    cases e1 : asgT F W t x ρ h with
    | ok ρ1 h1 =>
      rw [e1] at e
      dsimp only at e
      show xs.length + 1 = _
      rw [asgL_len e]
      rfl
    | exc _ _ => rw [e1] at e; cases e
    | stuck => rw [e1] at e; cases e
theorem chkEL_len : ∀ {es : EL} {l : List Expr}, chkEL B N es sc fb l = true → l.length = lenEL es ∧ l.all noStar = true
  | .nil, [], _ => ⟨rfl, rfl⟩
  | .nil, _ :: _, h => by cases h
  | .cons a r, [], h => by cases h
  | .cons a r, v :: t, h => by
    obtain ⟨h, h3⟩ := bt (show (noStar v && chkE B N a sc fb v && chkEL B N r sc fb t) = true from h)
    obtain ⟨h1, h2⟩ := bt h
    obtain ⟨i1, i2⟩ := chkEL_len h3
    exact ⟨by show t.length + 1 = _; rw [i1]; rfl, by rw [List.all_cons, h1, i2]; rfl⟩
theorem chkTgL_len {ok : Nat → Bool} : ∀ {es : TgL} {l : List Expr}, chkTgL B N es ok sc fb l = true → l.length = lenTg es
  | .nil, [], _ => rfl
  | .nil, _ :: _, h => by cases h
  | .cons a r, [], h => by cases h
  | .cons a r, v :: t, h => by
    obtain ⟨h, h3⟩ := bt (show (noStar v && chkTg B N a ok sc fb v && chkTgL B N r ok sc fb t) = true from h)
    show t.length + 1 = _
    rw [chkTgL_len h3]
    rfl
theorem kwOk_len : ∀ {kws : List Keyword} {ks : List Str}, kwOk ks kws = true → kws.length = ks.length
  | [], ks, h => by
    cases ks with
    | nil => rfl
    | cons _ _ => cases h
  | ⟨none, v, q⟩ :: r, ks, h => absurd h (by unfold kwOk; exact Bool.false_ne_true)
  | ⟨some n, v, q⟩ :: r, ks, h => by
    cases ks with
    | nil => cases h
    | cons k t =>
      have h : (decide (k = n) && kwOk t r) = true := h
      show r.length + 1 = t.length + 1
      rw [kwOk_len (bt h).2]
end
end MP
namespace MP
open PySem PySem.Spec PyProof.Rows L2
section
variable {B : TB} {F : Nat → List MV → M MV} {W : Nat} {N : List Str}
theorem own_map (own : List Nat) : (ownN N own).map (·.2) = own := by
  unfold ownN
  rw [List.map_map]
  exact List.map_id own
theorem lt_bl {X : Cx} {ea : Expr} {fb : Env → M Bool} (hp : plainTest ea = true) (ha : PE X ea (tE X.K fun ρ => (fb ρ).bnd fun k => .ret (MV.bl k))) : PT X ea (tT X.K fb) :=
  pt_imp (lt_val hp ha) fun σ H Q ⟨m, h, ρ, S, en, w⟩ => ⟨m, h, ρ, S, en, by
    have e : (((fb ρ).bnd fun k => M.ret (MV.bl k)).bnd truV) h = fb ρ h := by
      unfold M.bnd
      cases fb ρ h <;> rfl
    show WP _ _ ((((fb ρ).bnd fun k => M.ret (MV.bl k)).bnd truV) h) m H Q
    rw [e]
    exact w⟩
theorem lt_bl2 {X : Cx} {ea : Expr} {fa : Env → M MV} {f : MV → M Bool} (hp : plainTest ea = true) (ha : PE X ea (tE X.K fun ρ => (fa ρ).bnd fun x => (f x).bnd fun k => .ret (MV.bl k))) : PT X ea (tT X.K fun ρ => (fa ρ).bnd f) :=
  lt_bl hp (pe_imp ha fun σ H Q ⟨m, h, ρ, S, en, w⟩ => ⟨m, h, ρ, S, en, by
    have e : (((fa ρ).bnd f).bnd fun k => M.ret (MV.bl k)) h = ((fa ρ).bnd fun x => (f x).bnd fun k => M.ret (MV.bl k)) h := WP.bnd_bnd (K := X.K) (R := rV X.K) (h0 := h)
    show WP _ _ (((fa ρ).bnd fun x => (f x).bnd fun k => M.ret (MV.bl k)) h) m H Q
    rw [← e]
    exact w⟩)

theorem wp_assoc {K : PySem.W.Frag} {α β γ δ : Type} {R : List Addr → Hp → γ → δ → Prop} {x : M α} {f : α → M β} {g : β → M γ} {h : MH} {m : List Addr} {H : Hp} {Q : δ → Hp → Prop} (w : WP K R ((x.bnd fun a => (f a).bnd g) h) m H Q) : WP K R (((x.bnd f).bnd g) h) m H Q := by
  rw [WP.bnd_bnd (K := K) (R := R)]
  exact w
/-- what is to be shown of a term -/
structure QE (B : TB) (F : Nat → List MV → M MV) (W : Nat) (N : List Str) (t : E) : Prop where
  e : ∀ {sc : Scope} {fb : Str → Bool} {X : Cx} {e : Expr}, GX B F N sc fb X → chkE B N t sc fb e = true → PE X e (tE X.K (evE F W t))
  t : ∀ {sc : Scope} {fb : Str → Bool} {X : Cx} {e : Expr}, GX B F N sc fb X → chkT B N t sc fb e = true → PT X e (tT X.K (evT F W t))
def QEL (B : TB) (F : Nat → List MV → M MV) (W : Nat) (N : List Str) : EL → Prop
  | .nil => True
  | .cons a r => QE B F W N a ∧ QEL B F W N r
def QEO (B : TB) (F : Nat → List MV → M MV) (W : Nat) (N : List Str) : EO → Prop
  | .no => True
  | .so a => QE B F W N a
def QTg (B : TB) (F : Nat → List MV → M MV) (W : Nat) (N : List Str) (t : Tg) : Prop := ∀ {ok : Nat → Bool} {c : L2.St → L2.St → Prop} {sc : Scope} {fb : Str → Bool} {X : Cx} {e : Expr}, CRel c → (∀ i, ok i = true → ∀ σ v, c σ (σ.set i v)) → GX B F N sc fb X → chkTg B N t ok sc fb e = true → PG X e (tGq X.K c (asgT F W t))
def QTgL (B : TB) (F : Nat → List MV → M MV) (W : Nat) (N : List Str) (t : TgL) : Prop := ∀ {ok : Nat → Bool} {c : L2.St → L2.St → Prop} {sc : Scope} {fb : Str → Bool} {X : Cx} {l : List Expr}, CRel c → (∀ i, ok i = true → ∀ σ v, c σ (σ.set i v)) → GX B F N sc fb X → chkTgL B N t ok sc fb l = true → PGs X l (tGqs X.K c (asgL F W t))
def QIr (B : TB) (F : Nat → List MV → M MV) (W : Nat) (N : List Str) (t : Ir) : Prop := ∀ {sc : Scope} {fb : Str → Bool} {X : Cx} {tg e : Expr}, GX B F N sc fb X → chkIt B N t sc fb e = true → PI X tg e (tI X.K (evIt F W t))

theorem okEL : ∀ (t : EL) (q : QEL B F W N t) {sc : Scope} {fb : Str → Bool} {X : Cx} {l : List Expr}, GX B F N sc fb X → chkEL B N t sc fb l = true → PA X l (tA X.K (evEL F W t))
  | .nil, q, sc, fb, X, l, G, h => by
    cases l with
    | nil => exact l_nil
    | cons _ _ => cases h
  | .cons a r, q, sc, fb, X, l, G, h => by
    cases l with
    | nil => cases h
    | cons v t =>
      obtain ⟨h, h3⟩ := bt (show (noStar v && chkE B N a sc fb v && chkEL B N r sc fb t) = true from h)
      obtain ⟨h1, h2⟩ := bt h
      exact l_cons h1 (q.1.e G h2) (okEL r q.2 G h3)
theorem okK : ∀ (t : EL) (q : QEL B F W N t) {sc : Scope} {fb : Str → Bool} {X : Cx} {l : List Keyword}, GX B F N sc fb X → chkEL B N t sc fb (l.map (·.value)) = true → PK X l (tA X.K (evEL F W t))
  | .nil, q, sc, fb, X, l, G, h => by
    cases l with
    | nil => exact l_knil
    | cons _ _ => cases h
  | .cons a r, q, sc, fb, X, l, G, h => by
    cases l with
    | nil => cases h
    | cons k t =>
      obtain ⟨nm, v, ps⟩ := k
      obtain ⟨h, h3⟩ := bt (show (noStar v && chkE B N a sc fb v && chkEL B N r sc fb (t.map (·.value))) = true from h)
      obtain ⟨h1, h2⟩ := bt h
      exact l_kcons (q.1.e G h2) (okK r q.2 G h3)
theorem okB (d : Bool) : ∀ (t : EL) (q : QEL B F W N t) {sc : Scope} {fb : Str → Bool} {X : Cx} {l : List Expr} {pos : Pos}, GX B F N sc fb X → chkB B N t sc fb l = true → PE X (.BoolOp (aB d) l pos) (tE X.K (evB F W d t))
  | .nil, q, sc, fb, X, l, pos, G, h => by cases h
  | .cons a .nil, q, sc, fb, X, l, pos, G, h => by
    cases l with
    | nil => cases h
    | cons v t =>
      cases t with
      | nil => exact l_b1 d (q.1.e G h)
      | cons _ _ => cases h
  | .cons a (.cons b r), q, sc, fb, X, l, pos, G, h => by
    cases l with
    | nil => cases h
    | cons v t =>
      cases t with
      | nil => cases h
      | cons w t =>
        obtain ⟨h1, h2⟩ := bt (show (chkE B N a sc fb v && chkB B N (.cons b r) sc fb (w :: t)) = true from h)
        exact l_b2 d (q.1.e G h1) (okB d (.cons b r) q.2 G h2)
theorem okBT (d : Bool) : ∀ (t : EL) (q : QEL B F W N t) {sc : Scope} {fb : Str → Bool} {X : Cx} {l : List Expr} {pos : Pos}, GX B F N sc fb X → chkBT B N t sc fb l = true → PW X (.BoolOp (aB d) l pos) (tT X.K (evBT F W d t))
  | .nil, q, sc, fb, X, l, pos, G, h => by cases h
  | .cons a .nil, q, sc, fb, X, l, pos, G, h => by
    cases l with
    | nil => cases h
    | cons v t =>
      cases t with
      | nil => exact lw_1 d (q.1.t G h)
      | cons _ _ => cases h
  | .cons a (.cons b r), q, sc, fb, X, l, pos, G, h => by
    cases l with
    | nil => cases h
    | cons v t =>
      cases t with
      | nil => cases h
      | cons w t =>
        obtain ⟨h1, h2⟩ := bt (show (chkT B N a sc fb v && chkBT B N (.cons b r) sc fb (w :: t)) = true from h)
        exact lw_2 d (q.1.t G h1) (okBT d (.cons b r) q.2 G h2)
theorem okO (t : EO) (q : QEO B F W N t) {sc : Scope} {fb : Str → Bool} {X : Cx} {l : Option Expr} (G : GX B F N sc fb X) (h : chkO B N t sc fb l = true) : PO X l (tO X.K (evO F W t)) := by
  cases t with
  | no =>
    cases l with
    | none => exact lo_no
    | some _ => cases h
  | so a =>
    cases l with
    | none => cases h
    | some _ => exact lo_so (QE.e q G h)
theorem okC (t : EO) (q : QEO B F W N t) {sc : Scope} {fb : Str → Bool} {X : Cx} {l : List Expr} (G : GX B F N sc fb X) (h : chkC B N t sc fb l = true) : PTs X l (tT X.K (evC F W t)) := by
  cases t with
  | no =>
    cases l with
    | nil => exact lts_nil
    | cons _ _ => cases h
  | so a =>
    cases l with
    | nil => cases h
    | cons v t =>
      cases t with
      | nil => exact lts_one (QE.t q G h)
      | cons _ _ => cases h
theorem okCall (f : Nat) (es : EL) (q : QEL B F W N es) {sc : Scope} {fb : Str → Bool} {X : Cx} {x : Str} {l : List Expr} {p pos : Pos} (G : GX B F N sc fb X) (h1 : fnB B sc f x = true) (h2 : chkEL B N es sc fb l = true) : PE X (.Call (.Name x p) l [] pos) (tE X.K fun ρ => (evEL F W es ρ).bnd fun xs => F f xs) := by
  obtain ⟨hg, hd, a, hm, hk, hc, _⟩ := G.fn h1
  have hl := okEL es q G h2
  have ll := chkEL_len h2
  cases l with
  | nil =>
    cases es with
    | nil => exact l_call0 hg hd hm hk hc
    | cons _ _ => cases ll.1
  | cons v t =>
    obtain ⟨s1, s2⟩ := bt (show (noStar v && t.all noStar) = true from ll.2)
    exact l_call s1 s2 hg hd hm hk hc hl
theorem okBi (b : Bi) (es : EL) (q : QEL B F W N es) {sc : Scope} {fb : Str → Bool} {X : Cx} {x : Str} {v : Expr} {l : List Expr} {p pos : Pos} (G : GX B F N sc fb X) (h1 : bltB B sc x (biN b) = true) (h2 : chkEL B N es sc fb (v :: l) = true) : PE X (.Call (.Name x p) (v :: l) [] pos) (tE X.K fun ρ => (evEL F W es ρ).bnd (biV b)) := by
  obtain ⟨e1, g1, m1⟩ := G.bl h1
  have hl := okEL es q G h2
  have ll := chkEL_len h2
  obtain ⟨s1, s2⟩ := bt (show (noStar v && l.all noStar) = true from ll.2)
  rw [e1]
  exact l_bi b G.gd G.sm G.hu G.calm s1 s2 g1 m1 hl

theorem qe_var (i : Nat) : QE B F W N (.var i) := by
  refine ⟨fun {sc fb X e} G h => ?_, fun {sc fb X e} G h => ?_⟩
  · unfold chkE at h
    split at h
    · exact G.var h
    · cases h
  · unfold chkT at h
    split at h
    · exact lt_val rfl (G.var h)
    · cases h
theorem qe_lit (v : MV) : QE B F W N (.lit v) := by
  refine ⟨fun {sc fb X e} G h => ?_, fun {sc fb X e} G h => ?_⟩
  · unfold chkE at h
    split at h
    · exact l_lit (lit_eq h)
    · cases h
  · cases h
theorem qe_glo (x : Str) (v : MV) : QE B F W N (.glo x v) := by
  refine ⟨fun {sc fb X e} G h => ?_, fun {sc fb X e} G h => ?_⟩
  · unfold chkE at h
    split at h
    · obtain ⟨h, h3⟩ := bt h
      obtain ⟨h1, h2⟩ := bt h
      have ex := of_decide_eq_true h1
      subst ex
      obtain ⟨p, hp, h4⟩ := List.any_eq_true.mp h3
      obtain ⟨h5, h6⟩ := bt h4
      have c := G.con p hp
      rw [of_decide_eq_true h5, mv_eq h6] at c
      exact l_glo (G.glo h2).1 (G.glo h2).2 c
    · cases h
  · cases h
theorem qe_tup (es : EL) (qes : QEL B F W N es) : QE B F W N (.tup es) := by
  refine ⟨fun {sc fb X e} G h => ?_, fun {sc fb X e} G h => ?_⟩
  · unfold chkE at h
    split at h
    · exact l_tup (okEL es qes G h)
    · cases h
  · cases h
theorem qe_lst (es : EL) (qes : QEL B F W N es) : QE B F W N (.lst es) := by
  refine ⟨fun {sc fb X e} G h => ?_, fun {sc fb X e} G h => ?_⟩
  · unfold chkE at h
    split at h
    · exact l_lst (okEL es qes G h)
    · cases h
  · cases h
theorem qe_bin (o : Bop) (a b : E) (qa : QE B F W N a) (qb : QE B F W N b) : QE B F W N (.bin o a b) := by
  refine ⟨fun {sc fb X e} G h => ?_, fun {sc fb X e} G h => ?_⟩
  · unfold chkE at h
    split at h
    · obtain ⟨h, h3⟩ := bt h
      obtain ⟨h1, h2⟩ := bt h
      rw [op_eq h1]
      exact l_bin o (qa.e G h2) (qb.e G h3)
    · cases h
  · cases h
theorem qe_neg (a : E) (qa : QE B F W N a) : QE B F W N (.neg a) := by
  refine ⟨fun {sc fb X e} G h => ?_, fun {sc fb X e} G h => ?_⟩
  · unfold chkE at h
    split at h
    · exact l_neg (qa.e G h)
    · cases h
  · cases h
theorem qe_cmp (o : Cop) (a b : E) (qa : QE B F W N a) (qb : QE B F W N b) : QE B F W N (.cmp o a b) := by
  refine ⟨fun {sc fb X e} G h => ?_, fun {sc fb X e} G h => ?_⟩
  · unfold chkE at h
    split at h
    · obtain ⟨h, h4⟩ := bt h
      obtain ⟨h, h3⟩ := bt h
      obtain ⟨h1, h2⟩ := bt h
      rw [cop_eq h1]
      exact l_cmp G.sm G.hu o h2 (qa.e G h3) (qb.e G h4)
    · cases h
  · unfold chkT at h
    split at h
    · obtain ⟨h, h4⟩ := bt h
      obtain ⟨h, h3⟩ := bt h
      obtain ⟨h1, h2⟩ := bt h
      rw [cop_eq h1]
      exact lt_cmp G.sm G.hu o h2 (qa.e G h3) (qb.e G h4)
    · cases h
theorem qe_chain (o p : Cop) (a b c : E) (qa : QE B F W N a) (qb : QE B F W N b) (qc : QE B F W N c) : QE B F W N (.chain o p a b c) := by
  refine ⟨fun {sc fb X e} G h => ?_, fun {sc fb X e} G h => ?_⟩
  · unfold chkE at h
    split at h
    · obtain ⟨h, h6⟩ := bt h
      obtain ⟨h, h5⟩ := bt h
      obtain ⟨h, h4⟩ := bt h
      obtain ⟨h, h3⟩ := bt h
      obtain ⟨h1, h2⟩ := bt h
      rw [cop_eq h1, cop_eq h2]
      exact l_chain G.sm G.hu o p h3 (qa.e G h4) (qb.e G h5) (qc.e G h6)
    · cases h
  · unfold chkT at h
    split at h
    · obtain ⟨h, h6⟩ := bt h
      obtain ⟨h, h5⟩ := bt h
      obtain ⟨h, h4⟩ := bt h
      obtain ⟨h, h3⟩ := bt h
      obtain ⟨h1, h2⟩ := bt h
      rw [cop_eq h1, cop_eq h2]
      exact lt_chain G.sm G.hu o p h3 (qa.e G h4) (qb.e G h5) (qc.e G h6)
    · cases h
theorem qe_isK (ng : Bool) (a : E) (v : MV) (qa : QE B F W N a) : QE B F W N (.isK ng a v) := by
  refine ⟨fun {sc fb X e} G h => ?_, fun {sc fb X e} G h => ?_⟩
  · unfold chkE at h
    split at h
    · obtain ⟨h, h3⟩ := bt h
      obtain ⟨h1, h2⟩ := bt h
      rw [is_eq h1]
      exact l_isK ng (k_eq h2) (qa.e G h3)
    · cases h
  · unfold chkT at h
    split at h
    · obtain ⟨h, h3⟩ := bt h
      obtain ⟨h1, h2⟩ := bt h
      rw [is_eq h1]
      exact lt_isK ng (k_eq h2) (qa.e G h3)
    · cases h
theorem qe_bop (d : Bool) (es : EL) (qes : QEL B F W N es) : QE B F W N (.bop d es) := by
  refine ⟨fun {sc fb X e} G h => ?_, fun {sc fb X e} G h => ?_⟩
  · unfold chkE at h
    split at h
    · obtain ⟨h1, h2⟩ := bt h
      rw [bo_eq h1]
      exact okB d es qes G h2
    · cases h
  · unfold chkT at h
    split at h
    · obtain ⟨h1, h2⟩ := bt h
      rw [bo_eq h1]
      exact (okBT d es qes G h2).pt
    · cases h
theorem qe_not (a : E) (qa : QE B F W N a) : QE B F W N (.not a) := by
  refine ⟨fun {sc fb X e} G h => ?_, fun {sc fb X e} G h => ?_⟩
  · unfold chkE at h
    split at h
    · exact l_not (qa.e G h)
    · cases h
  · unfold chkT at h
    split at h
    · exact lt_not (qa.t G h)
    · cases h
theorem qe_ife (t a b : E) (qt : QE B F W N t) (qa : QE B F W N a) (qb : QE B F W N b) : QE B F W N (.ife t a b) := by
  refine ⟨fun {sc fb X e} G h => ?_, fun {sc fb X e} G h => ?_⟩
  · unfold chkE at h
    split at h
    · obtain ⟨h, h3⟩ := bt h
      obtain ⟨h1, h2⟩ := bt h
      exact l_ife (qt.t G h1) (qa.e G h2) (qb.e G h3)
    · cases h
  · cases h
theorem qe_call (f : Nat) (es : EL) (qes : QEL B F W N es) : QE B F W N (.call f es) := by
  refine ⟨fun {sc fb X e} G h => ?_, fun {sc fb X e} G h => ?_⟩
  · unfold chkE at h
    split at h
    · obtain ⟨h1, h2⟩ := bt h
      exact okCall f es qes G h1 h2
    · cases h
  · unfold chkT at h
    split at h
    · obtain ⟨h1, h2⟩ := bt h
      exact pt_imp (lt_val rfl (okCall f es qes G h1 h2)) fun σ H Q ⟨m, h, ρ, S, en, w⟩ => ⟨m, h, ρ, S, en, wp_assoc (f := fun xs => F f xs) w⟩
    · cases h
theorem qe_callk (f : Nat) (es kes : EL) (arr : List Nat) (qes : QEL B F W N es) (qkes : QEL B F W N kes) : QE B F W N (.callk f es kes arr) := by
  refine ⟨fun {sc fb X e} G h => ?_, fun {sc fb X e} G h => ?_⟩
  · unfold chkE at h
    split at h
    · rename_i x p l kws pos
      obtain ⟨h, h5⟩ := bt h
      obtain ⟨h, h4⟩ := bt h
      obtain ⟨h, h3⟩ := bt h
      obtain ⟨h1, h2⟩ := bt h
      obtain ⟨hg, hd, a, hm, hk, hc, hck⟩ := G.fn h1
      have hck := hck _ _ _ (List.contains_iff_mem.mp h2)
      have hl := okEL es qes G h4
      have hkk := okK kes qkes G h5
      have ll := chkEL_len h4
      have lk := chkEL_len h5
      have hlk : ∀ (ρ : Env) (h : MH) (ys : List MV) (h' : MH), evEL F W kes ρ h = .ok ys h' → ys.length = (kws.filterMap (·.arg)).length := fun ρ h ys h' e => by
        rw [evEL_len e, ← lk.1, List.length_map]
        exact kwOk_len h3
      cases l with
      | nil =>
        cases es with
        | nil => exact l_callk0 (n := 0) h3 hlk hg hd hm hk hck hkk
        | cons _ _ => cases ll.1
      | cons v t =>
        obtain ⟨s1, s2⟩ := bt (show (noStar v && t.all noStar) = true from ll.2)
        exact l_callk s1 s2 h3 (fun ρ h ys h' e => by rw [evEL_len e, ← ll.1]) hlk hg hd hm hk hck hl hkk
    · cases h
  · cases h
theorem qe_bi (b : Bi) (es : EL) (qes : QEL B F W N es) : QE B F W N (.bi b es) := by
  refine ⟨fun {sc fb X e} G h => ?_, fun {sc fb X e} G h => ?_⟩
  · unfold chkE at h
    split at h
    · obtain ⟨h1, h2⟩ := bt h
      exact okBi b es qes G h1 h2
    · cases h
  · unfold chkT at h
    split at h
    · obtain ⟨h1, h2⟩ := bt h
      exact pt_imp (lt_val rfl (okBi b es qes G h1 h2)) fun σ H Q ⟨m, h, ρ, S, en, w⟩ => ⟨m, h, ρ, S, en, wp_assoc (f := biV b) w⟩
    · cases h
theorem qe_isi (a : E) (ts : List Ty) (qa : QE B F W N a) : QE B F W N (.isi a ts) := by
  refine ⟨fun {sc fb X e} G h => ?_, fun {sc fb X e} G h => ?_⟩
  · unfold chkE at h
    split at h
    · split at h
      · obtain ⟨h, h4⟩ := bt h
        obtain ⟨h, h3⟩ := bt h
        obtain ⟨h1, h2⟩ := bt h
        obtain ⟨e1, g1, m1⟩ := G.bl h1
        obtain ⟨e2, g2, m2⟩ := G.bl h2
        rw [e1, e2]
        exact l_isi1 h3 g1 m1 g2 m2 (qa.e G h4)
      · cases h
    · split at h
      · obtain ⟨h, h5⟩ := bt h
        obtain ⟨h, h4⟩ := bt h
        obtain ⟨h, h3⟩ := bt h
        obtain ⟨h1, h2⟩ := bt h
        obtain ⟨e1, g1, m1⟩ := G.bl h1
        obtain ⟨e2, g2, m2⟩ := G.bl h2
        obtain ⟨e3, g3, m3⟩ := G.bl h3
        rw [e1, e2, e3]
        exact l_isi2 h4 g1 m1 g2 m2 g3 m3 (qa.e G h5)
      · cases h
    · cases h
  · unfold chkT at h
    split at h
    · split at h
      · obtain ⟨h, h4⟩ := bt h
        obtain ⟨h, h3⟩ := bt h
        obtain ⟨h1, h2⟩ := bt h
        obtain ⟨e1, g1, m1⟩ := G.bl h1
        obtain ⟨e2, g2, m2⟩ := G.bl h2
        rw [e1, e2]
        exact lt_bl2 rfl (l_isi1 h3 g1 m1 g2 m2 (qa.e G h4))
      · cases h
    · split at h
      · obtain ⟨h, h5⟩ := bt h
        obtain ⟨h, h4⟩ := bt h
        obtain ⟨h, h3⟩ := bt h
        obtain ⟨h1, h2⟩ := bt h
        obtain ⟨e1, g1, m1⟩ := G.bl h1
        obtain ⟨e2, g2, m2⟩ := G.bl h2
        obtain ⟨e3, g3, m3⟩ := G.bl h3
        rw [e1, e2, e3]
        exact lt_bl2 rfl (l_isi2 h4 g1 m1 g2 m2 g3 m3 (qa.e G h5))
      · cases h
    · cases h
theorem qe_mth (n : Mt) (o : E) (es : EL) (qo : QE B F W N o) (qes : QEL B F W N es) : QE B F W N (.mth n o es) := by
  refine ⟨fun {sc fb X e} G h => ?_, fun {sc fb X e} G h => ?_⟩
  · unfold chkE at h
    split at h
    · rename_i v n' p l q
      obtain ⟨h, h6⟩ := bt h
      obtain ⟨h, h5⟩ := bt h
      obtain ⟨h, h4⟩ := bt h
      obtain ⟨h, h3⟩ := bt h
      obtain ⟨h1, h2⟩ := bt h
      have hl := okEL es qes G h6
      have ll := chkEL_len h6
      have ho := qo.e G h5
      rw [of_decide_eq_true h1]
      cases l with
      | nil =>
        cases es with
        | nil => exact l_mth0 n h2 h3 ho
        | cons _ _ => cases ll.1
      | cons v t =>
        obtain ⟨s1, s2⟩ := bt (show (noStar v && t.all noStar) = true from ll.2)
        exact l_mth n h2 s1 s2 h4 h3 ho hl
    · cases h
  · cases h
theorem qe_idx (a b : E) (qa : QE B F W N a) (qb : QE B F W N b) : QE B F W N (.idx a b) := by
  refine ⟨fun {sc fb X e} G h => ?_, fun {sc fb X e} G h => ?_⟩
  · unfold chkE at h
    split at h
    · obtain ⟨h, h3⟩ := bt h
      obtain ⟨h1, h2⟩ := bt h
      exact l_idx h1 (qa.e G h2) (qb.e G h3)
    · cases h
  · unfold chkT at h
    split at h
    · obtain ⟨h, h3⟩ := bt h
      obtain ⟨h1, h2⟩ := bt h
      exact pt_imp (lt_val rfl (l_idx h1 (qa.e G h2) (qb.e G h3))) fun σ H Q ⟨m, h, ρ, S, en, w⟩ => ⟨m, h, ρ, S, en, by
        refine wp_assoc (f := fun x => (evE F W b ρ).bnd fun y => idxV x y) ?_
        have e : (fun x => ((evE F W b ρ).bnd fun y => idxV x y).bnd truV) = fun x => (evE F W b ρ).bnd fun y => (idxV x y).bnd truV := by
          funext x h
          exact WP.bnd_bnd (K := X.K) (R := rId) (x := evE F W b ρ) (f := fun y => idxV x y) (g := truV)
        rw [e]
        exact w⟩
    · cases h
theorem qe_slc (a : E) (lo hi : EO) (qa : QE B F W N a) (qlo : QEO B F W N lo) (qhi : QEO B F W N hi) : QE B F W N (.slc a lo hi) := by
  refine ⟨fun {sc fb X e} G h => ?_, fun {sc fb X e} G h => ?_⟩
  · unfold chkE at h
    split at h
    · obtain ⟨h, h3⟩ := bt h
      obtain ⟨h1, h2⟩ := bt h
      exact l_slc (qa.e G h1) (okO lo qlo G h2) (okO hi qhi G h3)
    · cases h
  · cases h
theorem qe_dct (es : EL) (qes : QEL B F W N es) : QE B F W N (.dct es) := by
  refine ⟨fun {sc fb X e} G h => ?_, fun {sc fb X e} G h => ?_⟩
  · unfold chkE at h
    split at h
    · exact l_dct0
    · obtain ⟨h1, h2⟩ := bt h
      have ex := of_decide_eq_true h1
      subst ex
      exact l_dct1 (qes.2.1.e G h2)
    · cases h
  · cases h
theorem qe_lc (a : E) (t : Tg) (it : Ir) (cs : EO) (own : List Nat) (qa : QE B F W N a) (qt : QTg B F W N t) (qit : QIr B F W N it) (qcs : QEO B F W N cs) : QE B F W N (.lc a t it cs own) := by
  refine ⟨fun {sc fb X e} G h => ?_, fun {sc fb X e} G h => ?_⟩
  · unfold chkE at h
    split at h
    · rename_i v tg iter ifs scope pos
      obtain ⟨h, h6⟩ := bt h
      obtain ⟨h, h5⟩ := bt h
      obtain ⟨h, h4⟩ := bt h
      obtain ⟨h, h3⟩ := bt h
      obtain ⟨h1, h2⟩ := bt h
      have r := l_lc (X := X) (W := W) (pos := pos) G.calm G.nd h2 (qit G h3) (own := ownN N own) (blkOk_by (by rw [G.hN, G.hsc]; exact h1))
        (fun s H C cl fp => by
          rw [own_map]
          exact qt (cr_wipe own) (fun i hi σ v => wipe_set σ (List.contains_iff_mem.mp hi) _) (G.blk _ s H C cl fp) h4)
        (fun s H C cl fp => okC cs qcs (G.blk _ s H C cl fp) h5) (fun s H C cl fp => qa.e (G.blk _ s H C cl fp) h6)
      rw [own_map] at r
      exact r
    · cases h
  · cases h
theorem qt_nm (i : Nat) : QTg B F W N (.nm i) := by
  intro ok c sc fb X e k hk G h
  unfold chkTg at h
  split at h
  · obtain ⟨h1, h2⟩ := bt h
    obtain ⟨s1, s2, s3⟩ := G.sto h2
    exact lg_nm G.nd s1 s2 s3 fun σ v => hk i h1 σ v
  · cases h
theorem qt_tp (ts : TgL) (q : QTgL B F W N ts) : QTg B F W N (.tp ts) := by
  intro ok c sc fb X e k hk G h
  unfold chkTg at h
  split at h
  · obtain ⟨h1, h2⟩ := bt h
    exact lg_tup G.calm h1 (fun xs ρ h ρ' h' e => by rw [asgL_len e, ← chkTgL_len h2]) (q k hk G h2)
  · cases h
theorem qt_sb (o i : E) (qo : QE B F W N o) (qi : QE B F W N i) : QTg B F W N (.sb o i) := by
  intro ok c sc fb X e k hk G h
  unfold chkTg at h
  split at h
  · obtain ⟨h, h3⟩ := bt h
    obtain ⟨h1, h2⟩ := bt h
    exact lg_sub k h1 (qo.e G h2) (qi.e G h3)
  · cases h
theorem qtl_nil : QTgL B F W N .nil := by
  intro ok c sc fb X l k hk G h
  cases l with
  | nil => exact lgs_nil k (fun _ => rfl) (fun _ _ _ _ => rfl)
  | cons _ _ => cases h
theorem qtl_cons (t : Tg) (r : TgL) (qt : QTg B F W N t) (qr : QTgL B F W N r) : QTgL B F W N (.cons t r) := by
  intro ok c sc fb X l k hk G h
  cases l with
  | nil => cases h
  | cons v l =>
    obtain ⟨h, h3⟩ := bt (show (noStar v && chkTg B N t ok sc fb v && chkTgL B N r ok sc fb l) = true from h)
    obtain ⟨h1, h2⟩ := bt h
    exact lgs_cons k h1 (fun _ _ => rfl) (fun _ _ _ => rfl) (qt k hk G h2) (qr k hk G h3)
theorem qi_vl (a : E) (qa : QE B F W N a) : QIr B F W N (.vl a) := fun {sc fb X tg e} G h => li_vl (qa.e G h)
theorem qi_rg1 (a : E) (qa : QE B F W N a) : QIr B F W N (.rg1 a) := by
  intro sc fb X tg e G h
  unfold chkIt at h
  split at h
  · obtain ⟨h, h3⟩ := bt h
    obtain ⟨h1, h2⟩ := bt h
    obtain ⟨e1, g1, m1⟩ := G.bl h1
    rw [e1]
    exact li_rg1 h2 g1 m1 (qa.e G h3)
  · cases h
theorem qi_rg2 (a b : E) (qa : QE B F W N a) (qb : QE B F W N b) : QIr B F W N (.rg2 a b) := by
  intro sc fb X tg e G h
  unfold chkIt at h
  split at h
  · obtain ⟨h, h5⟩ := bt h
    obtain ⟨h, h4⟩ := bt h
    obtain ⟨h, h3⟩ := bt h
    obtain ⟨h1, h2⟩ := bt h
    obtain ⟨e1, g1, m1⟩ := G.bl h1
    rw [e1]
    exact li_rg2 h2 h3 g1 m1 (qa.e G h4) (qb.e G h5)
  · cases h
/-- every term -/
theorem q_all : ∀ t : E, QE B F W N t :=
  E.rec (motive_1 := QE B F W N) (motive_2 := QEL B F W N) (motive_3 := QEO B F W N) (motive_4 := QTg B F W N) (motive_5 := QTgL B F W N) (motive_6 := QIr B F W N)
    qe_var qe_lit qe_glo qe_tup qe_lst qe_dct qe_bin qe_neg qe_cmp qe_chain qe_isK qe_bop qe_not qe_ife qe_call qe_callk qe_bi qe_isi qe_mth qe_idx qe_slc qe_lc
    trivial (fun a r qa qr => ⟨qa, qr⟩) trivial (fun a qa => qa) qt_nm qt_tp qt_sb qtl_nil qtl_cons qi_vl qi_rg1 qi_rg2
theorem q_tg : ∀ t : Tg, QTg B F W N t :=
  Tg.rec (motive_1 := QE B F W N) (motive_2 := QEL B F W N) (motive_3 := QEO B F W N) (motive_4 := QTg B F W N) (motive_5 := QTgL B F W N) (motive_6 := QIr B F W N)
    qe_var qe_lit qe_glo qe_tup qe_lst qe_dct qe_bin qe_neg qe_cmp qe_chain qe_isK qe_bop qe_not qe_ife qe_call qe_callk qe_bi qe_isi qe_mth qe_idx qe_slc qe_lc
    trivial (fun a r qa qr => ⟨qa, qr⟩) trivial (fun a qa => qa) qt_nm qt_tp qt_sb qtl_nil qtl_cons qi_vl qi_rg1 qi_rg2
theorem q_ir : ∀ t : Ir, QIr B F W N t :=
  Ir.rec (motive_1 := QE B F W N) (motive_2 := QEL B F W N) (motive_3 := QEO B F W N) (motive_4 := QTg B F W N) (motive_5 := QTgL B F W N) (motive_6 := QIr B F W N)
    qe_var qe_lit qe_glo qe_tup qe_lst qe_dct qe_bin qe_neg qe_cmp qe_chain qe_isK qe_bop qe_not qe_ife qe_call qe_callk qe_bi qe_isi qe_mth qe_idx qe_slc qe_lc
    trivial (fun a r qa qr => ⟨qa, qr⟩) trivial (fun a qa => qa) qt_nm qt_tp qt_sb qtl_nil qtl_cons qi_vl qi_rg1 qi_rg2
end
end MP
/-! MP: statements that pass the test. -/
namespace MP
open PySem PySem.Spec PyProof.Rows L2
section
variable {B : TB} {F : Nat → List MV → M MV} {W : Nat} {N : List Str}
theorem swaps_lc {e : Expr} {gs : List Comprehension} {scope : Scope} {lp q : Pos} {x : Str} {l : Nat} {env : PySem.Env} : swapsWith (.ListComp e gs scope lp) (some (.Name x q)) l env = pure (env.blockKind == .function && env.kindOf x == some .local && q.line == lp.line && !(scope.names.any fun (n, k) => n == x && (k == .local || k == .cell))) := rfl
theorem swaps_cell {e : Expr} {gs : List Comprehension} {scope : Scope} {lp q : Pos} {x : Str} {l : Nat} {env : PySem.Env} (h : env.scope.names.lookup x = some .cell) : swapsWith (.ListComp e gs scope lp) (some (.Name x q)) l env = pure false := by
  rw [swaps_lc]
  have e : (env.kindOf x == some .local) = false := by
    show (env.scope.names.lookup x == some .local) = false
    rw [h]
    rfl
  rw [e, Bool.and_false]
  rfl
theorem par_ok {x y : Str} {px py pt p2 : Pos} {kt k2 : Nat} {a b : Expr} {env : PySem.Env} (hk : env.scope.kind = .function) (h : parB env.scope x y px py a b = true) : swappedStores [.Tuple [.Name x px, .Name y py] kt pt] (.Tuple [a, b] k2 p2) env = pure (some [x, y]) := by
  unfold parB at h
  obtain ⟨h, h8⟩ := bt h
  obtain ⟨h, h7⟩ := bt h
  obtain ⟨h, h6⟩ := bt h
  obtain ⟨h, h5⟩ := bt h
  obtain ⟨h, h4⟩ := bt h
  obtain ⟨h, h3⟩ := bt h
  obtain ⟨h1, h2⟩ := bt h
  have kx : (env.kindOf x == some .local) = true := by
    show (env.scope.names.lookup x == some .local) = true
    rw [loc_of h1]; rfl
  have ky : (env.kindOf y == some .local) = true := by
    show (env.scope.names.lookup y == some .local) = true
    rw [loc_of h2]; rfl
  have hb : env.blockKind = .function := by unfold Env.blockKind; rw [hk]; rfl
  have hne : x ≠ y := of_decide_eq_true h4
  have hd : ([x, y] : List Str).eraseDups.length = 2 := by
    have : (y == x) = false := by rw [beq_eq_false_iff_ne]; exact fun e => hne e.symm
    simp [List.eraseDups_cons, this]
  have f5 : ([a, b].all (foldedForSure 8)) = false := by
    simp only [List.all_cons, List.all_nil, Bool.and_true]
    exact notB h5
  have f6 : ([a, b].all (constantsAlone 8)) = false := by
    simp only [List.all_cons, List.all_nil, Bool.and_true]
    exact notB h6
  unfold swappedStores
  have kx2 : env.kindOf x = some .local := eq_of_beq kx
  have ky2 : env.kindOf y = some .local := eq_of_beq ky
  have l2 : py.line = px.line := eq_of_beq h3
  simp only [hb, List.length_cons, List.length_nil, List.any_cons, List.any_nil, f5, f6]
  simp [Expr.pos]
  rw [if_neg (by
    rintro (z | z)
    · cases a <;> first | exact Bool.noConfusion (show false = true from z) | exact Bool.noConfusion (show false = true from h7)
    · cases b <;> first | exact Bool.noConfusion (show false = true from z) | exact Bool.noConfusion (show false = true from h8))]
  simp [kx2, ky2, l2, hd]
def tt : Str → Bool := fun _ => true
/-- a def's body's context -/
structure GS (B : TB) (F : Nat → List MV → M MV) (N : List Str) (sc : Scope) (X : Cx) : Prop where
  g : GX B F N sc (fun _ => true) X
  kind : sc.kind = .function
  own : PassesOwn (model X.prog X.w) X.A X.env X.xe
def QS (B : TB) (F : Nat → List MV → M MV) (W : Nat) (N : List Str) (t : S) : Prop := ∀ {sc : Scope} {X : Cx} {s : Stmt}, GS B F N sc X → chkS B N sc t s = true → PS X s (tSt X.K (evS F W t))
def QSL (B : TB) (F : Nat → List MV → M MV) (W : Nat) (N : List Str) (t : SL) : Prop := ∀ {sc : Scope} {X : Cx} {s : List Stmt}, GS B F N sc X → chkSL B N sc t s = true → PSs X s (tSt X.K (evSL F W t))
theorem tgA {t : Tg} {X : Cx} {sc : Scope} {e : Expr} (G : GX B F N sc (fun _ => true) X) (h : chkTg B N t (fun _ => true) sc (fun _ => true) e = true) : PG X e (tG X.K (asgT F W t)) :=
  lg_all (q_tg t cr_all (fun _ _ _ _ => trivial) G h)
theorem asg_name {t : Tg} {e : E} {sc : Scope} {X : Cx} {tg v : Expr} {p : Pos} (G : GS B F N sc X) (h : (noComp v && noStar tg && (notTup tg || notTup v) && chkE B N e sc (fun _ => true) v && chkTg B N t (fun _ => true) sc (fun _ => true) tg) = true) : PS X (.Assign [tg] v p) (tSt X.K (evS F W (.asg t e))) := by
  obtain ⟨h, h5⟩ := bt h
  obtain ⟨h, h4⟩ := bt h
  obtain ⟨h, h3⟩ := bt h
  obtain ⟨h1, h2⟩ := bt h
  exact s_asg h1 h2 (Bool.or_eq_true_iff.mp h3) ((q_all e).e G.g h4) (tgA G.g h5)
theorem asg_nm {i : Nat} {e : E} {sc : Scope} {X : Cx} {x : Str} {v : Expr} {p q : Pos} (G : GS B F N sc X) (h : stoB N sc (fun _ => true) i x = true) (he : chkE B N e sc (fun _ => true) v = true) (hs : swapsWith v (some (.Name x q)) p.line X.env = pure false) : PS X (.Assign [.Name x q] v p) (tSt X.K (evS F W (.asg (.nm i) e))) := by
  obtain ⟨s1, s2, s3⟩ := G.g.sto h
  exact s_set G.g.nd s1 s2 s3 hs ((q_all e).e G.g he)
theorem q_eo (cs : EO) : QEO B F W N cs := by
  cases cs with
  | no => trivial
  | so a => exact q_all a
theorem asg_lc {i : Nat} {e : E} {sc scope : Scope} {X : Cx} {x : Str} {v : Expr} {gs : List Comprehension} {p q lp : Pos} (G : GS B F N sc X) (h : stoB N sc (fun _ => true) i x = true) (he : chkE B N e sc (fun _ => true) (.ListComp v gs scope lp) = true) (hs : swpB sc scope x q lp = true) : PS X (.Assign [.Name x q] (.ListComp v gs scope lp) p) (tSt X.K (evS F W (.asg (.nm i) e))) := by
  unfold swpB at hs
  obtain ⟨hs, k3⟩ := bt hs
  obtain ⟨k1, k2⟩ := bt hs
  obtain ⟨s1, s2, s3⟩ := G.g.sto h
  have hl : X.env.scope.names.lookup x = some .local := by rw [G.g.hsc]; exact loc_of k1
  have hsw : swapsWith (.ListComp v gs scope lp) (some (.Name x q)) p.line X.env = pure true := sw_true (by rw [G.g.hsc]; exact G.kind) hl k2 (notB k3)
  cases e with
  | lc a t it cs own =>
    unfold chkE at he
    split at he
    · rename_i v tg iter ifs scope pos e2
      cases e2
      obtain ⟨h, h6⟩ := bt he
      obtain ⟨h, h5⟩ := bt h
      obtain ⟨h, h4⟩ := bt h
      obtain ⟨h, h3⟩ := bt h
      obtain ⟨h1, h2⟩ := bt h
      have r := s_setLc (X := X) (W := W) (pos := lp) (spos := p) (py := q) G.g.calm G.g.nd s1 hl hsw h2 (q_ir (F := F) (W := W) it G.g h3) (own := ownN N own) (blkOk_by (by rw [G.g.hN, G.g.hsc]; exact h1))
        (fun s H C cl fp => by
          rw [own_map]
          exact q_tg (F := F) (W := W) t (cr_wipe own) (fun i hi σ v => wipe_set σ (List.contains_iff_mem.mp hi) _) (G.g.blk _ s H C cl fp) h4)
        (fun s H C cl fp => okC (F := F) (W := W) cs (q_eo cs) (G.g.blk _ s H C cl fp) h5) (fun s H C cl fp => (q_all (F := F) (W := W) a).e (G.g.blk _ s H C cl fp) h6)
      rw [own_map] at r
      exact r
    · cases he
  | dct es =>
    unfold chkE at he
    split at he
    · rename_i z; cases z
    · rename_i z; cases z
    · exact Bool.noConfusion he
  | _ => exact Bool.noConfusion (show false = true from he)
theorem qs_asg (t : Tg) (e : E) : QS B F W N (.asg t e) := by
  intro sc X s G h
  unfold chkS at h
  split at h
  · split at h
    · rename_i i x q
      obtain ⟨h, h3⟩ := bt h
      obtain ⟨h1, h2⟩ := bt h
      split at h3
      · rcases Bool.or_eq_true_iff.mp h3 with h3 | h3
        · exact asg_lc G h1 h2 h3
        · exact asg_nm G h1 h2 (swaps_cell (by rw [G.g.hsc]; exact cel_of h3))
      · exact asg_nm G h1 h2 (no_swaps h3)
    · exact asg_name G h
  · cases h
theorem qs_par (i j : Nat) (a b : E) : QS B F W N (.par i j a b) := by
  intro sc X s G h
  unfold chkS at h
  split at h
  · obtain ⟨h, h6⟩ := bt h
    obtain ⟨h, h5⟩ := bt h
    obtain ⟨h, h4⟩ := bt h
    obtain ⟨h, h3⟩ := bt h
    obtain ⟨h1, h2⟩ := bt h
    have h4' := h4
    have hp := fun {pt p2 : Pos} {kt k2 : Nat} => par_ok (pt := pt) (p2 := p2) (kt := kt) (k2 := k2) (env := X.env) (by rw [G.g.hsc]; exact G.kind) (by rw [G.g.hsc]; exact h4')
    unfold parB at h4
    obtain ⟨h, k8⟩ := bt h4
    obtain ⟨h, k7⟩ := bt h
    obtain ⟨h, k6⟩ := bt h
    obtain ⟨h, k5⟩ := bt h
    obtain ⟨h, k4⟩ := bt h
    obtain ⟨h, k3⟩ := bt h
    obtain ⟨k1, k2⟩ := bt h
    exact s_par G.g.calm G.g.nd (by rw [G.g.hN]; exact of_decide_eq_true h1) (by rw [G.g.hN]; exact of_decide_eq_true h2) (of_decide_eq_true h3) (by rw [G.g.hsc]; exact loc_of k1) (by rw [G.g.hsc]; exact loc_of k2) k7 k8 ((q_all a).e G.g h5) ((q_all b).e G.g h6) hp
  · cases h
theorem qs_ex (e : E) : QS B F W N (.ex e) := by
  intro sc X s G h
  unfold chkS at h
  split at h
  · obtain ⟨h1, h2⟩ := bt h
    exact s_ex h1 ((q_all e).e G.g h2)
  · cases h
theorem qs_ret (e : E) : QS B F W N (.ret e) := by
  intro sc X s G h
  unfold chkS at h
  split at h
  · exact s_ret ((q_all e).e G.g h)
  · cases h
theorem qs_retN : QS B F W N .retN := by
  intro sc X s G h
  unfold chkS at h
  split at h
  · exact s_retN
  · cases h
theorem qs_ifs (c : E) (a b : SL) (qa : QSL B F W N a) (qb : QSL B F W N b) : QS B F W N (.ifs c a b) := by
  intro sc X s G h
  unfold chkS at h
  split at h
  · obtain ⟨h, h3⟩ := bt h
    obtain ⟨h1, h2⟩ := bt h
    exact s_if ((q_all c).t G.g h1) (qa G h2) (qb G h3)
  · cases h
theorem qs_fors (t : Tg) (it : Ir) (b : SL) (qb : QSL B F W N b) : QS B F W N (.fors t it b) := by
  intro sc X s G h
  unfold chkS at h
  split at h
  · obtain ⟨h, h4⟩ := bt h
    obtain ⟨h, h3⟩ := bt h
    obtain ⟨h1, h2⟩ := bt h
    exact s_for G.own G.g.calm h1 (q_ir it G.g h2) (tgA G.g h3) (qb G h4)
  · cases h
theorem qs_whl (c : E) (b : SL) (qb : QSL B F W N b) : QS B F W N (.whl c b) := by
  intro sc X s G h
  unfold chkS at h
  split at h
  · obtain ⟨h1, h2⟩ := bt h
    exact s_whl G.own ((q_all c).t G.g h1) (qb G h2)
  · cases h
theorem qs_pas : QS B F W N .pas := by
  intro sc X s G h
  unfold chkS at h
  split at h
  · exact s_pas
  · exact s_doc
  · cases h
theorem qsl_nil : QSL B F W N .nil := by
  intro sc X s G h
  cases s with
  | nil => exact ss_nil
  | cons _ _ => cases h
theorem qsl_cons (s : S) (r : SL) (qs : QS B F W N s) (qr : QSL B F W N r) : QSL B F W N (.cons s r) := by
  intro sc X l G h
  cases l with
  | nil => cases h
  | cons v t =>
    obtain ⟨h1, h2⟩ := bt (show (chkS B N sc s v && chkSL B N sc r t) = true from h)
    exact ss_cons (qs G h1) (qr G h2)
theorem qsl_all : ∀ t : SL, QSL B F W N t :=
  SL.rec (motive_1 := QS B F W N) (motive_2 := QSL B F W N) qs_asg qs_par qs_ex qs_ret qs_retN (fun c a b qa qb => qs_ifs c a b qa qb) (fun t it b qb => qs_fors t it b qb) (fun c b qb => qs_whl c b qb) qs_pas qsl_nil (fun s r qs qr => qsl_cons s r qs qr)
end
end MP
/-! MP: defs. -/
namespace MP
open PySem PySem.Spec PyProof.Rows L2
/-- a def's promise: it runs as g says, where the guards are none -/
def FnG (P : Program) (w : World) (K : PySem.W.Frag) (mg : Str → Option Value) (base : Heap) (k : Nat) (f : Addr) (fd : FuncData) (ps : List Str) (g : List MV → M MV) : Prop :=
  ∀ (A : Around) (outer : List PySem.Env) (s : Shared) (H : Hp) (args : Args) (us : List Value) (vs : List V) (Q : VK), Room k A → A.guards = some [] → Env0 P w K mg base A outer s H → BindsTo s fd args (ps.zip us) → Vals vs us → rF K g vs H Q →
    codeAny (model P w) A (.call (.ref f) args) (CR CX0 outer P w H s Q E0) s
/-- a def with its slots' names -/
structure FD2 where
  d : FD
  N : List Str
def scopeB (N ps : List Str) (sc : Scope) : Bool := (match sc.kind with | .function => true | _ => false) && !sc.isCoroutine && !sc.isGenerator && decide N.Nodup && decide (N.take ps.length = ps) && ps.all (fun x => locB sc x || celB sc x) && sc.names.all fun y => match y.2 with | .free => false | _ => true
theorem scope_ok {N ps : List Str} {sc : Scope} (h : scopeB N ps sc = true) : FnScope N ps sc := by
  unfold scopeB at h
  obtain ⟨h, h7⟩ := bt h
  obtain ⟨h, h6⟩ := bt h
  obtain ⟨h, h5⟩ := bt h
  obtain ⟨h, h4⟩ := bt h
  obtain ⟨h, h3⟩ := bt h
  obtain ⟨h1, h2⟩ := bt h
  refine ⟨?_, notB h2, notB h3, of_decide_eq_true h4, of_decide_eq_true h5, fun x hx => ?_, fun y hy e => ?_⟩
  · split at h1
    · assumption
    · cases h1
  · rcases Bool.or_eq_true_iff.mp (List.all_eq_true.mp h6 x hx) with z | z
    · exact .inl (loc_of z)
    · exact .inr (cel_of z)
  · have z := List.all_eq_true.mp h7 y hy
    rw [e] at z
    cases z
def chkF (B : TB) (N : List Str) (d : FD) (df : Def) : Bool := decide (df.np = d.ps.length) && decide (df.ns = N.length) && scopeB N d.ps (defScope d.st) && chkSL B N (defScope d.st) df.body (defBody d.st)
/-- what the module holds, as the test was told -/
structure Facts (B : TB) (K : PySem.W.Frag) (mg : Str → Option Value) : Prop where
  con : ∀ p ∈ B.cs, ConOk K mg p.1 p.2
  blt : ∀ b ∈ B.bs, mg b = none
  fns : ∀ f d, B.fns[f]? = some d → ∃ a fd, mg d.x = some (.ref a) ∧ FunD K d.x d.x (defArgs d.st) (defBody d.st) (defScope d.st) [] [] a fd ∧
    (∀ (s : Shared) (us : List Value), us.length = d.ps.length → BindsTo s fd ⟨us, []⟩ (d.ps.zip us)) ∧
    ∀ n ks arr, (f, n, ks, arr) ∈ B.ks → ∀ (s : Shared) (us ws : List Value), us.length = n → ws.length = ks.length → ∃ zs, pick (us ++ ws) arr = some zs ∧ BindsTo s fd ⟨us, ks.zip ws⟩ (d.ps.zip zs)
theorem callF_len {K : PySem.W.Frag} {T : List Def} {W n f : Nat} {ws : List MV} {df : Def} {m : List Addr} {h : MH} {H : Hp} {Q : VK} (e : T[f]? = some df) (w : WP K (rV K) (callF T W n f ws h) m H Q) : ws.length = df.np := by
  cases n with
  | zero => exact False.elim w
  | succ n =>
    by_cases hl : ws.length = df.np
    · exact hl
    · exfalso
      have e2 : callF T W (n + 1) f ws = M.stk := by
        show (match T[f]? with
          | some d => _
          | none => _) = _
        rw [e]
        exact if_neg hl
      rw [e2] at w
      exact w
theorem callF_succ {T : List Def} {W n f : Nat} {ws : List MV} {df : Def} (e : T[f]? = some df) (hl : ws.length = df.np) : callF T W (n + 1) f ws = (evSL (callF T W n) W df.body (ws.map some ++ List.replicate (df.ns - df.np) none)).bnd fun p => match p.2 with
    | .nx => .ret .non
    | .rt v => .ret v
    | _ => .stk := by
  show (match T[f]? with
    | some d => _
    | none => _) = _
  rw [e]
  exact if_pos hl
theorem env_start {K : PySem.W.Frag} {m : List Addr} {H : Hp} {N : List Str} {ws : List MV} {vs : List V} (r : VRs K m H ws vs) : EnvR K m H (ws.map some ++ List.replicate (N.length - ws.length) none) (L2.start N vs) := by
  unfold L2.start
  have hl := r.length
  refine ⟨by simp [hl], fun i v e => ?_⟩
  by_cases hi : i < ws.length
  · rw [List.getElem?_append_left (by simpa using hi), List.getElem?_map] at e
    cases e1 : ws[i]? with
    | none => rw [e1] at e; cases e
    | some x =>
      rw [e1] at e
      cases e
      obtain ⟨y, e2, q⟩ := r.get e1
      refine ⟨y, ?_, q⟩
      rw [List.getElem?_append_left (by simpa [← hl] using hi), List.getElem?_map, e2]
      rfl
  · rw [List.getElem?_append_right (by simpa using hi), List.getElem?_replicate] at e
    split at e <;> cases e
theorem pick_rel {K : PySem.W.Frag} {m : List Addr} {H : Hp} {xs : List MV} {vs : List V} {us : List Value} (r : VRs K m H xs vs) (q : Vals vs us) : ∀ {arr : List Nat} {ys : List MV} {zs : List Value}, pick xs arr = some ys → pick us arr = some zs → ∃ ws, VRs K m H ys ws ∧ Vals ws zs
  | [], ys, zs, e1, e2 => by
    cases e1; cases e2
    exact ⟨[], by unfold VRs; rfl, .nil⟩
  | i :: t, ys, zs, e1, e2 => by
    unfold pick at e1 e2
    split at e1
    · rename_i x ys' h1 h2
      cases e1
      split at e2
      · rename_i u zs' h3 h4
        cases e2
        obtain ⟨v, h5, rv⟩ := r.get h1
        obtain ⟨u', h6, ru⟩ := q.get h5
        rw [h3] at h6
        cases h6
        obtain ⟨ws, r1, r2⟩ := pick_rel r q h2 h4
        exact ⟨v :: ws, by unfold VRs; exact ⟨v, ws, rfl, rv, r1⟩, .cons ru r2⟩
      · cases e2
    · cases e1
section
variable {B : TB} {T : List Def} {W : Nat} {Ns : List (List Str)} {P : Program} {w : World} {K : PySem.W.Frag} {mg : Str → Option Value} {base : Heap}
theorem FnG.callM {Y : Cx} {k : Nat} {a : Addr} {fd : FuncData} {ps : List Str} {g : List MV → M MV} (F : FnG Y.prog Y.w Y.K Y.mg Y.base k a fd ps g) (hr : Room k Y.A) (hg : Y.A.guards = some []) (hb : ∀ (s : Shared) (us : List Value), us.length = ps.length → BindsTo s fd ⟨us, []⟩ (ps.zip us))
    (hlen : ∀ ws m h H Q, WP Y.K (rV Y.K) (g ws h) m H Q → ws.length = ps.length) : CallM Y a g := by
  intro pins s σ H xs us Q I r q
  have hl : us.length = ps.length := by
    obtain ⟨m, h, ws, S, rw', wp⟩ := q
    rw [← r.length, ← rw'.length]
    exact hlen _ _ _ _ _ wp
  refine wpAny_call (codeAny_mono (F Y.A Y.stack s H ⟨us, []⟩ us xs Q hr hg I.env0 (hb s us hl) r q) fun o s' ho => ?_)
  cases o with
  | error e => exact False.elim ho
  | ok fl =>
    cases fl with
    | ret u => exact I.after ho
    | next => exact False.elim ho
    | brk => exact False.elim ho
    | cont => exact False.elim ho
theorem FnG.callK {Y : Cx} {k n : Nat} {ks : List Str} {arr : List Nat} {a : Addr} {fd : FuncData} {ps : List Str} {g : List MV → M MV} (F : FnG Y.prog Y.w Y.K Y.mg Y.base k a fd ps g) (hr : Room k Y.A) (hg : Y.A.guards = some [])
    (hb : ∀ (s : Shared) (us ws : List Value), us.length = n → ws.length = ks.length → ∃ zs, pick (us ++ ws) arr = some zs ∧ BindsTo s fd ⟨us, ks.zip ws⟩ (ps.zip zs)) : CallK Y a n ks arr g := by
  intro pins s σ H vs zs us ws Q I r1 r2 l1 l2 ⟨m, h, xs, ys, S, q1, q2, wp⟩
  obtain ⟨zz, e1, b⟩ := hb s us ws l1 l2
  obtain ⟨yy, e2, wp⟩ := wp_opt wp
  obtain ⟨vv, q3, r3⟩ := pick_rel (q1.append q2) (r1.append r2) e2 e1
  refine wpAny_call (codeAny_mono (F Y.A Y.stack s H ⟨us, ks.zip ws⟩ zz vv Q hr hg I.env0 b r3 ⟨m, h, yy, S, q3, wp⟩) fun o s' ho => ?_)
  cases o with
  | error e => exact False.elim ho
  | ok fl =>
    cases fl with
    | ret u => exact I.after ho
    | next => exact False.elim ho
    | brk => exact False.elim ho
    | cont => exact False.elim ho
/-- the body of one def -/
theorem fn_step {n f : Nat} {d : FD} {df : Def} {N : List Str} {a : Addr} {fd : FuncData} (ok : chkF B N d df = true) (hT : T[f]? = some df) (FA : Facts B K mg) (sm : ∃ mm, base.Ns sysModules mm) (F : FunD K d.x d.x (defArgs d.st) (defBody d.st) (defScope d.st) [] [] a fd)
    (hB : ∀ (f : Nat) (d : FD), B.fns[f]? = some d → ∃ df : Def, T[f]? = some df ∧ df.np = d.ps.length)
    (ih : ∀ (f : Nat) (d : FD) (a : Addr) (fd : FuncData), B.fns[f]? = some d → FunD K d.x d.x (defArgs d.st) (defBody d.st) (defScope d.st) [] [] a fd → FnG P w K mg base n a fd d.ps (callF T W n f)) : FnG P w K mg base (n + 1) a fd d.ps (callF T W (n + 1) f) := by
  obtain ⟨ok, c4⟩ := bt ok
  obtain ⟨ok, c3⟩ := bt ok
  obtain ⟨c1, c2⟩ := bt ok
  have SC := scope_ok c3
  have np := of_decide_eq_true c1
  have ns := of_decide_eq_true c2
  obtain ⟨oc, od, dV, kV, doc, pm, an, cdv, ct, osl, rfl, lk, hcd, _, _⟩ := F.ex
  intro A outer s H args us vs Q room hgd ev hb rv ⟨m, h, ws, S, rw', wp⟩
  have lw := callF_len hT wp
  have lv : vs.length = d.ps.length := by rw [← rw'.length, lw, np]
  have kin : K.In s.heap := ev.mod.kin.keeps fun q u z => (ev.bs q u z).1
  have kinds : ∀ z ∈ d.ps.zip us, (defScope d.st).names.lookup z.1 = some .local ∨ ((defScope d.st).names.lookup z.1 = some .cell ∧ ((cellsFrom (s.heap.objs.size + 1) (defScope d.st).names []).lookup z.1).isSome = true) := by
    rintro ⟨x, v⟩ hz
    rcases SC.par x (List.of_mem_zip hz).1 with z | z
    · exact .inl z
    · exact .inr ⟨z, PySem.W.cellsFrom_some _ _ _ (.inl z)⟩
  refine codeAny_call_function room.depth (kin _ _ lk) rfl SC.co SC.gen rfl (PySem.W.codeRec_of kin hcd) (hb _ _ _ _ (wpAny_newFunctionEnv_cells SC.kind kinds fun env he s1 ic => ?_))
  subst he
  refine ⟨(ev.mod.nolimit.keeps fun q u z => (ev.bs q u z).1).keeps ic.toInCall.keep, codeAny_func ?_⟩
  have room' : Room n (A.deeper (envOfC d.x (defScope d.st) s.heap.objs.size a cdv)) := room.deeper _
  have G : GS B (callF T W n) N (defScope d.st) (cxOf CX0 P w K mg base N d.x (defScope d.st) a cdv A outer s H E0) := {
    g := {
      hN := rfl
      nd := SC.nd
      hsc := rfl
      calm := rfl
      gd := hgd
      sm := sm
      hu := by
        have z := room'.un
        show (A.deeper (envOfC d.x (defScope d.st) s.heap.objs.size a cdv)).units + 65 < cLine
        omega
      hfb := fun _ _ => rfl
      con := FA.con
      fun_ := fun f' d' hd => by
        obtain ⟨a', fd', e1, e2, e3, e4⟩ := FA.fns f' d' hd
        have F' := ih f' d' a' fd' hd e2
        obtain ⟨df', t1, t2⟩ := hB f' d' hd
        refine ⟨a', e1, e2.kp, fun Y sY => ?_, fun n' ks arr hk Y sY => ?_⟩
        · obtain ⟨h1, h2, h3, h4, h5, h6⟩ := sY
          refine FnG.callM (k := n) (fd := fd') (ps := d'.ps) ?_ (by rw [h6]; exact room') (by rw [h6]; exact hgd) e3 fun ws m h H Q wp => by rw [callF_len t1 wp, t2]
          rw [h1, h2, h3, h4, h5]
          exact F'
        · obtain ⟨h1, h2, h3, h4, h5, h6⟩ := sY
          refine FnG.callK (k := n) (fd := fd') (ps := d'.ps) ?_ (by rw [h6]; exact room') (by rw [h6]; exact hgd) (e4 n' ks arr hk)
          rw [h1, h2, h3, h4, h5]
          exact F'
      blt := FA.blt }
    kind := SC.kind
    own := passes_of rfl }
  have body := qsl_all (B := B) (F := callF T W n) (W := W) (N := N) df.body G c4
  have I : Inv (cxOf CX0 P w K mg base N d.x (defScope d.st) a cdv A outer s H E0) [] (L2.start N vs) H s1 := inv_start SC room.hd ev lv rv ic
  rw [callF_succ hT lw] at wp
  have en := env_start (N := N) rw'
  have el : N.length - ws.length = df.ns - df.np := by rw [ns, lw]
  rw [el] at en
  have ws' : WS K (evSL (callF T W n) W df.body (ws.map some ++ List.replicate (df.ns - df.np) none) h) m H { nx := fun _ H' => Q .non H', rt := Q } := by
    unfold M.bnd at wp
    cases e : evSL (callF T W n) W df.body (ws.map some ++ List.replicate (df.ns - df.np) none) h with
    | ok p h' =>
      rw [e] at wp
      dsimp only at wp
      obtain ⟨ρ', fl⟩ := p
      intro m' H' σ' PP SS ee
      cases fl with
      | nx => exact wp m' H' .non PP SS vr_non
      | rt v => exact fun x rx => wp m' H' x PP SS rx
      | bk => exact False.elim wp
      | ct => exact False.elim wp
    | exc _ _ => rw [e] at wp; exact False.elim wp
    | stuck => rw [e] at wp; exact False.elim wp
  refine wpAny_mono (body.run [] s1 (L2.start N vs) H _ I ⟨m, h, _, S, en, ws'⟩) (fun fl s' hs => ?_) fun e s' hs => hs
  have fin : ∀ {τ : L2.St} {H' : Hp} {v : V} {u : Value}, Inv (cxOf CX0 P w K mg base N d.x (defScope d.st) a cdv A outer s H E0) [] τ H' s' → L2.RelV v u → Q v H' → CE outer P w H s Q u s' := fun J r q => ⟨_, _, J.os, J.bare, J.base, J.hok, r, q⟩
  cases fl with
  | next =>
    obtain ⟨τ, H', J, q⟩ := hs
    exact fin (v := V.non) (u := Value.none) J rfl q
  | ret u =>
    obtain ⟨v, τ, H', J, r, q⟩ := hs
    exact fin J r q
  | brk =>
    obtain ⟨_, _, _, q⟩ := hs
    exact False.elim q
  | cont =>
    obtain ⟨_, _, _, q⟩ := hs
    exact False.elim q
/-- every def of the table, at every level -/
theorem fn_all (hB : ∀ (f : Nat) (d : FD), B.fns[f]? = some d → ∃ (df : Def) (N : List Str), T[f]? = some df ∧ chkF B N d df = true) (FA : Facts B K mg) (sm : ∃ mm, base.Ns sysModules mm) : ∀ (n f : Nat) (d : FD) (a : Addr) (fd : FuncData), B.fns[f]? = some d → FunD K d.x d.x (defArgs d.st) (defBody d.st) (defScope d.st) [] [] a fd → FnG P w K mg base n a fd d.ps (callF T W n f)
  | 0, f, d, a, fd, hd, F => fun A outer s H args us vs Q room hgd ev hb rv ⟨m, h, ws, S, rw', wp⟩ => False.elim wp
  | n + 1, f, d, a, fd, hd, F => by
    obtain ⟨df, N, h1, h2⟩ := hB f d hd
    exact fn_step h2 h1 FA sm F (fun f d hd => by
      obtain ⟨df, N, h1, h2⟩ := hB f d hd
      obtain ⟨h2, _⟩ := bt h2
      obtain ⟨h2, _⟩ := bt h2
      exact ⟨df, h1, of_decide_eq_true (bt h2).1⟩) (fun f d a fd hd F => fn_all hB FA sm n f d a fd hd F)
end
end MP
/-! MP: a law's end. -/
namespace MP
open PySem PySem.Spec PyProof.Rows L2
/-- the script alone is told: frozen at a, or not at all -/
structure Told (K : PySem.W.Frag) (P : Program) (w : World) (t : Shared) (H : Hp) (a : Addr) (ns : List Int) : Prop where
  all : ∀ q, H q = none ∨ (q = a ∧ ∃ u xs, H q = some (.frz u (.lst xs)))
  ro : RoL K H a (ns.map V.int)
  ok : HOk P w H t.heap
  own : H a ≠ none → K.lookup a = none
theorem Told.eq {K : PySem.W.Frag} {P : Program} {w : World} {t : Shared} {H : Hp} {a : Addr} {ns : List Int} (D : Told K P w t H a ns) {q : Addr} (h : H q ≠ none) : q = a := (D.all q).elim (fun z => absurd z h) fun z => z.1
theorem vrs_of_ints {K : PySem.W.Frag} {m : List Addr} {H : Hp} : ∀ ns : List Int, VRs K m H (ns.map MV.int) (ns.map V.int)
  | [] => by show VRs K m H [] []; unfold VRs; rfl
  | i :: r => by
    show VRs K m H (.int i :: r.map MV.int) (.int i :: r.map V.int)
    unfold VRs
    exact ⟨_, _, rfl, vr_int i, vrs_of_ints r⟩
section
variable {P : Program} {w : World} {K : PySem.W.Frag} {mg mb : Str → Option Value} {k : Nat} {f a : Addr} {fd : FuncData} {x : Str} {g : List MV → M MV} {t : Shared} {vs : List Value} {ns : List Int}
theorem law_told {H : Hp} (D : Told K P w t H a ns) (kin : K.In t.heap) (hmg : t.heap.Ns mainGlobals mg) (hmb : t.heap.Ns builtinsNs mb) (hbt : ∀ z : Str, z ≠ "__name__" → mb z = bootBuiltins z) (hli : t.heap.NoLimit) (hsm : ∃ mm, t.heap.Ns sysModules mm) (hge : t.gens = #[])
    (ha : t.heap.get? a = some { cls := .type "list", data := .seq vs.toArray }) (room : Room k callerA) (F : ∀ base : Heap, K.In base → base.Ns mainGlobals mg → (∃ mm, base.Ns sysModules mm) → FnG P w K mg base k f fd [x] g) (hbi : ∀ (s : Shared) (u : Value), BindsTo s fd ⟨[u], []⟩ [(x, u)])
    (hres : ∃ h', g [.ro (ns.map MV.int)] [] = .ok (.bl true) h') : codeAny (model P w) callerA (.call (.ref f) ⟨[.ref a], []⟩) (fun r s' => r = .ok (.ret (.bool true)) ∧ OldK t.heap s'.heap ∧ s'.os = t.os ∧ AllBare s'.gens) t := by
  -- a dict is not the script
  have free : ∀ {q : Addr} {o : Obj} {es : Array DictEntry} {n : Nat}, t.heap.get? q = some o → o.data = .dict es n → H q = none := by
    intro q o es n e d
    rcases D.all q with z | ⟨z, _⟩
    · exact z
    · subst z
      rw [ha] at e
      cases e
      cases d
  have space : ∀ {q : Addr} {m : Str → Option Value}, t.heap.Ns q m → (hidT t.heap H).Ns q m := by
    rintro q m ⟨o, es, n, e, d, r⟩
    exact ⟨o, es, n, hidT_get e (free e d), d, r⟩
  have kb : K.In (hidT t.heap H) := by
    intro q o e
    refine hidT_get (kin q o e) (Classical.byContradiction fun z => ?_)
    have eq := D.eq z
    subst eq
    rw [D.own z] at e
    cases e
  have md : Mod K mg (hidT t.heap H) := by
    obtain ⟨mc, l1, l2⟩ := hli
    exact ⟨kb, space hmg, ⟨mb, space hmb, hbt⟩, ⟨mc, space l1, l2⟩⟩
  have sm : ∃ mm, (hidT t.heap H).Ns sysModules mm := by
    obtain ⟨mm, z⟩ := hsm
    exact ⟨mm, space z⟩
  have ev : Env0 P w K mg (hidT t.heap H) callerA [] t H := {
    frames := rfl
    mod := md
    bs := fun _ _ e => of_hidT e
    bsz := Nat.le_of_eq (hidT_size t.heap H)
    funs := trivial
    frf := fun q hq => by cases (show q ∈ ([] : List Addr) from hq)
    hok := D.ok
    bare := .of_eq hge }
  have rf : rF K g [V.ref a] H (fun v _ => v = .bl true) := by
    obtain ⟨h', e⟩ := hres
    refine ⟨[], [], [.ro (ns.map MV.int)], ⟨rfl, List.nodup_nil, fun l b o e => by simp at e⟩, VRs.one (by unfold VR; exact ⟨a, _, rfl, D.ro, vrs_of_ints ns⟩), ?_⟩
    rw [e]
    exact fun m' H' v PP SS r => vr_bl' r
  refine codeAny_mono (F _ kb (space hmg) sm callerA [] t H ⟨[.ref a], []⟩ [.ref a] [.ref a] _ room rfl ev (hbi t (.ref a)) (.cons rfl .nil) rf) fun o t' ho => ?_
  cases o with
  | error e => exact False.elim ho
  | ok fl =>
    cases fl with
    | ret u =>
      obtain ⟨v, H', os, bare, un, ok', rv, rfl⟩ := ho
      obtain rfl : u = Value.bool true := rv
      refine ⟨rfl, OldK.of_keep fun q o e => ?_, os, bare⟩
      rcases D.all q with z | ⟨_, u, xs, z⟩
      · exact un.keep q o e z (fun y => by cases (show q ∈ ([] : List Addr) from y)) List.not_mem_nil
      · obtain ⟨e1, _⟩ := D.ok q _ z
        obtain ⟨e2, _⟩ := ok' q _ (un.frzs q u _ z)
        rw [e] at e1
        cases e1
        exact e2
    | next => exact False.elim ho
    | brk => exact False.elim ho
    | cont => exact False.elim ho
theorem told_of (kin : K.In t.heap) (ha : t.heap.get? a = some { cls := .type "list", data := .seq vs.toArray }) (hi : IntsAre vs ns) (hl : ns.length ≤ sizeLine) : ∃ H, Told K P w t H a ns := by
  have rv := vals_ints hi
  cases hk : K.lookup a with
  | some o =>
    have e := kin a o hk
    rw [ha] at e
    cases e
    exact ⟨fun _ => none, fun _ => .inl rfl, .inr ⟨_, vs.toArray, _, hk, rfl, rfl, rfl, by rw [List.size_toArray, hi.length]; exact hl, by simpa using rv⟩, (fun q u z => by cases (show (none : Option HO) = some u from z)), fun z => absurd rfl z⟩
  | none =>
    refine ⟨fun q => if q = a then some (.frz { cls := .type "list", data := .seq vs.toArray } (.lst (ns.map V.int))) else none, fun q => ?_, .inl ⟨{ cls := .type "list", data := .seq vs.toArray }, if_pos rfl⟩, fun q u z => ?_, fun _ => hk⟩
    · by_cases e : q = a
      · exact .inr ⟨e, _, _, if_pos e⟩
      · exact .inl (if_neg e)
    · by_cases e : q = a
      · have z2 := (if_pos e).symm.trans z
        cases z2
        subst e
        exact ⟨ha, by rw [List.length_map]; exact hl, vs, _, rv, ha⟩
      · cases (if_neg e).symm.trans z
end
/-- what a law's walk wants: the module's facts, the terms' answer -/
theorem walk_mp {l : PySem.W.OpenLaw} {n k : Nat} {q : Program} {loose : List Str} {XP : (Str → Option Value) → Heap → Prop} {YP : World → Heap → Prop} {d : DefRec} {B : TB} {T : List Def} {W i : Nat} {D : FD} {x : Str}
    (hn : l.most = some n) (hn2 : n ≤ sizeLine) (hdf : d.params.defaults = []) (room : Room k callerA) (hno : importsNone q = true) (hD : B.fns[i]? = some D) (hx : D.ps = [x]) (hname : D.x = d.name)
    (hB : ∀ (f : Nat) (d : FD), B.fns[f]? = some d → ∃ (df : Def) (N : List Str), T[f]? = some df ∧ chkF B N d df = true)
    (F : ∀ (w : World) (mg : Str → Option Value) (h : Heap), YP w h → h.Ns mainGlobals mg → ∃ K : PySem.W.Frag, K.In h ∧ Facts B K mg)
    (hres : ∀ ns : List Int, ns.length ≤ n → ∃ h', callF T W k i [.ro (ns.map MV.int)] [] = .ok (.bl true) h') : PySem.W.WalkO q loose XP YP l.row.toRowW d [] (fun f vs => PySem.call f vs) := by
  refine Att.attach_call hn hdf fun w s₀ s₁ mg mb fa o pm cd doc a vs ns G Y ho hd hcd hmg hobj hints hlen hg => ?_
  obtain ⟨K, kin, FA⟩ := F w mg _ Y G.T.g
  obtain ⟨a', fd, e1, e2, e3, _⟩ := FA.fns i D hD
  rw [hname, hmg] at e1
  cases e1
  obtain ⟨H, told⟩ := told_of (P := l.prog) (w := w) kin hobj hints (Nat.le_trans hlen hn2)
  obtain ⟨mm, hmm, _⟩ := (G.T.seer hno).mods
  have F2 : ∀ base : Heap, K.In base → base.Ns mainGlobals mg → (∃ mm, base.Ns sysModules mm) → FnG l.prog w K mg base k fa fd [x] (callF T W k i) := fun base _ _ sm => by
    have r := fn_all (P := l.prog) (w := w) (W := W) hB FA sm k i D fa fd hD e2
    rw [hx] at r
    exact r
  refine law_told told kin G.T.g G.T.b G.T.builtins G.T.nolimit ⟨mm, hmm⟩ hg hobj room F2 (fun s u => ?_) (hres ns hlen)
  have b := e3 s [u] (by rw [hx]; rfl)
  rw [hx] at b
  exact b
end MP
/-! MP: the head's facts for a table. -/
namespace MP
open PySem PySem.Spec PyProof.Rows L2
def conF (p : Str × MV) : List He.Fa := match p.2 with
  | .int i => [.int p.1 i]
  | .str s => [.str p.1 s]
  | _ => []
def conB (p : Str × MV) : Bool := match p.2 with
  | .int _ => true
  | .str _ => true
  | _ => false
def faOf (B : TB) : List He.Fa := B.fns.map (fun d => He.Fa.glo d.x) ++ (B.bs.map He.Fa.free ++ B.cs.flatMap conF)
def fnDs (B : TB) : List He.DefD := B.fns.map fun d => ⟨(d.x, none), d.x, d.x, defArgs d.st, defBody d.st, defScope d.st, [], []⟩
def chkAll (B : TB) : List FD → List Def → List (List Str) → Bool
  | [], _, _ => true
  | d :: ds, t :: ts, n :: ns => chkF B n d t && chkAll B ds ts ns
  | _ :: _, _, _ => false
theorem chkAll_at {B : TB} : ∀ {ds : List FD} {ts : List Def} {ns : List (List Str)}, chkAll B ds ts ns = true → ∀ (f : Nat) (d : FD), ds[f]? = some d → ∃ (df : Def) (N : List Str), ts[f]? = some df ∧ chkF B N d df = true
  | [], _, _, _, f, d, e => by simp at e
  | x :: ds, [], _, h, _, _, _ => by cases h
  | x :: ds, _ :: _, [], h, _, _, _ => by cases h
  | x :: ds, t :: ts, n :: ns, h, f, d, e => by
    obtain ⟨h1, h2⟩ := bt (show (chkF B n x t && chkAll B ds ts ns) = true from h)
    cases f with
    | zero =>
      simp at e
      subst e
      exact ⟨t, n, rfl, h1⟩
    | succ f => exact chkAll_at h2 f d (by simpa using e)
/-- how a def's arguments are bound -/
def BindH (d : FD) : Prop := ∀ (kV doc pm : Value) (an : Option Addr) (cdv ct : Value) (us : List Value), us.length = d.ps.length → bindArgs (PySem.W.fnOf d.x d.x (defArgs d.st) (defBody d.st) (defScope d.st) .none kV doc pm an cdv ct) ⟨us, []⟩ = pure (d.ps.zip us)
def BindK (d : FD) (n : Nat) (ks : List Str) (arr : List Nat) : Prop := ∀ (kV doc pm : Value) (an : Option Addr) (cdv ct : Value) (us ws : List Value), us.length = n → ws.length = ks.length → ∃ zs, pick (us ++ ws) arr = some zs ∧ bindArgs (PySem.W.fnOf d.x d.x (defArgs d.st) (defBody d.st) (defScope d.st) .none kV doc pm an cdv ct) ⟨us, ks.zip ws⟩ = pure (d.ps.zip zs)
theorem con_ok {K : PySem.W.Frag} {h : Heap} {mg : Str → Option Value} (kin : K.In h) (G : h.Ns mainGlobals mg) {p : Str × MV} (hb : conB p = true) (c : ∀ f ∈ conF p, f.ok K = true) : ConOk K mg p.1 p.2 := by
  obtain ⟨x, v⟩ := p
  cases v with
  | int i =>
    obtain ⟨t, e⟩ := He.int_ok kin G (c _ (List.mem_singleton.mpr rfl))
    exact ⟨_, .int i, e, ⟨t, rfl⟩, fun _ _ => vr_int i⟩
  | str s =>
    obtain ⟨t, e⟩ := He.str_ok kin G (c _ (List.mem_singleton.mpr rfl))
    exact ⟨_, .str s, e, ⟨t, rfl⟩, fun _ _ => vr_str s⟩
  | _ => cases hb
theorem facts_of {B : TB} {K : PySem.W.Frag} {h : Heap} {mg : Str → Option Value} (kin : K.In h) (G : h.Ns mainGlobals mg) (c : He.SaysD (faOf B) (fnDs B) K) (hc : B.cs.all conB = true) (hb : ∀ d ∈ B.fns, BindH d) (hk : ∀ f d n ks arr, B.fns[f]? = some d → (f, n, ks, arr) ∈ B.ks → BindK d n ks arr) : Facts B K mg := by
  have all : ∀ f ∈ faOf B, f.ok K = true := fun f hf => by
    obtain ⟨i, e⟩ := List.getElem?_of_mem hf
    exact c.fact i e
  refine ⟨fun p hp => con_ok kin G (List.all_eq_true.mp hc p hp) fun f hf => all f ?_, fun b hb => He.free_ok kin G (all _ ?_), fun f d hd => ?_⟩
  · unfold faOf
    exact List.mem_append_right _ (List.mem_append_right _ (List.mem_flatMap.mpr ⟨p, hp, hf⟩))
  · unfold faOf
    exact List.mem_append_right _ (List.mem_append_left _ (List.mem_map_of_mem hb))
  · have hm : d ∈ B.fns := List.mem_of_getElem? hd
    have e1 := He.glo_ok kin G (all (.glo d.x) (by
      unfold faOf
      exact List.mem_append_left _ (List.mem_map.mpr ⟨d, hm, rfl⟩)))
    obtain ⟨fd, F⟩ := c.def_ f (d := ⟨(d.x, none), d.x, d.x, defArgs d.st, defBody d.st, defScope d.st, [], []⟩) (by
      unfold fnDs
      rw [List.getElem?_map, hd]
      rfl)
    refine ⟨_, fd, e1, F, fun s us hl => ?_, fun n ks arr hkk s us ws l1 l2 => ?_⟩
    · obtain ⟨oc, od, dV, kV, doc, pm, an, cdv, ct, osl, e, lk, hcd, hD, _⟩ := F.ex
      rcases hD with ⟨_, z⟩ | ⟨z, _⟩
      · rw [e, z]
        exact BindsTo.of_eq (hb d hm kV doc pm an cdv ct us hl)
      · exact absurd rfl z
    · obtain ⟨oc, od, dV, kV, doc, pm, an, cdv, ct, osl, e, lk, hcd, hD, _⟩ := F.ex
      rcases hD with ⟨_, z⟩ | ⟨z, _⟩
      · obtain ⟨zs, p1, p2⟩ := hk f d n ks arr hd hkk kV doc pm an cdv ct us ws l1 l2
        rw [e, z]
        exact ⟨zs, p1, BindsTo.of_eq p2⟩
      · exact absurd rfl z
end MP
namespace LawT
open PySem PySem.Spec PyProof.Rows L2 MP
def top (i : Nat) : Stmt := (PySem.Challenge.pw_forcedbook_k11_numbers_names_and_deeds_t).main.body.getD i (.Pass ⟨0, 0, 0, 0⟩)
def d_is_integer : Def := { np := 1, ns := 1, body := (.cons (.ret (.bop true (.cons (.isi (.var 0) [.int]) (.cons (.not (.isi (.var 0) [.bool])) .nil)))) .nil) }
def d_is_count : Def := { np := 1, ns := 1, body := (.cons (.ret (.bop true (.cons (.call 0 (.cons (.var 0) .nil)) (.cons (.cmp .ge (.var 0) (.lit (.int 0))) .nil)))) .nil) }
def d_is_name : Def := { np := 1, ns := 2, body := (.cons (.ifs (.bop false (.cons (.not (.isi (.var 0) [.str])) (.cons (.not (.chain .le .le (.lit (.int 1)) (.bi .len (.cons (.var 0) .nil)) (.glo (Str.ofString "MOST_SIGNS") (.int 6)))) .nil))) (.cons (.ret (.lit (.bl false))) .nil) .nil) (.cons (.ret (.bi .all (.cons (.lc (.cmp .isin (.var 1) (.glo (Str.ofString "LETTERS") (.str (Str.ofString "abcdefghijklmnopqrstuvwxyz")))) (.nm 1) (.vl (.var 0)) .no [1]) .nil))) .nil)) }
def d_is_deed : Def := { np := 1, ns := 1, body := (.cons (.ifs (.bop false (.cons (.not (.isi (.var 0) [.tuple])) (.cons (.cmp .ne (.bi .len (.cons (.var 0) .nil)) (.lit (.int 3))) (.cons (.not (.isi (.idx (.var 0) (.lit (.int 0))) [.str])) (.cons (.cmp .notin (.idx (.var 0) (.lit (.int 0))) (.tup (.cons (.glo (Str.ofString "SAY") (.str (Str.ofString "say"))) (.cons (.glo (Str.ofString "GET") (.str (Str.ofString "get"))) .nil)))) .nil))))) (.cons (.ret (.lit (.bl false))) .nil) .nil) (.cons (.ret (.bop true (.cons (.call 2 (.cons (.idx (.var 0) (.lit (.int 1))) .nil)) (.cons (.call 2 (.cons (.idx (.var 0) (.lit (.int 2))) .nil)) .nil)))) .nil)) }
def d__law_pot : Def := { np := 2, ns := 3, body := (.cons (.asg (.nm 2) (.bin .add (.bin .mul (.lit (.int 233)) (.var 1)) (.lit (.int 42)))) (.cons (.ifs (.cmp .lt (.var 1) (.bi .len (.cons (.var 0) .nil))) (.cons (.asg (.nm 2) (.bi .abs (.cons (.idx (.var 0) (.var 1)) .nil))) .nil) .nil) (.cons (.ret (.lst (.cons (.bi .max (.cons (.lit (.int 0)) (.cons (.bin .sub (.var 2) (.bin .pow (.lit (.int 10)) (.lit (.int 18)))) .nil))) (.cons (.bin .add (.bin .mod (.bi .int (.cons (.bin .add (.bin .add (.bin .mul (.bin .mod (.bi .int (.cons (.var 2) .nil)) (.lit (.int 2147483549))) (.lit (.int 39373))) (.bin .mul (.lit (.int 7067)) (.var 1))) (.lit (.int 31))) .nil)) (.lit (.int 2147483579))) (.lit (.int 1))) .nil)))) .nil))) }
def d__law_draw : Def := { np := 2, ns := 3, body := (.cons (.ifs (.cmp .gt (.idx (.var 0) (.lit (.int 0))) (.lit (.int 0))) (.cons (.asg (.tp (.cons (.sb (.var 0) (.lit (.int 0))) (.cons (.nm 2) .nil))) (.bi .divmod (.cons (.idx (.var 0) (.lit (.int 0))) (.cons (.var 1) .nil)))) (.cons (.ret (.var 2)) .nil)) .nil) (.cons (.asg (.sb (.var 0) (.lit (.int 1))) (.bin .mod (.bi .int (.cons (.bin .add (.bin .mul (.idx (.var 0) (.lit (.int 1))) (.lit (.int 44021))) (.lit (.int 20143))) .nil)) (.lit (.int 2147483563)))) (.cons (.ret (.bin .mod (.bi .int (.cons (.bin .fdiv (.bin .mod (.bi .int (.cons (.bin .mul (.idx (.var 0) (.lit (.int 1))) (.idx (.var 0) (.lit (.int 1)))) .nil)) (.lit (.int 2147483549))) (.lit (.int 19))) .nil)) (.var 1))) .nil))) }
def d__law_pick : Def := { np := 2, ns := 2, body := (.cons (.ret (.idx (.var 1) (.call 5 (.cons (.var 0) (.cons (.bi .len (.cons (.var 1) .nil)) .nil))))) .nil) }
def d__law_text : Def := { np := 1, ns := 4, body := (.cons (.asg (.nm 1) (.lst (.cons (.lit (.str (Str.ofString "a"))) (.cons (.lit (.str (Str.ofString "b"))) (.cons (.lit (.str (Str.ofString "z"))) (.cons (.lit (.str (Str.ofString "m"))) (.cons (.lit (.str (Str.ofString "e"))) (.cons (.lit (.str (Str.ofString "s"))) (.cons (.lit (.str (Str.ofString "A"))) (.cons (.lit (.str (Str.ofString "Z"))) (.cons (.lit (.str (Str.ofString "0"))) (.cons (.lit (.str (Str.ofString "9"))) (.cons (.lit (.str (Str.ofString " "))) (.cons (.lit (.str (Str.ofString "_"))) (.cons (.lit (.str (Str.ofString "-"))) .nil))))))))))))))) (.cons (.asg (.nm 2) (.ife (.cmp .eq (.call 5 (.cons (.var 0) (.cons (.lit (.int 3)) .nil))) (.lit (.int 0))) (.lit (.int 10)) (.lit (.int 6)))) (.cons (.ret (.mth .join (.lit (.str (Str.ofString ""))) (.cons (.lc (.call 6 (.cons (.var 0) (.cons (.slc (.var 1) .no (.so (.var 2))) .nil))) (.nm 3) (.rg1 (.call 5 (.cons (.var 0) (.cons (.lit (.int 9)) .nil)))) .no [3]) .nil))) .nil))) }
def d__law_is_number : Def := { np := 1, ns := 1, body := (.cons (.ret (.bop true (.cons (.isi (.var 0) [.int]) (.cons (.isK true (.var 0) (.bl true)) (.cons (.isK true (.var 0) (.bl false)) .nil))))) .nil) }
def d__law_is_name : Def := { np := 1, ns := 2, body := (.cons (.ifs (.bop false (.cons (.not (.isi (.var 0) [.str])) (.cons (.cmp .eq (.var 0) (.lit (.str (Str.ofString "")))) (.cons (.cmp .gt (.bi .len (.cons (.var 0) .nil)) (.lit (.int 6))) .nil)))) (.cons (.ret (.lit (.bl false))) .nil) .nil) (.cons (.ret (.cmp .eq (.mth .join (.lit (.str (Str.ofString ""))) (.cons (.lc (.var 1) (.nm 1) (.vl (.var 0)) (.so (.chain .le .le (.lit (.str (Str.ofString "a"))) (.var 1) (.lit (.str (Str.ofString "z"))))) [1]) .nil)) (.var 0))) .nil)) }
def d__law_is_deed : Def := { np := 1, ns := 1, body := (.cons (.ifs (.bop false (.cons (.not (.isi (.var 0) [.tuple])) (.cons (.cmp .ne (.bi .len (.cons (.var 0) .nil)) (.lit (.int 3))) (.cons (.not (.isi (.idx (.var 0) (.lit (.int 0))) [.str])) .nil)))) (.cons (.ret (.lit (.bl false))) .nil) .nil) (.cons (.ret (.bop true (.cons (.cmp .isin (.idx (.var 0) (.lit (.int 0))) (.lst (.cons (.lit (.str (Str.ofString "say"))) (.cons (.lit (.str (Str.ofString "get"))) .nil)))) (.cons (.call 9 (.cons (.idx (.var 0) (.lit (.int 1))) .nil)) (.cons (.call 9 (.cons (.idx (.var 0) (.lit (.int 2))) .nil)) .nil))))) .nil)) }
def d__law_things : Def := { np := 1, ns := 5, body := (.cons (.asg (.nm 1) (.lst (.cons (.lit .non) (.cons (.lit (.bl true)) (.cons (.lit (.bl false)) (.cons (.lit (.int 0)) (.cons (.lit (.int 1)) (.cons (.neg (.lit (.int 1))) (.cons (.lit (.int 7)) (.cons (.bin .pow (.lit (.int 10)) (.lit (.int 29))) (.cons (.neg (.bin .pow (.lit (.int 10)) (.lit (.int 29)))) (.cons (.call 5 (.cons (.var 0) (.cons (.bin .pow (.lit (.int 10)) (.lit (.int 6))) .nil))) (.cons (.bin .sub (.lit (.int 0)) (.call 5 (.cons (.var 0) (.cons (.lit (.int 99)) .nil)))) .nil))))))))))))) (.cons (.asg (.nm 1) (.bin .add (.var 1) (.lst (.cons (.lit (.str (Str.ofString ""))) (.cons (.lit (.str (Str.ofString "a"))) (.cons (.lit (.str (Str.ofString "z"))) (.cons (.lit (.str (Str.ofString "abcdef"))) (.cons (.lit (.str (Str.ofString "abcdefg"))) (.cons (.lit (.str (Str.ofString "A"))) (.cons (.lit (.str (Str.ofString "a1"))) (.cons (.lit (.str (Str.ofString "a b"))) (.cons (.lit (.str (Str.ofString " a"))) (.cons (.lit (.str (Str.ofString "a "))) (.cons (.lit (.str (Str.ofString "say"))) (.cons (.lit (.str (Str.ofString "get"))) (.cons (.lit (.str (Str.ofString "0"))) (.cons (.lit (.str (Str.ofString "-1"))) (.cons (.lit (.str (Str.ofString "None"))) .nil)))))))))))))))))) (.cons (.asg (.nm 1) (.bin .add (.var 1) (.lst (.cons (.tup .nil) (.cons (.lst .nil) (.cons (.dct .nil) (.cons (.tup (.cons (.lit (.str (Str.ofString "a"))) .nil)) (.cons (.lst (.cons (.lit (.str (Str.ofString "a"))) .nil)) (.cons (.dct (.cons (.lit (.str (Str.ofString "a"))) (.cons (.lit (.int 1)) .nil))) (.cons (.tup (.cons (.lit (.int 1)) .nil)) (.cons (.lst (.cons (.lit (.int 0)) .nil)) (.cons (.tup (.cons (.lit (.str (Str.ofString "say"))) (.cons (.lit (.str (Str.ofString "a"))) .nil))) (.cons (.tup (.cons (.lit (.str (Str.ofString "say"))) (.cons (.lit (.str (Str.ofString "a"))) (.cons (.lit (.str (Str.ofString "b"))) (.cons (.lit (.str (Str.ofString "c"))) .nil))))) .nil))))))))))))) (.cons (.asg (.nm 1) (.bin .add (.var 1) (.lst (.cons (.tup (.cons (.lit (.str (Str.ofString "say"))) (.cons (.lit (.str (Str.ofString "b"))) (.cons (.lit (.str (Str.ofString "x"))) .nil)))) (.cons (.lst (.cons (.lit (.str (Str.ofString "say"))) (.cons (.lit (.str (Str.ofString "b"))) (.cons (.lit (.str (Str.ofString "x"))) .nil)))) (.cons (.tup (.cons (.lit (.str (Str.ofString "get"))) (.cons (.lit (.str (Str.ofString "b"))) (.cons (.lit (.str (Str.ofString "x"))) .nil)))) (.cons (.tup (.cons (.lit (.str (Str.ofString "Say"))) (.cons (.lit (.str (Str.ofString "b"))) (.cons (.lit (.str (Str.ofString "x"))) .nil)))) (.cons (.tup (.cons (.lit (.str (Str.ofString "got"))) (.cons (.lit (.str (Str.ofString "b"))) (.cons (.lit (.str (Str.ofString "x"))) .nil)))) .nil)))))))) (.cons (.asg (.nm 1) (.bin .add (.var 1) (.lst (.cons (.tup (.cons (.lit (.str (Str.ofString "say"))) (.cons (.lit (.str (Str.ofString ""))) (.cons (.lit (.str (Str.ofString "x"))) .nil)))) (.cons (.tup (.cons (.lit (.str (Str.ofString "say"))) (.cons (.lit (.str (Str.ofString "b"))) (.cons (.lit (.str (Str.ofString ""))) .nil)))) (.cons (.tup (.cons (.lit (.str (Str.ofString "say"))) (.cons (.lit (.str (Str.ofString "b"))) (.cons (.lit (.int 0)) .nil)))) (.cons (.tup (.cons (.lit (.str (Str.ofString "say"))) (.cons (.lit (.int 0)) (.cons (.lit (.str (Str.ofString "x"))) .nil)))) (.cons (.tup (.cons (.lit (.str (Str.ofString "say"))) (.cons (.lit .non) (.cons (.lit (.str (Str.ofString "x"))) .nil)))) (.cons (.tup (.cons (.lit (.int 0)) (.cons (.lit (.str (Str.ofString "b"))) (.cons (.lit (.str (Str.ofString "x"))) .nil)))) .nil))))))))) (.cons (.asg (.nm 1) (.bin .add (.var 1) (.lst (.cons (.tup (.cons (.lit (.str (Str.ofString "say"))) (.cons (.lit (.str (Str.ofString "b"))) (.cons (.lit (.bl true)) .nil)))) (.cons (.tup (.cons (.lit (.str (Str.ofString "say"))) (.cons (.lst (.cons (.lit (.str (Str.ofString "b"))) .nil)) (.cons (.lit (.str (Str.ofString "x"))) .nil)))) (.cons (.tup (.cons (.lit (.str (Str.ofString "say"))) (.cons (.lit (.str (Str.ofString "b"))) (.cons (.tup (.cons (.lit (.str (Str.ofString "x"))) .nil)) .nil)))) (.cons (.tup (.cons (.lst (.cons (.lit (.str (Str.ofString "say"))) .nil)) (.cons (.lit (.str (Str.ofString "b"))) (.cons (.lit (.str (Str.ofString "x"))) .nil)))) (.cons (.tup (.cons (.dct .nil) (.cons (.lit (.str (Str.ofString "b"))) (.cons (.lit (.str (Str.ofString "x"))) .nil)))) .nil)))))))) (.cons (.asg (.nm 1) (.bin .add (.var 1) (.lst (.cons (.tup (.cons (.tup (.cons (.lit (.str (Str.ofString "say"))) (.cons (.lit (.str (Str.ofString "b"))) (.cons (.lit (.str (Str.ofString "x"))) .nil)))) .nil)) (.cons (.tup (.cons (.lit (.str (Str.ofString "say"))) (.cons (.lit (.str (Str.ofString "b"))) (.cons (.lit (.str (Str.ofString "abcdefg"))) .nil)))) (.cons (.tup (.cons (.lit (.str (Str.ofString "get"))) (.cons (.lit (.str (Str.ofString "abcdefg"))) (.cons (.lit (.str (Str.ofString "x"))) .nil)))) (.cons (.tup (.cons (.lit (.str (Str.ofString "say"))) (.cons (.lit (.str (Str.ofString "b"))) (.cons (.lit (.str (Str.ofString "X"))) .nil)))) .nil))))))) (.cons (.fors (.nm 2) (.rg1 (.lit (.int 12))) (.cons (.par 3 4 (.call 7 (.cons (.var 0) .nil)) (.call 7 (.cons (.var 0) .nil))) (.cons (.asg (.nm 1) (.bin .add (.var 1) (.lst (.cons (.var 3) (.cons (.tup (.cons (.call 6 (.cons (.var 0) (.cons (.lst (.cons (.lit (.str (Str.ofString "say"))) (.cons (.lit (.str (Str.ofString "get"))) (.cons (.lit (.str (Str.ofString "said"))) (.cons (.var 3) .nil))))) .nil))) (.cons (.var 4) (.cons (.var 3) .nil)))) (.cons (.tup (.cons (.lit (.str (Str.ofString "get"))) (.cons (.var 3) (.cons (.var 4) .nil)))) .nil)))))) .nil))) (.cons (.ret (.var 1)) .nil))))))))) }
def d__law_right : Def := { np := 1, ns := 7, body := (.cons (.fors (.nm 1) (.vl (.call 11 (.cons (.var 0) .nil))) (.cons (.par 5 6 (.bi .repr (.cons (.var 1) .nil)) (.call 8 (.cons (.var 1) .nil))) (.cons (.asg (.nm 2) (.lst (.cons (.var 6) (.cons (.bop true (.cons (.var 6) (.cons (.cmp .ge (.var 1) (.lit (.int 0))) .nil))) (.cons (.call 9 (.cons (.var 1) .nil)) (.cons (.call 10 (.cons (.var 1) .nil)) .nil)))))) (.cons (.asg (.nm 3) (.lst (.cons (.call 0 (.cons (.var 1) .nil)) (.cons (.call 1 (.cons (.var 1) .nil)) (.cons (.call 2 (.cons (.var 1) .nil)) (.cons (.call 3 (.cons (.var 1) .nil)) .nil)))))) (.cons (.asg (.nm 4) (.lst (.cons (.callk 0 .nil (.cons (.var 1) .nil) [0]) (.cons (.callk 1 .nil (.cons (.var 1) .nil) [0]) (.cons (.callk 2 .nil (.cons (.var 1) .nil) [0]) (.cons (.callk 3 .nil (.cons (.var 1) .nil) [0]) .nil)))))) (.cons (.ifs (.bop false (.cons (.cmp .ne (.bi .repr (.cons (.lst (.cons (.var 3) (.cons (.var 4) .nil))) .nil)) (.bi .repr (.cons (.lst (.cons (.var 2) (.cons (.var 2) .nil))) .nil))) (.cons (.cmp .ne (.bi .repr (.cons (.var 1) .nil)) (.var 5)) .nil))) (.cons (.ret (.lit (.bl false))) .nil) .nil) .nil)))))) (.cons (.ret (.lit (.bl true))) .nil)) }
def d_law : Def := { np := 1, ns := 2, body := (.cons (.ret (.bi .all (.cons (.lc (.call 12 (.cons (.call 4 (.cons (.var 0) (.cons (.var 1) .nil))) .nil)) (.nm 1) (.rg1 (.bi .max (.cons (.lit (.int 1)) (.cons (.bi .min (.cons (.lit (.int 4)) (.cons (.bi .len (.cons (.var 0) .nil)) .nil))) .nil)))) .no [1]) .nil))) .nil) }
def T : List Def := [d_is_integer, d_is_count, d_is_name, d_is_deed, d__law_pot, d__law_draw, d__law_pick, d__law_text, d__law_is_number, d__law_is_name, d__law_is_deed, d__law_things, d__law_right, d_law]
abbrev f0 : FD := ⟨"is_integer", ["value"], top 5⟩
abbrev f1 : FD := ⟨"is_count", ["value"], top 6⟩
abbrev f2 : FD := ⟨"is_name", ["value"], top 7⟩
abbrev f3 : FD := ⟨"is_deed", ["value"], top 8⟩
abbrev f4 : FD := ⟨"_law_pot", ["_law_script", "_law_k"], top 10⟩
abbrev f5 : FD := ⟨"_law_draw", ["_law_pot_here", "_law_size"], top 11⟩
abbrev f6 : FD := ⟨"_law_pick", ["_law_pot_here", "_law_some"], top 12⟩
abbrev f7 : FD := ⟨"_law_text", ["_law_pot_here"], top 13⟩
abbrev f8 : FD := ⟨"_law_is_number", ["_law_value"], top 14⟩
abbrev f9 : FD := ⟨"_law_is_name", ["_law_value"], top 15⟩
abbrev f10 : FD := ⟨"_law_is_deed", ["_law_value"], top 16⟩
abbrev f11 : FD := ⟨"_law_things", ["_law_pot_here"], top 17⟩
abbrev f12 : FD := ⟨"_law_right", ["_law_pot_here"], top 18⟩
abbrev f13 : FD := ⟨"law", ["_law_script"], top 19⟩
def fns : List FD := [f0, f1, f2, f3, f4, f5, f6, f7, f8, f9, f10, f11, f12, f13]
def Ns : List (List Str) := [["value"], ["value"], ["value", "sign"], ["value"], ["_law_script", "_law_k", "_law_cell"], ["_law_pot_here", "_law_size", "_law_digit"], ["_law_pot_here", "_law_some"], ["_law_pot_here", "_law_signs", "_law_size", "_law_turn"], ["_law_value"], ["_law_value", "_law_sign"], ["_law_value"], ["_law_pot_here", "_law_found", "_law_turn", "_law_text_here", "_law_more"], ["_law_pot_here", "_law_thing", "_law_due", "_law_told", "_law_named", "_law_kept", "_law_is_number_here"], ["_law_script", "_law_k"]]
def cs : List (Str × MV) := [("GET", .str (Str.ofString "get")), ("LETTERS", .str (Str.ofString "abcdefghijklmnopqrstuvwxyz")), ("MOST_SIGNS", .int 6), ("SAY", .str (Str.ofString "say"))]
def bs : List Str := ["abs", "all", "bool", "divmod", "int", "isinstance", "len", "max", "min", "range", "repr", "str", "tuple"]
def ks : List (Nat × Nat × List Str × List Nat) := [(0, 0, ["value"], [0]), (1, 0, ["value"], [0]), (2, 0, ["value"], [0]), (3, 0, ["value"], [0])]
def B : TB := ⟨fns, cs, bs, ks⟩
theorem chk : chkAll B B.fns T Ns = true := by decide +kernel
theorem b0 : BindH f0 := fun _ _ _ _ _ _ us hl => match us, hl with
  | [_], _ => rfl
theorem b1 : BindH f1 := fun _ _ _ _ _ _ us hl => match us, hl with
  | [_], _ => rfl
theorem b2 : BindH f2 := fun _ _ _ _ _ _ us hl => match us, hl with
  | [_], _ => rfl
theorem b3 : BindH f3 := fun _ _ _ _ _ _ us hl => match us, hl with
  | [_], _ => rfl
theorem b4 : BindH f4 := fun _ _ _ _ _ _ us hl => match us, hl with
  | [_, _], _ => rfl
theorem b5 : BindH f5 := fun _ _ _ _ _ _ us hl => match us, hl with
  | [_, _], _ => rfl
theorem b6 : BindH f6 := fun _ _ _ _ _ _ us hl => match us, hl with
  | [_, _], _ => rfl
theorem b7 : BindH f7 := fun _ _ _ _ _ _ us hl => match us, hl with
  | [_], _ => rfl
theorem b8 : BindH f8 := fun _ _ _ _ _ _ us hl => match us, hl with
  | [_], _ => rfl
theorem b9 : BindH f9 := fun _ _ _ _ _ _ us hl => match us, hl with
  | [_], _ => rfl
theorem b10 : BindH f10 := fun _ _ _ _ _ _ us hl => match us, hl with
  | [_], _ => rfl
theorem b11 : BindH f11 := fun _ _ _ _ _ _ us hl => match us, hl with
  | [_], _ => rfl
theorem b12 : BindH f12 := fun _ _ _ _ _ _ us hl => match us, hl with
  | [_], _ => rfl
theorem b13 : BindH f13 := fun _ _ _ _ _ _ us hl => match us, hl with
  | [_], _ => rfl
theorem bH : ∀ d ∈ B.fns, BindH d := List.forall_mem_cons.mpr ⟨b0, List.forall_mem_cons.mpr ⟨b1, List.forall_mem_cons.mpr ⟨b2, List.forall_mem_cons.mpr ⟨b3, List.forall_mem_cons.mpr ⟨b4, List.forall_mem_cons.mpr ⟨b5, List.forall_mem_cons.mpr ⟨b6, List.forall_mem_cons.mpr ⟨b7, List.forall_mem_cons.mpr ⟨b8, List.forall_mem_cons.mpr ⟨b9, List.forall_mem_cons.mpr ⟨b10, List.forall_mem_cons.mpr ⟨b11, List.forall_mem_cons.mpr ⟨b12, List.forall_mem_cons.mpr ⟨b13, fun _ h => nomatch h⟩⟩⟩⟩⟩⟩⟩⟩⟩⟩⟩⟩⟩⟩
theorem k0 : BindK f0 0 ["value"] [0] := fun _ _ _ _ _ _ us ws h1 h2 => match us, ws, h1, h2 with
  | [], [y0], _, _ => ⟨[y0], rfl, rfl⟩
theorem k1 : BindK f1 0 ["value"] [0] := fun _ _ _ _ _ _ us ws h1 h2 => match us, ws, h1, h2 with
  | [], [y0], _, _ => ⟨[y0], rfl, rfl⟩
theorem k2 : BindK f2 0 ["value"] [0] := fun _ _ _ _ _ _ us ws h1 h2 => match us, ws, h1, h2 with
  | [], [y0], _, _ => ⟨[y0], rfl, rfl⟩
theorem k3 : BindK f3 0 ["value"] [0] := fun _ _ _ _ _ _ us ws h1 h2 => match us, ws, h1, h2 with
  | [], [y0], _, _ => ⟨[y0], rfl, rfl⟩
theorem bK : ∀ q ∈ B.ks, ∃ d, B.fns[q.1]? = some d ∧ BindK d q.2.1 q.2.2.1 q.2.2.2 := List.forall_mem_cons.mpr ⟨⟨f0, rfl, k0⟩, List.forall_mem_cons.mpr ⟨⟨f1, rfl, k1⟩, List.forall_mem_cons.mpr ⟨⟨f2, rfl, k2⟩, List.forall_mem_cons.mpr ⟨⟨f3, rfl, k3⟩, fun _ h => nomatch h⟩⟩⟩⟩
def lo0 : List PySem.Str := ["LETTERS", "MOST_SIGNS", "SAY", "GET", "is_integer", "is_count", "is_name", "is_deed", "_law_pot", "_law_draw", "_law_pick", "_law_text", "_law_is_number", "_law_is_name", "_law_is_deed", "_law_things", "_law_right"]
def loose : List PySem.Str := lo0
abbrev R : PySem.W.OpenRow := PySem.W.OpenLaw.row PySem.Challenge.rw_forcedbook_k11_numbers_names_and_deeds_t
abbrev hk : PySem.W.Hook := He.hookD 4 (faOf B) (fnDs B)
def ob (s : PySem.W.SharedT) : He.AlD := He.obsDG 4 (faOf B) (fnDs B) (HandSHeadRun.getT s)
theorem ob_eq (s : PySem.W.SharedT) : ob s = hk.obs s.abs := He.obsDG_eq (HandSHeadRun.getT_eq s)
theorem run (w : World) : HandSHeadRun.RunEq R (PySem.W.view R.prog [19]) hk ob 4000 loose w := by
  intro os
  kernel_rfl
def li : Nat := 19
def lf : Nat := 13
end LawT
/-! MP: its meaning, step by step, with no program in sight. -/
namespace MPV
open PySem hiding Env
open MP
def Ev {α : Type} (x : M α) (h : MH) (Q : α → MH → Prop) : Prop := match x h with
  | .ok a h' => Q a h'
  | _ => False
section
variable {α β : Type} {h : MH}
theorem ev_of {x : M α} {Q : α → MH → Prop} {a : α} {h' : MH} (e : x h = .ok a h') (q : Q a h') : Ev x h Q := by
  unfold Ev
  rw [e]
  exact q
theorem ev_to {x : M α} {Q : α → MH → Prop} (e : Ev x h Q) : ∃ a h', x h = .ok a h' ∧ Q a h' := by
  unfold Ev at e
  cases z : x h with
  | ok a h' => rw [z] at e; exact ⟨a, h', rfl, e⟩
  | exc _ _ => rw [z] at e; exact e.elim
  | stuck => rw [z] at e; exact e.elim
theorem Ev.mono {x : M α} {Q Q' : α → MH → Prop} (e : Ev x h Q) (k : ∀ a h', Q a h' → Q' a h') : Ev x h Q' := by
  obtain ⟨a, h', z, q⟩ := ev_to e
  exact ev_of z (k _ _ q)
theorem ev_ret (a : α) (Q : α → MH → Prop) : Ev (M.ret a) h Q = Q a h := rfl
theorem ev_stk (Q : α → MH → Prop) : Ev (M.stk) h Q = False := rfl
theorem ev_bnd (x : M α) (f : α → M β) (Q : β → MH → Prop) : Ev (x.bnd f) h Q = Ev x h fun a h' => Ev (f a) h' Q := by
  unfold Ev M.bnd
  cases x h <;> rfl
theorem ev_alloc (o : MO) (Q : MV → MH → Prop) : Ev (M.alloc o) h Q = Q (.ref h.length) (h ++ [o]) := rfl
theorem ev_some (a : α) (Q : α → MH → Prop) : Ev (M.opt (some a)) h Q = Q a h := rfl
theorem ev_chk (Q : Unit → MH → Prop) : Ev (M.chk true) h Q = Q () h := rfl
theorem ev_ite (c : Prop) [Decidable c] (x y : M α) (Q : α → MH → Prop) : Ev (if c then x else y) h Q = if c then Ev x h Q else Ev y h Q := by
  by_cases z : c <;> simp [z]
end
/-- behind a statement -/
def afterS (k : Env → M (Env × Fl)) (p : Env × Fl) : M (Env × Fl) := match p.2 with
  | .nx => k p.1
  | f => .ret (p.1, f)
theorem after_nx (k : Env → M (Env × Fl)) (ρ : Env) : afterS k (ρ, .nx) = k ρ := rfl
theorem after_rt (k : Env → M (Env × Fl)) (ρ : Env) (v : MV) : afterS k (ρ, .rt v) = .ret (ρ, .rt v) := rfl
section
variable (F : Nat → List MV → M MV) (W : Nat)
theorem e_var (i : Nat) (ρ : Env) : evE F W (.var i) ρ = match ρ[i]? with
    | some (some v) => M.ret v
    | _ => M.stk := rfl
theorem e_lit (v : MV) (ρ : Env) : evE F W (.lit v) ρ = M.ret v := rfl
theorem e_glo (x : Str) (v : MV) (ρ : Env) : evE F W (.glo x v) ρ = M.ret v := rfl
theorem e_tup (es : EL) (ρ : Env) : evE F W (.tup es) ρ = (evEL F W es ρ).bnd tupV := rfl
theorem e_lst (es : EL) (ρ : Env) : evE F W (.lst es) ρ = (evEL F W es ρ).bnd lstV := rfl
theorem e_dct (es : EL) (ρ : Env) : evE F W (.dct es) ρ = (evEL F W es ρ).bnd dctV := rfl
theorem e_bin (o : Bop) (a b : E) (ρ : Env) : evE F W (.bin o a b) ρ = (evE F W a ρ).bnd fun x => (evE F W b ρ).bnd fun y => binV o x y := rfl
theorem e_neg (a : E) (ρ : Env) : evE F W (.neg a) ρ = (evE F W a ρ).bnd negV := rfl
theorem e_cmp (o : Cop) (a b : E) (ρ : Env) : evE F W (.cmp o a b) ρ = (evE F W a ρ).bnd fun x => (evE F W b ρ).bnd fun y => (cmpV o x y).bnd fun k => .ret (.bl k) := rfl
theorem e_chain (o p : Cop) (a b c : E) (ρ : Env) : evE F W (.chain o p a b c) ρ = (evE F W a ρ).bnd fun x => (evE F W b ρ).bnd fun y => (cmpV o x y).bnd fun k => if k then (evE F W c ρ).bnd fun z => (cmpV p y z).bnd fun k => .ret (.bl k) else .ret (.bl false) := rfl
theorem e_isK (ng : Bool) (a : E) (v : MV) (ρ : Env) : evE F W (.isK ng a v) ρ = (evE F W a ρ).bnd fun x => (isKV x v).bnd fun k => .ret (.bl (if ng then !k else k)) := rfl
theorem e_bop (d : Bool) (es : EL) (ρ : Env) : evE F W (.bop d es) ρ = evB F W d es ρ := rfl
theorem e_not (a : E) (ρ : Env) : evE F W (.not a) ρ = (evE F W a ρ).bnd notV := rfl
theorem e_ife (t a b : E) (ρ : Env) : evE F W (.ife t a b) ρ = (evT F W t ρ).bnd fun k => if k then evE F W a ρ else evE F W b ρ := rfl
theorem e_call (f : Nat) (es : EL) (ρ : Env) : evE F W (.call f es) ρ = (evEL F W es ρ).bnd fun xs => F f xs := rfl
theorem e_callk (f : Nat) (es kes : EL) (arr : List Nat) (ρ : Env) : evE F W (.callk f es kes arr) ρ = (evEL F W es ρ).bnd fun xs => (evEL F W kes ρ).bnd fun ys => (M.opt (pick (xs ++ ys) arr)).bnd fun zs => F f zs := rfl
theorem e_bi (b : Bi) (es : EL) (ρ : Env) : evE F W (.bi b es) ρ = (evEL F W es ρ).bnd fun xs => biV b xs := rfl
theorem e_isi (a : E) (ts : List Ty) (ρ : Env) : evE F W (.isi a ts) ρ = (evE F W a ρ).bnd fun x => (isisV x ts).bnd fun k => .ret (.bl k) := rfl
theorem e_mth (m : Mt) (o : E) (es : EL) (ρ : Env) : evE F W (.mth m o es) ρ = (evE F W o ρ).bnd fun x => (rcvV m x).bnd fun _ => (evEL F W es ρ).bnd fun xs => mtV m x xs := rfl
theorem e_idx (a b : E) (ρ : Env) : evE F W (.idx a b) ρ = (evE F W a ρ).bnd fun x => (evE F W b ρ).bnd fun y => idxV x y := rfl
theorem e_slc (a : E) (lo hi : EO) (ρ : Env) : evE F W (.slc a lo hi) ρ = (evE F W a ρ).bnd fun x => (evO F W lo ρ).bnd fun l => (evO F W hi ρ).bnd fun u => slcV x l u := rfl
theorem e_lc (e : E) (t : Tg) (it : Ir) (cs : EO) (own : List Nat) (ρ : Env) : evE F W (.lc e t it cs own) ρ = (evIt F W it ρ).bnd fun J => (lcLoop (lcStep (asgT F W t) (evC F W cs) (evE F W e) (wipeE ρ own)) J W 0 []).bnd fun ys => M.alloc (.lst ys) := rfl
theorem el_nil (ρ : Env) : evEL F W .nil ρ = M.ret [] := rfl
theorem el_cons (e : E) (r : EL) (ρ : Env) : evEL F W (.cons e r) ρ = (evE F W e ρ).bnd fun x => (evEL F W r ρ).bnd fun xs => .ret (x :: xs) := rfl
theorem eb_one (d : Bool) (e : E) (ρ : Env) : evB F W d (.cons e .nil) ρ = evE F W e ρ := rfl
theorem eb_cons (d : Bool) (e e2 : E) (r : EL) (ρ : Env) : evB F W d (.cons e (.cons e2 r)) ρ = (evE F W e ρ).bnd fun x => bopV d (evB F W d (.cons e2 r) ρ) x := rfl
theorem eo_no (ρ : Env) : evO F W .no ρ = M.ret none := rfl
theorem eo_so (e : E) (ρ : Env) : evO F W (.so e) ρ = (evE F W e ρ).bnd intO := rfl
theorem ec_no (ρ : Env) : evC F W .no ρ = M.ret true := rfl
theorem ec_so (e : E) (ρ : Env) : evC F W (.so e) ρ = evT F W e ρ := rfl
theorem t_bop (d : Bool) (es : EL) (ρ : Env) : evT F W (.bop d es) ρ = evBT F W d es ρ := rfl
theorem t_not (a : E) (ρ : Env) : evT F W (.not a) ρ = (evT F W a ρ).bnd fun k => .ret (!k) := rfl
theorem t_var (i : Nat) (ρ : Env) : evT F W (.var i) ρ = (match ρ[i]? with
    | some (some v) => M.ret v
    | _ => M.stk).bnd truV := rfl
theorem t_cmp (o : Cop) (a b : E) (ρ : Env) : evT F W (.cmp o a b) ρ = (evE F W a ρ).bnd fun x => (evE F W b ρ).bnd fun y => cmpV o x y := rfl
theorem t_chain (o p : Cop) (a b c : E) (ρ : Env) : evT F W (.chain o p a b c) ρ = (evE F W a ρ).bnd fun x => (evE F W b ρ).bnd fun y => (cmpV o x y).bnd fun k => if k then (evE F W c ρ).bnd fun z => cmpV p y z else .ret false := rfl
theorem t_isK (ng : Bool) (a : E) (v : MV) (ρ : Env) : evT F W (.isK ng a v) ρ = (evE F W a ρ).bnd fun x => (isKV x v).bnd fun k => .ret (if ng then !k else k) := rfl
theorem t_call (f : Nat) (es : EL) (ρ : Env) : evT F W (.call f es) ρ = (evEL F W es ρ).bnd fun xs => (F f xs).bnd truV := rfl
theorem t_bi (b : Bi) (es : EL) (ρ : Env) : evT F W (.bi b es) ρ = (evEL F W es ρ).bnd fun xs => (biV b xs).bnd truV := rfl
theorem t_isi (a : E) (ts : List Ty) (ρ : Env) : evT F W (.isi a ts) ρ = (evE F W a ρ).bnd fun x => isisV x ts := rfl
theorem t_idx (a b : E) (ρ : Env) : evT F W (.idx a b) ρ = (evE F W a ρ).bnd fun x => (evE F W b ρ).bnd fun y => (idxV x y).bnd truV := rfl
theorem bt_one (d : Bool) (e : E) (ρ : Env) : evBT F W d (.cons e .nil) ρ = evT F W e ρ := rfl
theorem bt_cons (d : Bool) (e e2 : E) (r : EL) (ρ : Env) : evBT F W d (.cons e (.cons e2 r)) ρ = (evT F W e ρ).bnd fun k => if k == d then evBT F W d (.cons e2 r) ρ else .ret k := rfl
theorem g_nm (i : Nat) (v : MV) (ρ : Env) : asgT F W (.nm i) v ρ = M.ret (ρ.set i (some v)) := rfl
theorem g_tp (ts : TgL) (xs : List MV) (ρ : Env) : asgT F W (.tp ts) (.tup xs) ρ = asgL F W ts xs ρ := rfl
theorem g_sb (o i : E) (v : MV) (ρ : Env) : asgT F W (.sb o i) v ρ = (evE F W o ρ).bnd fun x => (evE F W i ρ).bnd fun y => (setV x y v).bnd fun _ => .ret ρ := rfl
theorem gl_nil (ρ : Env) : asgL F W .nil [] ρ = M.ret ρ := rfl
theorem gl_cons (t : Tg) (r : TgL) (x : MV) (xs : List MV) (ρ : Env) : asgL F W (.cons t r) (x :: xs) ρ = (asgT F W t x ρ).bnd fun ρ' => asgL F W r xs ρ' := rfl
theorem i_vl (e : E) (ρ : Env) : evIt F W (.vl e) ρ = (evE F W e ρ).bnd itV := rfl
theorem i_rg1 (a : E) (ρ : Env) : evIt F W (.rg1 a) ρ = (evE F W a ρ).bnd rg1V := rfl
theorem i_rg2 (a b : E) (ρ : Env) : evIt F W (.rg2 a b) ρ = (evE F W a ρ).bnd fun x => (evE F W b ρ).bnd fun y => rg2V x y := rfl
theorem s_asg (t : Tg) (e : E) (ρ : Env) : evS F W (.asg t e) ρ = (evE F W e ρ).bnd fun x => (asgT F W t x ρ).bnd fun ρ' => .ret (ρ', .nx) := rfl
theorem s_par (i j : Nat) (a b : E) (ρ : Env) : evS F W (.par i j a b) ρ = (evE F W a ρ).bnd fun x => (evE F W b ρ).bnd fun y => .ret ((ρ.set i (some x)).set j (some y), .nx) := rfl
theorem s_ex (e : E) (ρ : Env) : evS F W (.ex e) ρ = (evE F W e ρ).bnd fun _ => .ret (ρ, .nx) := rfl
theorem s_ret (e : E) (ρ : Env) : evS F W (.ret e) ρ = (evE F W e ρ).bnd fun x => .ret (ρ, .rt x) := rfl
theorem s_retN (ρ : Env) : evS F W .retN ρ = M.ret (ρ, .rt .non) := rfl
theorem s_ifs (c : E) (a b : SL) (ρ : Env) : evS F W (.ifs c a b) ρ = (evT F W c ρ).bnd fun k => if k then evSL F W a ρ else evSL F W b ρ := rfl
theorem s_fors (t : Tg) (it : Ir) (b : SL) (ρ : Env) : evS F W (.fors t it b) ρ = (evIt F W it ρ).bnd fun J => forLoop (asgT F W t) (evSL F W b) J W 0 ρ := rfl
theorem s_whl (c : E) (b : SL) (ρ : Env) : evS F W (.whl c b) ρ = whlLoop (evT F W c) (evSL F W b) W ρ := rfl
theorem s_pas (ρ : Env) : evS F W .pas ρ = M.ret (ρ, .nx) := rfl
theorem sl_nil (ρ : Env) : evSL F W .nil ρ = M.ret (ρ, .nx) := rfl
theorem sl_cons (s : S) (r : SL) (ρ : Env) : evSL F W (.cons s r) ρ = (evS F W s ρ).bnd fun p => afterS (evSL F W r) p := rfl
end
end MPV
/-! MP: loops by invariants, places that stay, values read. -/
namespace MPV
open PySem hiding Env
open MP
theorem call_eq {T : List Def} {W n f : Nat} {ws : List MV} {df : Def} (e : T[f]? = some df) (hl : ws.length = df.np) : callF T W (n + 1) f ws = (evSL (callF T W n) W df.body (ws.map some ++ List.replicate (df.ns - df.np) none)).bnd fun p => match p.2 with
    | .nx => .ret .non
    | .rt v => .ret v
    | _ => .stk := by
  show (match T[f]? with
    | some d => _
    | none => _) = _
  rw [e]
  exact if_pos hl
/-- a call by its body: it ends by a return, or falls through -/
def retQ (Q : MV → MH → Prop) : Env × Fl → MH → Prop := fun p h => match p.2 with
  | .nx => Q .non h
  | .rt v => Q v h
  | _ => False
theorem ev_call {T : List Def} {W n f : Nat} {ws : List MV} {df : Def} {h : MH} {Q : MV → MH → Prop} (e : T[f]? = some df) (hl : ws.length = df.np) (k : Ev (evSL (callF T W n) W df.body (ws.map some ++ List.replicate (df.ns - df.np) none)) h (retQ Q)) : Ev (callF T W (n + 1) f ws) h Q := by
  rw [call_eq e hl, ev_bnd]
  refine k.mono fun p h' q => ?_
  obtain ⟨ρ, fl⟩ := p
  cases fl with
  | nx => exact q
  | rt v => exact q
  | bk => exact False.elim q
  | ct => exact False.elim q
theorem ret_rt (Q : MV → MH → Prop) (ρ : Env) (v : MV) (h : MH) : retQ Q (ρ, .rt v) h = Q v h := rfl
theorem ret_nx (Q : MV → MH → Prop) (ρ : Env) (h : MH) : retQ Q (ρ, .nx) h = Q .non h := rfl
/-! ### loops -/
/-- the items stand: xs is what is walked -/
def Walk (h : MH) (it : Itv) (xs : List MV) : Prop := match it with
  | .il l => h[l]? = some (.lst xs)
  | .vs ys => ys = xs
theorem Walk.nxt {h : MH} {it : Itv} {xs : List MV} (w : Walk h it xs) (i : Nat) : nxt h it i = some xs[i]? := by
  cases it with
  | il l =>
    have w : h[l]? = some (.lst xs) := w
    unfold MP.nxt
    dsimp only
    rw [w]
  | vs ys =>
    have w : ys = xs := w
    subst w
    rfl
theorem ev_lc {step : MV → M (Option MV)} {it : Itv} {xs : List MV} {W : Nat} {h : MH} {Q : List MV → MH → Prop} (I : Nat → List MV → MH → Prop) (h0 : I 0 [] h) (hw : ∀ i acc h, I i acc h → Walk h it xs) (hW : xs.length < W) (hlen : xs.length ≤ 1000000) (hacc : ∀ i acc h, I i acc h → acc.length ≤ i)
    (hs : ∀ i x acc h, xs[i]? = some x → I i acc h → Ev (step x) h fun o h' => match o with
      | some y => I (i + 1) (acc ++ [y]) h'
      | none => I (i + 1) acc h')
    (he : ∀ acc h, I xs.length acc h → Q acc h) : Ev (lcLoop step it W 0 []) h Q := by
  have key : ∀ (μ i : Nat) (acc : List MV) (h : MH), xs.length < i + μ → i ≤ xs.length → I i acc h → Ev (lcLoop step it μ i acc) h Q := by
    intro μ
    induction μ with
    | zero => intro i acc h h1 h2; omega
    | succ μ ih =>
      intro i acc h h1 h2 hi
      have e : lcLoop step it (μ + 1) i acc h = match nxt h it i with
        | none => .stuck
        | some none => .ok acc h
        | some (some x) => ((step x).bnd fun o => match o with
          | some y => if fitsL acc.length then lcLoop step it μ (i + 1) (acc ++ [y]) else .stk
          | none => lcLoop step it μ (i + 1) acc) h := rfl
      rw [(hw i acc h hi).nxt i] at e
      cases e2 : xs[i]? with
      | none =>
        rw [e2] at e
        have hh := List.getElem?_eq_none_iff.mp e2
        have : i = xs.length := by omega
        subst this
        exact ev_of e (he acc h hi)
      | some x =>
        rw [e2] at e
        have hl := (List.getElem?_eq_some_iff.mp e2).1
        have ev : Ev ((step x).bnd fun o => match o with
          | some y => if fitsL acc.length then lcLoop step it μ (i + 1) (acc ++ [y]) else .stk
          | none => lcLoop step it μ (i + 1) acc) h Q := by
          rw [ev_bnd]
          refine (hs i x acc h e2 hi).mono fun o h' q => ?_
          cases o with
          | none => exact ih (i + 1) acc h' (by omega) (by omega) q
          | some y =>
            have ha := hacc i acc h hi
            have hf : fitsL acc.length = true := by
              unfold fitsL
              exact decide_eq_true (by rw [show sizeLine = 16777216 from rfl]; omega)
            show Ev (if fitsL acc.length then lcLoop step it μ (i + 1) (acc ++ [y]) else .stk) h' Q
            rw [if_pos hf]
            exact ih (i + 1) (acc ++ [y]) h' (by omega) (by omega) q
        unfold Ev at ev ⊢
        rw [e]
        exact ev
  exact key W 0 [] h (by omega) (by omega) h0
theorem ev_for {asg : MV → Env → M Env} {body : Env → M (Env × Fl)} {it : Itv} {xs : List MV} {W : Nat} {ρ : Env} {h : MH} {Q : Env × Fl → MH → Prop} (I : Nat → Env → MH → Prop) (h0 : I 0 ρ h) (hw : ∀ i ρ h, I i ρ h → Walk h it xs) (hW : xs.length < W)
    (hs : ∀ i x ρ h, xs[i]? = some x → I i ρ h → Ev (asg x ρ) h fun ρ' h' => Ev (body ρ') h' fun p h2 => match p.2 with
      | .nx => I (i + 1) p.1 h2
      | .ct => I (i + 1) p.1 h2
      | .bk => Q (p.1, .nx) h2
      | .rt v => Q (p.1, .rt v) h2)
    (he : ∀ ρ h, I xs.length ρ h → Q (ρ, .nx) h) : Ev (forLoop asg body it W 0 ρ) h Q := by
  have key : ∀ (μ i : Nat) (ρ : Env) (h : MH), xs.length < i + μ → i ≤ xs.length → I i ρ h → Ev (forLoop asg body it μ i ρ) h Q := by
    intro μ
    induction μ with
    | zero => intro i ρ h h1 h2; omega
    | succ μ ih =>
      intro i ρ h h1 h2 hi
      have e : forLoop asg body it (μ + 1) i ρ h = match nxt h it i with
        | none => .stuck
        | some none => .ok (ρ, .nx) h
        | some (some x) => ((asg x ρ).bnd fun ρ' => (body ρ').bnd fun p => match p.2 with
          | .nx => forLoop asg body it μ (i + 1) p.1
          | .ct => forLoop asg body it μ (i + 1) p.1
          | .bk => .ret (p.1, .nx)
          | .rt v => .ret (p.1, .rt v)) h := rfl
      rw [(hw i ρ h hi).nxt i] at e
      cases e2 : xs[i]? with
      | none =>
        rw [e2] at e
        have hh := List.getElem?_eq_none_iff.mp e2
        have : i = xs.length := by omega
        subst this
        exact ev_of e (he ρ h hi)
      | some x =>
        rw [e2] at e
        have hl := (List.getElem?_eq_some_iff.mp e2).1
        have ev : Ev ((asg x ρ).bnd fun ρ' => (body ρ').bnd fun p => match p.2 with
          | .nx => forLoop asg body it μ (i + 1) p.1
          | .ct => forLoop asg body it μ (i + 1) p.1
          | .bk => .ret (p.1, .nx)
          | .rt v => .ret (p.1, .rt v)) h Q := by
          rw [ev_bnd]
          refine (hs i x ρ h e2 hi).mono fun ρ' h' q => ?_
          rw [ev_bnd]
          refine q.mono fun p h2 q => ?_
          obtain ⟨ρ2, fl⟩ := p
          cases fl with
          | nx => exact ih (i + 1) ρ2 h2 (by omega) (by omega) q
          | ct => exact ih (i + 1) ρ2 h2 (by omega) (by omega) q
          | bk => exact q
          | rt v => exact q
        unfold Ev at ev ⊢
        rw [e]
        exact ev
  exact key W 0 ρ h (by omega) (by omega) h0
/-! ### places that stay -/
/-- what is a list or a dict stays as it is -/
def Le (h h' : MH) : Prop := ∀ (i : Nat) (o : MO), h[i]? = some o → (match o with
  | .ins _ _ => True
  | _ => h'[i]? = some o)
theorem Le.refl (h : MH) : Le h h := fun i o e => by cases o <;> first | exact e | trivial
theorem Le.lst {h h' : MH} (k : Le h h') {i : Nat} {xs : List MV} (e : h[i]? = some (.lst xs)) : h'[i]? = some (.lst xs) := k i _ e
theorem Le.dct {h h' : MH} (k : Le h h') {i : Nat} {w : Bool} {xs : List (MV × MV)} (e : h[i]? = some (.dct w xs)) : h'[i]? = some (.dct w xs) := k i _ e
theorem Le.trans {a b c : MH} (h : Le a b) (k : Le b c) : Le a c := fun i o e => by
  cases o with
  | lst xs => exact k.lst (h.lst e)
  | dct w xs => exact k.dct (h.dct e)
  | ins _ _ => trivial
theorem Le.app (h t : MH) : Le h (h ++ t) := fun i o e => by
  have : (h ++ t)[i]? = some o := by
    rw [List.getElem?_append_left (List.getElem?_eq_some_iff.mp e).1]
    exact e
  cases o <;> first | exact this | trivial
/-- the place l hidden -/
def hid (l : Nat) (h : MH) : MH := h.set l (.ins 0 [])
theorem hid_le (l : Nat) (h : MH) : Le (hid l h) h := fun i o e => by
  unfold hid at e
  by_cases hi : l = i
  · subst hi
    by_cases hl : l < h.length
    · rw [List.getElem?_set_self hl] at e
      cases e
      trivial
    · rw [List.getElem?_eq_none (by simpa using hl)] at e
      cases e
  · rw [List.getElem?_set_ne hi] at e
    cases o <;> first | exact e | trivial
theorem hid_mono {l : Nat} {h h' : MH} (k : Le h h') : Le (hid l h) (hid l h') := fun i o e => by
  by_cases hi : l = i
  · subst hi
    unfold hid at e
    by_cases hl : l < h.length
    · rw [List.getElem?_set_self hl] at e
      cases e
      trivial
    · rw [List.getElem?_eq_none (by simpa using hl)] at e
      cases e
  · have e2 : h[i]? = some o := by
      unfold hid at e
      rw [List.getElem?_set_ne hi] at e
      exact e
    have : ∀ o', h'[i]? = some o' → (hid l h')[i]? = some o' := fun o' z => by
      unfold hid
      rw [List.getElem?_set_ne hi]
      exact z
    cases o with
    | lst xs => exact this _ (k.lst e2)
    | dct w xs => exact this _ (k.dct e2)
    | ins _ _ => trivial
theorem hid_set (l : Nat) (h : MH) (o : MO) : hid l (h.set l o) = hid l h := by
  unfold hid
  rw [List.set_set]
theorem hid_app {l : Nat} {h : MH} (t : MH) (hl : l < h.length) : hid l (h ++ t) = hid l h ++ t := by
  unfold hid
  rw [List.set_append_left _ _ hl]
/-! ### values read -/
theorem mapO_mono {α β : Type} {f g : α → Option β} : ∀ {xs : List α} {ys : List β}, (∀ x ∈ xs, ∀ y, f x = some y → g x = some y) → mapO f xs = some ys → mapO g xs = some ys
  | [], ys, _, e => e
  | x :: xs, ys, k, e => by
    unfold mapO at e ⊢
    split at e
    · rename_i y zs h1 h2
      cases e
      rw [k x List.mem_cons_self _ h1, mapO_mono (fun x hx => k x (List.mem_cons_of_mem _ hx)) h2]
    · cases e
theorem reify_le {h h' : MH} (k : Le h h') : ∀ (n : Nat) (v : MV) (d : PyData), reify h n v = some d → reify h' n v = some d
  | 0, v, d, e => by cases v <;> first | exact e | cases e
  | n + 1, v, d, e => by
    have ih := reify_le k n
    cases v with
    | non => exact e
    | bl _ => exact e
    | int _ => exact e
    | str _ => exact e
    | tup xs =>
      have e : (mapO (reify h n) xs).map PyData.tuple = some d := e
      show (mapO (reify h' n) xs).map PyData.tuple = some d
      cases z : mapO (reify h n) xs with
      | none => rw [z] at e; cases e
      | some ds => rw [z] at e; rw [mapO_mono (fun x _ y q => ih x y q) z]; exact e
    | ro xs =>
      have e : (mapO (reify h n) xs).map PyData.list = some d := e
      show (mapO (reify h' n) xs).map PyData.list = some d
      cases z : mapO (reify h n) xs with
      | none => rw [z] at e; cases e
      | some ds => rw [z] at e; rw [mapO_mono (fun x _ y q => ih x y q) z]; exact e
    | ref l =>
      unfold reify at e ⊢
      cases z : h[l]? with
      | none => rw [z] at e; cases e
      | some o =>
        rw [z] at e
        cases o with
        | lst xs =>
          rw [k.lst z]
          dsimp only at e ⊢
          cases z2 : mapO (reify h n) xs with
          | none => rw [z2] at e; cases e
          | some ds => rw [z2] at e; rw [mapO_mono (fun x _ y q => ih x y q) z2]; exact e
        | dct w kvs =>
          rw [k.dct z]
          dsimp only at e ⊢
          cases z2 : mapO (reify h n) (kvs.map (·.1)) with
          | none => rw [z2] at e; cases e
          | some ds =>
            rw [z2] at e
            rw [mapO_mono (fun x _ y q => ih x y q) z2]
            cases z3 : mapO (reify h n) (kvs.map (·.2)) with
            | none => rw [z3] at e; cases e
            | some ds => rw [z3] at e; rw [mapO_mono (fun x _ y q => ih x y q) z3]; exact e
        | ins _ _ => cases e
theorem fits_ok {n : Nat} (h : n ≤ 1000000) : fits n = true := by
  unfold fits
  exact decide_eq_true (by rw [show sizeLine = 16777216 from rfl]; omega)
theorem fits_of {n : Nat} (h : n ≤ sizeLine) : fits n = true := by
  unfold fits
  exact decide_eq_true h
theorem fitsJ_ok {n : Nat} (h : n ≤ 1000000) : fitsJ n = true := by
  unfold fitsJ
  exact decide_eq_true (by omega)
theorem okDiv_ok {j : Int} (h : 0 < j) (k : j < 1073741824) : okDiv j = true := by
  unfold okDiv
  exact decide_eq_true ⟨h, k⟩
/-- data that is shown -/
def Shw (d : PyData) : Prop := d.depth ≤ 60 ∧ d.showable = true ∧ d.shown.length ≤ 1000000
theorem ev_repr {v : MV} {d : PyData} {h : MH} {Q : MV → MH → Prop} (r : reify h 60 v = some d) (s : Shw d) (q : Q (.str d.shown) h) : Ev (reprV v) h Q := by
  refine ev_of (a := .str d.shown) (h' := h) ?_ q
  unfold reprV
  rw [r]
  have : (decide (d.depth ≤ 62) && d.showable && fits d.shown.length) = true := by
    rw [decide_eq_true (by have := s.1; omega), s.2.1, fits_ok s.2.2]
    rfl
  dsimp only
  rw [if_pos this]
theorem ev_eqD {v w : MV} {d e : PyData} {h : MH} {Q : Bool → MH → Prop} (r : reify h 60 v = some d) (r2 : reify h 60 w = some e) (s : SeqAt.shaped d = true) (s2 : SeqAt.shaped e = true) (q : Q (PyData.eqv d e) h) : Ev (eqD v w) h Q := by
  refine ev_of (a := PyData.eqv d e) (h' := h) ?_ q
  unfold eqD
  rw [r, r2]
  dsimp only
  rw [if_pos (by rw [s, s2]; rfl)]
end MPV
/-! MP: operations on values met. -/
namespace MPV
open PySem hiding Env
open MP
section
variable {h : MH} {a b : Int} {s t : Str} {k j : Bool} {l : Nat} {xs ys : List MV} {x v : MV}
theorem v_add {Q : MV → MH → Prop} : Ev (binV .add (.int a) (.int b)) h Q = Q (.int (a + b)) h := rfl
theorem v_sub {Q : MV → MH → Prop} : Ev (binV .sub (.int a) (.int b)) h Q = Q (.int (a - b)) h := rfl
theorem v_mul {Q : MV → MH → Prop} : Ev (binV .mul (.int a) (.int b)) h Q = Ev (if small64 a || small64 b then M.ret (.int (a * b)) else M.stk) h Q := rfl
theorem v_fdiv {Q : MV → MH → Prop} : Ev (binV .fdiv (.int a) (.int b)) h Q = Ev (if okDiv b then M.ret (.int (a / b)) else M.stk) h Q := rfl
theorem v_mod {Q : MV → MH → Prop} : Ev (binV .mod (.int a) (.int b)) h Q = Ev (if 0 < b then M.ret (.int (a % b)) else M.stk) h Q := rfl
theorem v_pow {Q : MV → MH → Prop} : Ev (binV .pow (.int a) (.int b)) h Q = Ev (if okPow a b then M.ret (.int (a ^ b.toNat)) else M.stk) h Q := rfl
theorem v_adds {Q : MV → MH → Prop} : Ev (binV .add (.str s) (.str t)) h Q = Ev (if fits (s.length + t.length) then M.ret (.str (s ++ t)) else M.stk) h Q := rfl
theorem v_addt {Q : MV → MH → Prop} : Ev (binV .add (.tup xs) (.tup ys)) h Q = Ev (if fits (xs.length + ys.length) then M.ret (.tup (xs ++ ys)) else M.stk) h Q := rfl
theorem v_addl {m : Nat} {Q : MV → MH → Prop} (e : h[l]? = some (.lst xs)) (e2 : h[m]? = some (.lst ys)) : Ev (binV .add (.ref l) (.ref m)) h Q = Ev (if fits (xs.length + ys.length) then M.alloc (.lst (xs ++ ys)) else M.stk) h Q := by
  have : binV .add (.ref l) (.ref m) h = (if fits (xs.length + ys.length) then M.alloc (.lst (xs ++ ys)) h else .stuck) := by
    show (match h[l]?, h[m]? with
      | some (.lst xs), some (.lst ys) => if fits (xs.length + ys.length) then M.alloc (.lst (xs ++ ys)) h else .stuck
      | _, _ => .stuck) = _
    rw [e, e2]
  unfold Ev
  rw [this]
  cases fits (xs.length + ys.length) <;> rfl
theorem v_neg {Q : MV → MH → Prop} : Ev (negV (.int a)) h Q = Q (.int (-a)) h := rfl
theorem v_not {Q : MV → MH → Prop} : Ev (notV (.bl k)) h Q = Q (.bl (!k)) h := rfl
theorem v_bop {d : Bool} {r : M MV} {Q : MV → MH → Prop} : Ev (bopV d r (.bl k)) h Q = Ev (if k == d then r else M.ret (.bl k)) h Q := rfl
theorem v_lt {Q : Bool → MH → Prop} : Ev (cmpV .lt (.int a) (.int b)) h Q = Q (decide (a < b)) h := rfl
theorem v_le {Q : Bool → MH → Prop} : Ev (cmpV .le (.int a) (.int b)) h Q = Q (decide (a ≤ b)) h := rfl
theorem v_gt {Q : Bool → MH → Prop} : Ev (cmpV .gt (.int a) (.int b)) h Q = Q (decide (b < a)) h := rfl
theorem v_ge {Q : Bool → MH → Prop} : Ev (cmpV .ge (.int a) (.int b)) h Q = Q (decide (b ≤ a)) h := rfl
theorem v_les {Q : Bool → MH → Prop} : Ev (cmpV .le (.str s) (.str t)) h Q = Q (!decide (t.cps.toList < s.cps.toList)) h := rfl
theorem v_eqi {Q : Bool → MH → Prop} : Ev (cmpV .eq (.int a) (.int b)) h Q = Q (PyData.eqv (.int a) (.int b)) h := rfl
theorem v_eqs {Q : Bool → MH → Prop} : Ev (cmpV .eq (.str s) (.str t)) h Q = Q (s == t) h := rfl
theorem v_nes {Q : Bool → MH → Prop} : Ev (cmpV .ne (.str s) (.str t)) h Q = Q (!(s == t)) h := rfl
theorem v_nei {Q : Bool → MH → Prop} : Ev (cmpV .ne (.int a) (.int b)) h Q = Q (!PyData.eqv (.int a) (.int b)) h := rfl
theorem v_trub {Q : Bool → MH → Prop} : Ev (truV (.bl k)) h Q = Q k h := rfl
theorem v_int {Q : MV → MH → Prop} : Ev (biV .int [.int a]) h Q = Q (.int a) h := rfl
theorem v_abs {Q : MV → MH → Prop} : Ev (biV .abs [.int a]) h Q = Q (.int (if a < 0 then -a else a)) h := rfl
theorem v_max {Q : MV → MH → Prop} : Ev (biV .max [.int a, .int b]) h Q = Q (.int (if b > a then b else a)) h := rfl
theorem v_min {Q : MV → MH → Prop} : Ev (biV .min [.int a, .int b]) h Q = Q (.int (if b < a then b else a)) h := rfl
theorem v_divmod {Q : MV → MH → Prop} : Ev (biV .divmod [.int a, .int b]) h Q = Ev (if okDiv b then M.ret (.tup [.int (a / b), .int (a % b)]) else M.stk) h Q := rfl
theorem v_lens {Q : MV → MH → Prop} : Ev (biV .len [.str s]) h Q = Ev (if fits s.length then M.ret (.int s.length) else M.stk) h Q := by
  show Ev (fun h => if fits s.length then Res.ok (MV.int s.length) h else .stuck) h Q = _
  unfold Ev
  cases fits s.length <;> rfl
theorem v_lent {Q : MV → MH → Prop} : Ev (biV .len [.tup xs]) h Q = Q (.int xs.length) h := rfl
theorem v_lenr {Q : MV → MH → Prop} : Ev (biV .len [.ro xs]) h Q = Q (.int xs.length) h := rfl
theorem v_lenl {Q : MV → MH → Prop} (e : h[l]? = some (.lst xs)) : Ev (biV .len [.ref l]) h Q = Q (.int xs.length) h := by
  have : biV .len [.ref l] h = .ok (.int xs.length) h := by
    show (match h[l]? with
      | some (.lst xs) => Res.ok (MV.int xs.length) h
      | some (.dct _ kvs) => Res.ok (MV.int kvs.length) h
      | _ => .stuck) = _
    rw [e]
  unfold Ev
  rw [this]
theorem v_idxl {i : Int} {Q : MV → MH → Prop} (e : h[l]? = some (.lst xs)) (e2 : L2.atI xs i = some x) : Ev (idxV (.ref l) (.int i)) h Q = Q x h := by
  have : idxV (.ref l) (.int i) h = .ok x h := by
    show (match (seqOf h (.ref l)).bind fun xs => L2.atI xs i with
      | some x => Res.ok x h
      | none => .stuck) = _
    unfold seqOf
    dsimp only
    rw [e]
    show (match L2.atI xs i with
      | some x => Res.ok x h
      | none => .stuck) = _
    rw [e2]
  unfold Ev
  rw [this]
theorem v_idxt {i : Int} {Q : MV → MH → Prop} (e2 : L2.atI xs i = some x) : Ev (idxV (.tup xs) (.int i)) h Q = Q x h := by
  have : idxV (.tup xs) (.int i) h = .ok x h := by
    show (match L2.atI xs i with
      | some x => Res.ok x h
      | none => .stuck) = _
    rw [e2]
  unfold Ev
  rw [this]
theorem v_idxr {i : Int} {Q : MV → MH → Prop} (e2 : L2.atI xs i = some x) : Ev (idxV (.ro xs) (.int i)) h Q = Q x h := by
  have : idxV (.ro xs) (.int i) h = .ok x h := by
    show (match L2.atI xs i with
      | some x => Res.ok x h
      | none => .stuck) = _
    rw [e2]
  unfold Ev
  rw [this]
theorem at0 {α : Type} {x : α} {xs : List α} : L2.atI (x :: xs) 0 = some x := by
  unfold L2.atI L2.ixN
  rw [if_pos (Int.le_refl 0), if_pos (by simp)]
  rfl
theorem at1 {α : Type} {x y : α} {xs : List α} : L2.atI (x :: y :: xs) 1 = some y := by
  unfold L2.atI L2.ixN
  rw [if_pos (by decide), if_pos (by simp; omega)]
  rfl
theorem at2 {α : Type} {x y z : α} {xs : List α} : L2.atI (x :: y :: z :: xs) 2 = some z := by
  unfold L2.atI L2.ixN
  rw [if_pos (by decide), if_pos (by simp; omega)]
  rfl
theorem v_idxl0 {Q : MV → MH → Prop} (e : h[l]? = some (.lst (x :: xs))) : Ev (idxV (.ref l) (.int 0)) h Q = Q x h := v_idxl e at0
theorem v_idxl1 {Q : MV → MH → Prop} (e : h[l]? = some (.lst (x :: v :: xs))) : Ev (idxV (.ref l) (.int 1)) h Q = Q v h := v_idxl e at1
theorem v_idxt0 {Q : MV → MH → Prop} : Ev (idxV (.tup (x :: xs)) (.int 0)) h Q = Q x h := v_idxt at0
theorem v_idxt1 {Q : MV → MH → Prop} : Ev (idxV (.tup (x :: v :: xs)) (.int 1)) h Q = Q v h := v_idxt at1
theorem v_idxt2 {y : MV} {Q : MV → MH → Prop} : Ev (idxV (.tup (x :: v :: y :: xs)) (.int 2)) h Q = Q y h := v_idxt at2
theorem v_set {i : Int} {n : Nat} {Q : Unit → MH → Prop} (e : h[l]? = some (.lst xs)) (e2 : L2.ixN xs.length i = some n) : Ev (setV (.ref l) (.int i) v) h Q = Q () (h.set l (.lst (xs.set n v))) := by
  have : setV (.ref l) (.int i) v h = .ok () (h.set l (.lst (xs.set n v))) := by
    show (match h[l]? with
      | some (.lst xs) => (match L2.ixN xs.length i with
        | some j => Res.ok () (h.set l (.lst (xs.set j v)))
        | none => .stuck)
      | _ => .stuck) = _
    rw [e]
    dsimp only
    rw [e2]
  unfold Ev
  rw [this]
theorem v_set0 {Q : Unit → MH → Prop} (e : h[l]? = some (.lst (x :: xs))) : Ev (setV (.ref l) (.int 0) v) h Q = Q () (h.set l (.lst (v :: xs))) := by
  rw [v_set e (n := 0)]
  · rfl
  · unfold L2.ixN
    rw [if_pos (Int.le_refl 0), if_pos (by simp)]
    rfl
theorem v_set1 {y : MV} {Q : Unit → MH → Prop} (e : h[l]? = some (.lst (x :: y :: xs))) : Ev (setV (.ref l) (.int 1) v) h Q = Q () (h.set l (.lst (x :: v :: xs))) := by
  rw [v_set e (n := 1)]
  · rfl
  · unfold L2.ixN
    rw [if_pos (by decide), if_pos (by simp; omega)]
    rfl
theorem v_tup {Q : MV → MH → Prop} : Ev (tupV xs) h Q = Ev (if fits xs.length then M.ret (.tup xs) else M.stk) h Q := rfl
theorem v_lst {Q : MV → MH → Prop} : Ev (lstV xs) h Q = Ev (if fits xs.length then M.alloc (.lst xs) else M.stk) h Q := rfl
theorem v_dct0 {Q : MV → MH → Prop} : Ev (dctV []) h Q = Q (.ref h.length) (h ++ [.dct true []]) := rfl
theorem v_dct1 {Q : MV → MH → Prop} : Ev (dctV [.str s, v]) h Q = Q (.ref h.length) (h ++ [.dct true [(.str s, v)]]) := rfl
theorem v_isi1 {t : Ty} {Q : Bool → MH → Prop} : Ev (isisV x [t]) h Q = Ev (isiV x t) h Q := rfl
theorem v_isK {Q : Bool → MH → Prop} : Ev (isKV x v) h Q = Q (match x, v with
  | .non, .non => true
  | .bl a, .bl b => a == b
  | _, _ => false) h := by
  unfold isKV
  cases x <;> cases v <;> rfl
theorem v_itl {Q : Itv → MH → Prop} (e : h[l]? = some (.lst xs)) : Ev (itV (.ref l)) h Q = Q (.il l) h := by
  have : itV (.ref l) h = .ok (.il l) h := by
    show ((chkL l).bnd fun _ => M.ret (Itv.il l)) h = _
    have z : chkL l h = .ok () h := by
      unfold chkL
      rw [e]
    unfold M.bnd
    rw [z]
    rfl
  unfold Ev
  rw [this]
theorem v_its {Q : Itv → MH → Prop} : Ev (itV (.str s)) h Q = Q (.vs (s.cps.toList.map fun c => MV.str ⟨#[c]⟩)) h := rfl
theorem v_itt {Q : Itv → MH → Prop} : Ev (itV (.tup xs)) h Q = Q (.vs xs) h := rfl
theorem v_itr {Q : Itv → MH → Prop} : Ev (itV (.ro xs)) h Q = Q (.vs xs) h := rfl
theorem v_rg1 {Q : Itv → MH → Prop} : Ev (rg1V (.int a)) h Q = Ev (if smallR a then M.ret (.vs (rangeItems 0 a)) else M.stk) h Q := rfl
theorem v_rg2 {Q : Itv → MH → Prop} : Ev (rg2V (.int a) (.int b)) h Q = Ev (if smallR a && smallR b then M.ret (.vs (rangeItems a b)) else M.stk) h Q := rfl
theorem v_intO {Q : Option Int → MH → Prop} : Ev (intO (.int a)) h Q = Q (some a) h := rfl
theorem v_rcvj {Q : Unit → MH → Prop} : Ev (rcvV .join (.str s)) h Q = Q () h := rfl
theorem v_join {zs : List Str} {Q : MV → MH → Prop} (e : h[l]? = some (.lst xs)) (e2 : allStrs xs = some zs) (e3 : joined s zs ≤ 1000000) : Ev (mtV .join (.str s) [.ref l]) h Q = Q (.str (Txt.join s zs)) h := by
  have : mtV .join (.str s) [.ref l] h = .ok (.str (Txt.join s zs)) h := by
    show ((lstOf (.ref l)).bnd fun xs => (M.opt (allStrs xs)).bnd fun ys => (M.chk (fitsJ (joined s ys))).bnd fun _ => M.ret (MV.str (Txt.join s ys))) h = _
    have z : lstOf (.ref l) h = .ok xs h := by
      show (match h[l]? with
        | some (.lst xs) => Res.ok xs h
        | _ => .stuck) = _
      rw [e]
    unfold M.bnd
    rw [z]
    dsimp only
    rw [e2]
    dsimp only [M.opt, M.ret]
    rw [fitsJ_ok e3]
    rfl
  unfold Ev
  rw [this]
theorem v_allb {bs : List Bool} {Q : MV → MH → Prop} (e : h[l]? = some (.lst xs)) (e2 : allBls xs = some bs) : Ev (biV .all [.ref l]) h Q = Q (.bl (bs.all id)) h := by
  have : biV .all [.ref l] h = .ok (.bl (bs.all id)) h := by
    show ((lstOf (.ref l)).bnd fun xs => (M.opt (allBls xs)).bnd fun bs => M.ret (MV.bl (bs.all id))) h = _
    have z : lstOf (.ref l) h = .ok xs h := by
      show (match h[l]? with
        | some (.lst xs) => Res.ok xs h
        | _ => .stuck) = _
      rw [e]
    unfold M.bnd
    rw [z]
    dsimp only
    rw [e2]
    rfl
  unfold Ev
  rw [this]
theorem small64_ok {i : Int} (h : -(2 ^ 64) < i) (k : i < 2 ^ 64) : small64 i = true := by
  unfold small64
  exact decide_eq_true ⟨h, k⟩
theorem small63_ok {i : Int} (h : -(2 ^ 63) ≤ i) (k : i < 2 ^ 63) : small63 i = true := by
  unfold small63
  exact decide_eq_true ⟨h, k⟩
theorem smallR_ok {i : Int} (h : -(2 ^ 62) ≤ i) (k : i < 2 ^ 62) : smallR i = true := by
  unfold smallR
  exact decide_eq_true ⟨h, k⟩
theorem okPow_ok {a b : Int} (h : 0 ≤ b) (k : b ≤ 1000) (m : a.natAbs < 1000) : okPow a b = true := by
  unfold okPow
  exact decide_eq_true ⟨h, by omega, by omega⟩
end
end MPV
/-! MP: texts; the pot of the laws. -/
namespace MPV
open PySem hiding Env
open MP
theorem b00 : (false == false) = true := rfl
theorem b01 : (false == true) = false := rfl
theorem b10 : (true == false) = false := rfl
theorem b11 : (true == true) = true := rfl
/-! ### texts by their code points -/
theorem cps_app (a b : Str) : (a ++ b).cps.toList = a.cps.toList ++ b.cps.toList := by
  show (a.cps ++ b.cps).toList = _
  exact Array.toList_append
theorem cps_join : ∀ zs : List Str, (Txt.join (Str.ofString "") zs).cps.toList = (zs.map fun z => z.cps.toList).flatten := by
  intro zs
  have key : ∀ zs : List Str, (Str.join (Str.ofString "") zs).cps.toList = (zs.map fun z => z.cps.toList).flatten := by
    intro zs
    induction zs with
    | nil => rfl
    | cons x r ih =>
      cases r with
      | nil => simp [Str.join]
      | cons y r =>
        have e : Str.join (Str.ofString "") (x :: y :: r) = x ++ Str.ofString "" ++ Str.join (Str.ofString "") (y :: r) := rfl
        rw [e, cps_app, cps_app, ih]
        have z : (Str.ofString "").cps.toList = [] := by decide +kernel
        rw [z]
        simp
  show (Builtin.Str.glued (Str.ofString "") zs).cps.toList = _
  rw [StrLaws.glued_eq_join]
  exact key zs
theorem len_cps (s : Str) : s.length = s.cps.toList.length := by
  show s.cps.size = _
  simp
/-- a short text of ASCII signs -/
def Short (t : Str) : Prop := t.length ≤ 8 ∧ ∀ c ∈ t.cps.toList, c < 128
theorem short_join {zs : List Str} (h : ∀ z ∈ zs, z.length = 1 ∧ ∀ c ∈ z.cps.toList, c < 128) (n : zs.length ≤ 8) : Short (Txt.join (Str.ofString "") zs) := by
  have e : ((zs.map fun z => z.cps.toList).flatten).length = zs.length := by
    clear n
    induction zs with
    | nil => rfl
    | cons x r ih =>
      have h1 := (h x List.mem_cons_self).1
      rw [len_cps] at h1
      simp [h1, ih fun z hz => h z (List.mem_cons_of_mem _ hz)]
      omega
  refine ⟨by rw [len_cps, cps_join, e]; exact n, fun c hc => ?_⟩
  rw [cps_join] at hc
  obtain ⟨l, hl, hc⟩ := List.mem_flatten.mp hc
  obtain ⟨z, hz, rfl⟩ := List.mem_map.mp hl
  exact (h z hz).2 c hc
theorem joined_ones {zs : List Str} (h : ∀ z ∈ zs, z.length = 1) : joined (Str.ofString "") zs = zs.length := by
  unfold joined
  have z : (Str.ofString "").length = 0 := by decide +kernel
  rw [z, Nat.mul_zero, Nat.add_zero]
  induction zs with
  | nil => rfl
  | cons x r ih =>
    rw [List.map_cons, List.sum_cons, h x List.mem_cons_self, ih fun z hz => h z (List.mem_cons_of_mem _ hz), List.length_cons]
    omega
/-! ### the pot -/
def PotAt (h : MH) (l : Nat) : Prop := ∃ a b : Int, h[l]? = some (.lst [.int a, .int b])
/-- all but the pot at l stays -/
structure Kp (l : Nat) (h h' : MH) : Prop where
  le : Le (hid l h) (hid l h')
  pot : PotAt h' l
theorem Kp.refl {l : Nat} {h : MH} (p : PotAt h l) : Kp l h h := ⟨Le.refl _, p⟩
theorem Kp.trans {l : Nat} {a b c : MH} (h : Kp l a b) (k : Kp l b c) : Kp l a c := ⟨h.le.trans k.le, k.pot⟩
theorem PotAt.lt {h : MH} {l : Nat} (p : PotAt h l) : l < h.length := by
  obtain ⟨a, b, e⟩ := p
  exact (List.getElem?_eq_some_iff.mp e).1
theorem Kp.of_set {l : Nat} {h : MH} (p : PotAt h l) (a b : Int) : Kp l h (h.set l (.lst [.int a, .int b])) :=
  ⟨by rw [hid_set]; exact Le.refl _, a, b, List.getElem?_set_self p.lt⟩
theorem Kp.of_le {l : Nat} {h h' : MH} (p : PotAt h l) (k : Le h h') : Kp l h h' := ⟨hid_mono k, let ⟨a, b, e⟩ := p; ⟨a, b, k.lst e⟩⟩
theorem hid_get {l m : Nat} {h : MH} (hm : m ≠ l) : (hid l h)[m]? = h[m]? := by
  unfold hid
  rw [List.getElem?_set_ne (Ne.symm hm)]
theorem Kp.lst {l m : Nat} {h h' : MH} (k : Kp l h h') (hm : m ≠ l) {xs : List MV} (e : h[m]? = some (.lst xs)) : h'[m]? = some (.lst xs) := by
  have := k.le.lst (i := m) (by rw [hid_get hm]; exact e)
  rw [hid_get hm] at this
  exact this
theorem app_self {h : MH} {o : MO} : (h ++ [o])[h.length]? = some o := by
  rw [List.getElem?_append_right (Nat.le_refl _), Nat.sub_self]
  rfl
/-- a random draw's spec -/
def DrawOk (F : Nat → List MV → M MV) (f : Nat) : Prop := ∀ (l : Nat) (size : Int) (h : MH) (Q : MV → MH → Prop), PotAt h l → 0 < size → size < 1073741824 → (∀ (d : Int) (h' : MH), 0 ≤ d → d < size → Kp l h h' → Q (.int d) h') → Ev (F f [.ref l, .int size]) h Q
def PickOk (F : Nat → List MV → M MV) (f : Nat) : Prop := ∀ (l m : Nat) (xs : List MV) (h : MH) (Q : MV → MH → Prop), PotAt h l → m ≠ l → h[m]? = some (.lst xs) → 0 < xs.length → xs.length < 1000 → (∀ (x : MV) (h' : MH), x ∈ xs → Kp l h h' → Q x h') → Ev (F f [.ref l, .ref m]) h Q
end MPV
/-! MP: constant expressions, by their data. -/
namespace MPV
open PySem hiding Env
open MP
def cL : MV → Option PyData
  | .non => some .none
  | .bl b => some (.bool b)
  | .int i => some (.int i)
  | .str s => some (.str s)
  | _ => none
mutual
def cD : E → Option PyData
  | .lit v => cL v
  | .tup es => match cDs es with
    | some ds => if ds.length ≤ 1000 then some (.tuple ds) else none
    | none => none
  | .lst es => match cDs es with
    | some ds => if ds.length ≤ 1000 then some (.list ds) else none
    | none => none
  | .dct es => match es with
    | .nil => some (.dict [])
    | .cons (.lit (.str k)) (.cons a .nil) => match cD a with
      | some d => some (.dict [(.str k, d)])
      | none => none
    | _ => none
  | _ => none
def cDs : EL → Option (List PyData)
  | .nil => some []
  | .cons e r => match cD e, cDs r with
    | some d, some ds => some (d :: ds)
    | _, _ => none
end
/-- the value is the data, at every fuel that reaches -/
def RdA (h : MH) (v : MV) (d : PyData) : Prop := ∀ n, d.depth ≤ n → reify h n v = some d
def RdL (h : MH) (vs : List MV) (ds : List PyData) : Prop := ∀ n, PyData.depthAll ds ≤ n → mapO (reify h n) vs = some ds
theorem RdA.le {h h' : MH} (k : Le h h') {v : MV} {d : PyData} (r : RdA h v d) : RdA h' v d := fun n hn => reify_le k n v d (r n hn)
theorem RdL.le {h h' : MH} (k : Le h h') {v : List MV} {d : List PyData} (r : RdL h v d) : RdL h' v d := fun n hn => mapO_mono (fun x _ y q => reify_le k n x y q) (r n hn)
theorem RdL.nil {h : MH} : RdL h [] [] := fun _ _ => rfl
theorem RdL.cons {h : MH} {v : MV} {d : PyData} {vs : List MV} {ds : List PyData} (r : RdA h v d) (t : RdL h vs ds) : RdL h (v :: vs) (d :: ds) := fun n hn => by
  have e : PyData.depthAll (d :: ds) = max d.depth (PyData.depthAll ds) := rfl
  rw [e] at hn
  unfold mapO
  rw [r n (by omega), t n (by omega)]
theorem RdL.length {h : MH} : ∀ {vs : List MV} {ds : List PyData}, RdL h vs ds → vs.length = ds.length := fun {vs ds} r => by
  have e := r _ (Nat.le_refl _)
  clear r
  revert e
  generalize PyData.depthAll ds = n
  intro e
  induction vs generalizing ds with
  | nil => cases e; rfl
  | cons x xs ih =>
    unfold mapO at e
    split at e
    · rename_i h1 h2
      cases e
      rw [List.length_cons, List.length_cons, ih h2]
    · cases e
theorem rd_lit {h : MH} {v : MV} {d : PyData} (e : cL v = some d) : RdA h v d := fun n _ => by
  cases v <;> first
    | cases e
    | skip
  all_goals (cases n <;> rfl)
theorem rd_tup {h : MH} {vs : List MV} {ds : List PyData} (r : RdL h vs ds) : RdA h (.tup vs) (.tuple ds) := fun n hn => by
  have e : PyData.depth (.tuple ds) = PyData.depthAll ds + 1 := rfl
  rw [e] at hn
  cases n with
  | zero => omega
  | succ n =>
    show (mapO (reify h n) vs).map PyData.tuple = _
    rw [r n (by omega)]
    rfl
theorem rd_lst {h : MH} {m : Nat} {vs : List MV} {ds : List PyData} (e : h[m]? = some (.lst vs)) (r : RdL h vs ds) : RdA h (.ref m) (.list ds) := fun n hn => by
  have z : PyData.depth (.list ds) = PyData.depthAll ds + 1 := rfl
  rw [z] at hn
  cases n with
  | zero => omega
  | succ n =>
    unfold reify
    rw [e]
    dsimp only
    rw [r n (by omega)]
    rfl
theorem rd_dct0 {h : MH} {m : Nat} (e : h[m]? = some (.dct true [])) : RdA h (.ref m) (.dict []) := fun n hn => by
  cases n with
  | zero =>
    have : PyData.depth (.dict []) = 1 := rfl
    omega
  | succ n =>
    unfold reify
    rw [e]
    rfl
theorem rd_dct1 {h : MH} {m : Nat} {k : Str} {v : MV} {d : PyData} (e : h[m]? = some (.dct true [(.str k, v)])) (r : RdA h v d) : RdA h (.ref m) (.dict [(.str k, d)]) := fun n hn => by
  have z : PyData.depth (.dict [(.str k, d)]) = max (max 0 d.depth) 0 + 1 := rfl
  rw [z] at hn
  cases n with
  | zero => omega
  | succ n =>
    unfold reify
    rw [e]
    dsimp only [List.map]
    have e1 : reify h n (.str k) = some (.str k) := by cases n <;> rfl
    unfold mapO mapO
    rw [r n (by omega), e1]
    rfl
/-- the places below n hidden -/
def hidN (n : Nat) (h : MH) : MH := h.mapIdx fun i o => if i < n then .ins 0 [] else o
theorem hidN_get {n : Nat} {h : MH} {i : Nat} (hi : n ≤ i) : (hidN n h)[i]? = h[i]? := by
  unfold hidN
  rw [List.getElem?_mapIdx]
  cases h[i]? with
  | none => rfl
  | some o =>
    show some (if i < n then MO.ins 0 [] else o) = some o
    rw [if_neg (by omega)]
theorem hidN_old {n : Nat} {h : MH} {i : Nat} {o : MO} (hi : i < n) (e : (hidN n h)[i]? = some o) : o = .ins 0 [] := by
  unfold hidN at e
  rw [List.getElem?_mapIdx] at e
  cases z : h[i]? with
  | none => rw [z] at e; cases e
  | some u =>
    rw [z] at e
    have e : some (if i < n then MO.ins 0 [] else u) = some o := e
    rw [if_pos hi] at e
    cases e
    rfl
theorem le_hidN {n : Nat} {h h' : MH} (k : ∀ (i : Nat) (o : MO), n ≤ i → h[i]? = some o → (match o with
    | .ins _ _ => True
    | _ => h'[i]? = some o)) : Le (hidN n h) h' := fun i o e => by
  by_cases hi : i < n
  · rw [hidN_old hi e]
    trivial
  · rw [hidN_get (by omega)] at e
    exact k i o (by omega) e
theorem hidN_mono {n : Nat} {h h' : MH} (k : Le h h') : Le (hidN n h) (hidN n h') := le_hidN fun i o hi e => by
  have := k i o e
  cases o with
  | ins _ _ => trivial
  | lst xs => rw [hidN_get hi]; exact this
  | dct w xs => rw [hidN_get hi]; exact this
theorem hidN_anti {n m : Nat} {h : MH} (hm : n ≤ m) : Le (hidN m h) (hidN n h) := le_hidN fun i o hi e => by
  cases o with
  | ins _ _ => trivial
  | lst xs => rw [hidN_get (by omega)]; exact e
  | dct w xs => rw [hidN_get (by omega)]; exact e
theorem hidN_hid {n l : Nat} {h : MH} (hl : l < n) : Le (hidN n h) (hid l h) := le_hidN fun i o hi e => by
  have : (hid l h)[i]? = some o := by rw [hid_get (by omega)]; exact e
  cases o with
  | ins _ _ => trivial
  | lst xs => exact this
  | dct w xs => exact this
theorem app_hid {n : Nat} {h : MH} {o : MO} (hn : n ≤ h.length) : (hidN n (h ++ [o]))[h.length]? = some o := by rw [hidN_get hn]; exact app_self
section
variable {F : Nat → List MV → M MV} {W : Nat}
def CE (F : Nat → List MV → M MV) (W : Nat) (e : E) : Prop := ∀ (d : PyData) (ρ : Env) (h : MH) (Q : MV → MH → Prop), cD e = some d → (∀ v h', Le h h' → h.length ≤ h'.length → RdA (hidN h.length h') v d → Q v h') → Ev (evE F W e ρ) h Q
def CEL (F : Nat → List MV → M MV) (W : Nat) (e : EL) : Prop := (∀ (ds : List PyData) (ρ : Env) (h : MH) (Q : List MV → MH → Prop), cDs e = some ds → (∀ vs h', Le h h' → h.length ≤ h'.length → RdL (hidN h.length h') vs ds → Q vs h') → Ev (evEL F W e ρ) h Q) ∧
  ∀ k a, e = .cons (.lit (.str k)) (.cons a .nil) → CE F W a
theorem ce_no {e : E} (h : cD e = none) : CE F W e := fun d ρ h' Q z _ => by rw [h] at z; cases z
theorem ce_lit (v : MV) : CE F W (.lit v) := fun d ρ h Q e k => k v h (Le.refl h) (Nat.le_refl _) (rd_lit e)
theorem ce_tup (es : EL) (q : CEL F W es) : CE F W (.tup es) := fun d ρ h Q e k => by
  have e : (match cDs es with
    | some ds => if ds.length ≤ 1000 then some (PyData.tuple ds) else none
    | none => none) = some d := e
  cases z : cDs es with
  | none => rw [z] at e; cases e
  | some ds =>
    rw [z] at e
    dsimp only at e
    split at e
    · rename_i hl
      cases e
      rw [e_tup, ev_bnd]
      refine q.1 ds ρ h _ z fun vs h' l hn r => ?_
      rw [v_tup, fits_ok (by rw [r.length]; omega)]
      exact k _ _ l hn (rd_tup r)
    · cases e
theorem ce_lst (es : EL) (q : CEL F W es) : CE F W (.lst es) := fun d ρ h Q e k => by
  have e : (match cDs es with
    | some ds => if ds.length ≤ 1000 then some (PyData.list ds) else none
    | none => none) = some d := e
  cases z : cDs es with
  | none => rw [z] at e; cases e
  | some ds =>
    rw [z] at e
    dsimp only at e
    split at e
    · rename_i hl
      cases e
      rw [e_lst, ev_bnd]
      refine q.1 ds ρ h _ z fun vs h' l hn r => ?_
      rw [v_lst, fits_ok (by rw [r.length]; omega)]
      have l2 := Le.app h' [.lst vs]
      exact k _ _ (l.trans l2) (by simp; omega) (rd_lst (app_hid hn) (r.le (hidN_mono l2)))
    · cases e
theorem ce_dct (es : EL) (q : CEL F W es) : CE F W (.dct es) := fun d ρ h Q e k => by
  unfold cD at e
  split at e
  · cases e
    have l2 := Le.app h [.dct true []]
    exact k _ _ l2 (by simp) (rd_dct0 (app_hid (Nat.le_refl _)))
  · rename_i kk a
    split at e
    · rename_i d' hd
      cases e
      show Ev ((evEL F W (.cons (.lit (.str kk)) (.cons a .nil)) ρ).bnd dctV) h Q
      simp only [el_cons, el_nil, e_lit, ev_bnd, ev_ret]
      refine q.2 kk a rfl d' ρ h _ hd fun v h' l hn r => ?_
      rw [v_dct1]
      have l2 := Le.app h' [.dct true [(.str kk, v)]]
      exact k _ _ (l.trans l2) (by simp; omega) (rd_dct1 (app_hid hn) (r.le (hidN_mono l2)))
    · cases e
  · cases e
theorem cel_nil : CEL F W .nil := ⟨fun ds ρ h Q e k => by
  cases e
  exact k [] h (Le.refl h) (Nat.le_refl _) RdL.nil, fun k a e => by cases e⟩
theorem cel_cons (a : E) (r : EL) (qa : CE F W a) (qr : CEL F W r) (q2 : ∀ b, r = .cons b .nil → CE F W b) : CEL F W (.cons a r) := ⟨fun ds ρ h Q e k => by
  have e : (match cD a, cDs r with
    | some d, some ds => some (d :: ds)
    | _, _ => none) = some ds := e
  cases z1 : cD a with
  | none => rw [z1] at e; cases e
  | some d =>
    cases z2 : cDs r with
    | none => rw [z1, z2] at e; cases e
    | some ds' =>
      rw [z1, z2] at e
      cases e
      rw [el_cons, ev_bnd]
      refine qa d ρ h _ z1 fun v h1 l1 n1 r1 => ?_
      rw [ev_bnd]
      refine qr.1 ds' ρ h1 _ z2 fun vs h2 l2 n2 r2 => ?_
      exact k _ _ (l1.trans l2) (Nat.le_trans n1 n2) (RdL.cons (r1.le (hidN_mono l2)) (r2.le (hidN_anti n1))), fun k b e => by
  cases e
  exact q2 b rfl⟩
/-- the head of a list of terms too -/
def CEL2 (F : Nat → List MV → M MV) (W : Nat) (e : EL) : Prop := CEL F W e ∧ ∀ b r, e = .cons b r → CE F W b
theorem ce_all : ∀ e : E, CE F W e :=
  E.rec (motive_1 := CE F W) (motive_2 := CEL2 F W) (motive_3 := fun _ => True) (motive_4 := fun _ => True) (motive_5 := fun _ => True) (motive_6 := fun _ => True)
    (fun _ => ce_no rfl) ce_lit (fun _ _ => ce_no rfl) (fun es q => ce_tup es q.1) (fun es q => ce_lst es q.1) (fun es q => ce_dct es q.1) (fun _ _ _ _ _ => ce_no rfl) (fun _ _ => ce_no rfl) (fun _ _ _ _ _ => ce_no rfl) (fun _ _ _ _ _ _ _ _ => ce_no rfl) (fun _ _ _ _ => ce_no rfl) (fun _ _ _ => ce_no rfl)
    (fun _ _ => ce_no rfl) (fun _ _ _ _ _ _ => ce_no rfl) (fun _ _ _ => ce_no rfl) (fun _ _ _ _ _ _ => ce_no rfl) (fun _ _ _ => ce_no rfl) (fun _ _ _ => ce_no rfl) (fun _ _ _ _ _ => ce_no rfl) (fun _ _ _ _ => ce_no rfl) (fun _ _ _ _ _ _ => ce_no rfl) (fun _ _ _ _ _ _ _ _ _ => ce_no rfl)
    ⟨cel_nil, fun _ _ e => by cases e⟩ (fun a r qa qr => ⟨cel_cons a r qa qr.1 fun b e => qr.2 b _ e, fun b t e => by cases e; exact qa⟩) trivial (fun _ _ => trivial) (fun _ => trivial) (fun _ _ => trivial) (fun _ _ _ _ => trivial) trivial (fun _ _ _ _ => trivial) (fun _ _ => trivial) (fun _ _ => trivial) (fun _ _ _ _ => trivial)
/-- a list of constants -/
theorem cels (es : EL) {ds : List PyData} {ρ : Env} {h : MH} {Q : List MV → MH → Prop} (e : cDs es = some ds) (k : ∀ vs h', Le h h' → h.length ≤ h'.length → RdL (hidN h.length h') vs ds → Q vs h') : Ev (evEL F W es ρ) h Q := by
  have key : ∀ es : EL, CEL F W es := by
    intro es
    refine ⟨fun ds ρ h Q e k => ?_, fun _ a _ => ce_all a⟩
    have all : ∀ (es : EL) (ds : List PyData) (ρ : Env) (h : MH) (Q : List MV → MH → Prop), cDs es = some ds → (∀ vs h', Le h h' → h.length ≤ h'.length → RdL (hidN h.length h') vs ds → Q vs h') → Ev (evEL F W es ρ) h Q := by
      intro es
      refine EL.rec (motive_1 := fun _ => True) (motive_2 := fun es => ∀ (ds : List PyData) (ρ : Env) (h : MH) (Q : List MV → MH → Prop), cDs es = some ds → (∀ vs h', Le h h' → h.length ≤ h'.length → RdL (hidN h.length h') vs ds → Q vs h') → Ev (evEL F W es ρ) h Q) (motive_3 := fun _ => True) (motive_4 := fun _ => True) (motive_5 := fun _ => True) (motive_6 := fun _ => True)
        ?_ ?_ ?_ ?_ ?_ ?_ ?_ ?_ ?_ ?_ ?_ ?_ ?_ ?_ ?_ ?_ ?_ ?_ ?_ ?_ ?_ ?_ ?_ ?_ ?_ ?_ ?_ ?_ ?_ ?_ ?_ ?_ ?_ ?_ es
      all_goals try (intros; trivial)
      · exact cel_nil.1
      · intro a r _ ih
        exact (cel_cons a r (ce_all a) ⟨ih, fun _ a _ => ce_all a⟩ fun b _ => ce_all b).1
    exact all es ds ρ h Q e k
  exact (key es).1 ds ρ h Q e k
end
end MPV
/-! law k11: the plain part. -/
namespace MPV
open PySem hiding Env
open MP LawT
local macro_rules | `(tactic| walk_at "mp") => `(tactic| try simp only [sl_cons, sl_nil, s_asg, s_par, s_ex, s_ret, s_retN, s_ifs, s_fors, s_whl, s_pas, t_bop, t_not, t_var, t_cmp, t_chain, t_isK, t_call, t_bi, t_isi, t_idx, bt_one, bt_cons, e_var, e_lit, e_glo, e_tup, e_lst, e_dct, e_bin, e_neg, e_cmp, e_chain, e_isK, e_bop, e_not, e_ife, e_call, e_callk, e_bi, e_isi, e_mth, e_idx, e_slc, e_lc, el_nil, el_cons, eb_one, eb_cons, eo_no, eo_so, ec_no, ec_so, g_nm, g_tp, g_sb, gl_nil, gl_cons, i_vl, i_rg1, i_rg2, after_nx, after_rt, ret_rt, ret_nx, ev_bnd, ev_ret, ev_stk, ev_alloc, ev_ite, v_add, v_sub, v_mul, v_fdiv, v_mod, v_pow, v_adds, v_addt, v_neg, v_not, v_bop, v_lt, v_le, v_gt, v_ge, v_les, v_trub, v_int, v_abs, v_max, v_min, v_divmod, v_lens, v_lent, v_lenr, v_idxt0, v_idxt1, v_idxt2, v_tup, v_lst, v_dct0, v_dct1, v_isi1, v_its, v_itt, v_itr, v_rg1, v_rg2, v_intO, v_rcvj, List.getElem?_cons_zero, List.getElem?_cons_succ, List.set_cons_zero, List.set_cons_succ, if_true, if_false, Bool.false_eq_true, decide_eq_true_eq, b00, b01, b10, b11, Bool.not_true, Bool.not_false])
theorem draw_ok {W n : Nat} : DrawOk (callF T W (n + 1)) 5 := by
  intro l size h Q hp h0 h1 k
  have hl := hp.lt
  obtain ⟨a, b, hp'⟩ := hp
  have hs : ∀ o, (h.set l o)[l]? = some o := fun o => List.getElem?_set_self hl
  have s1 : small64 44021 = true := small64_ok (by decide) (by decide)
  have o1 : okDiv 19 = true := okDiv_ok (by decide) (by decide)
  refine ev_call (df := d__law_draw) rfl rfl ?_
  show Ev (evSL _ _ d__law_draw.body [some (.ref l), some (.int size), none]) h (retQ Q)
  unfold d__law_draw
  dsimp only
  walk_at "mp"
  rw [v_idxl0 hp']
  walk_at "mp"
  by_cases ha : 0 < a
  · simp only [ha]
    walk_at "mp"
    rw [v_idxl0 hp']
    walk_at "mp"
    rw [okDiv_ok h0 h1]
    walk_at "mp"
    rw [v_set0 hp']
    walk_at "mp"
    exact k _ _ (Int.emod_nonneg _ (by omega)) (Int.emod_lt_of_pos _ h0) (Kp.of_set ⟨a, b, hp'⟩ _ _)
  · simp only [ha]
    walk_at "mp"
    rw [v_idxl1 hp']
    walk_at "mp"
    simp only [s1, Bool.or_true]
    walk_at "mp"
    rw [if_pos (by decide : (0 : Int) < 2147483563)]
    rw [v_set1 hp']
    walk_at "mp"
    rw [v_idxl1 (hs _)]
    walk_at "mp"
    rw [v_idxl1 (hs _)]
    walk_at "mp"
    have s2 : small64 ((b * 44021 + 20143) % 2147483563) = true := small64_ok (by omega) (by omega)
    rw [s2]
    walk_at "mp"
    rw [if_pos (by decide : (0 : Int) < 2147483549), o1]
    walk_at "mp"
    rw [if_pos h0]
    exact k _ _ (Int.emod_nonneg _ (by omega)) (Int.emod_lt_of_pos _ h0) (Kp.of_set ⟨a, b, hp'⟩ _ _)
theorem pick_ok {W n : Nat} : PickOk (callF T W (n + 2)) 6 := by
  intro l m xs h Q hp hm hx h0 h1 k
  refine ev_call (df := d__law_pick) rfl rfl ?_
  show Ev (evSL _ _ d__law_pick.body [some (.ref l), some (.ref m)]) h (retQ Q)
  unfold d__law_pick
  dsimp only
  walk_at "mp"
  rw [v_lenl hx]
  refine draw_ok l _ h _ hp (by omega) (by omega) fun d h' d0 d1 kp => ?_
  obtain ⟨j, rfl⟩ := Int.eq_ofNat_of_zero_le d0
  have hj : j < xs.length := by omega
  rw [v_idxl (kp.lst hm hx) (L2.atI_nat (List.getElem?_eq_getElem hj))]
  exact k _ _ (List.getElem_mem hj) kp
theorem v_slcl {m : Nat} {lo hi : Option Int} {xs : List MV} {h : MH} {Q : MV → MH → Prop} (e : h[m]? = some (.lst xs)) : Ev (slcV (.ref m) lo hi) h Q = Q (.ref h.length) (h ++ [.lst (cutM xs lo hi)]) := by
  have : slcV (.ref m) lo hi h = .ok (.ref h.length) (h ++ [.lst (cutM xs lo hi)]) := by
    show (match h[m]? with
      | some (.lst xs) => M.alloc (.lst (cutM xs lo hi)) h
      | _ => .stuck) = _
    rw [e]
    rfl
  unfold Ev
  rw [this]
theorem cut_mem {xs : List MV} {lo hi : Option Int} {x : MV} (h : x ∈ cutM xs lo hi) : x ∈ xs := by
  unfold cutM at h
  exact List.mem_of_mem_drop (List.mem_of_mem_take h)
def signs : List MV := [.str (Str.ofString "a"), .str (Str.ofString "b"), .str (Str.ofString "z"), .str (Str.ofString "m"), .str (Str.ofString "e"), .str (Str.ofString "s"), .str (Str.ofString "A"), .str (Str.ofString "Z"), .str (Str.ofString "0"), .str (Str.ofString "9"), .str (Str.ofString " "), .str (Str.ofString "_"), .str (Str.ofString "-")]
def signB (x : MV) : Bool := match x with
  | .str s => s.length == 1 && s.cps.toList.all fun c => decide (c < 128)
  | _ => false
theorem signs_ok : signs.all signB = true := by decide +kernel
theorem sign_of {x : MV} (h : x ∈ signs) : ∃ s, x = .str s ∧ s.length = 1 ∧ ∀ c ∈ s.cps.toList, c < 128 := by
  have e := List.all_eq_true.mp signs_ok x h
  cases x with
  | str s =>
    obtain ⟨h1, h2⟩ := Bool.and_eq_true_iff.mp (show (s.length == 1 && s.cps.toList.all fun c => decide (c < 128)) = true from e)
    exact ⟨s, rfl, eq_of_beq h1, fun c hc => of_decide_eq_true (List.all_eq_true.mp h2 c hc)⟩
  | _ => cases e
/-- a list of signs gathered -/
def SignsOf (acc : List MV) (zs : List Str) : Prop := acc = zs.map MV.str ∧ ∀ z ∈ zs, z.length = 1 ∧ ∀ c ∈ z.cps.toList, c < 128
theorem allStrs_map : ∀ zs : List Str, allStrs (zs.map MV.str) = some zs
  | [] => rfl
  | z :: r => by
    show (allStrs (r.map MV.str)).map (z :: ·) = _
    rw [allStrs_map r]
    rfl
theorem range_len' (a : Int) : (rangeItems 0 a).length = a.toNat := by
  unfold rangeItems
  simp
def TextOk (F : Nat → List MV → M MV) (f : Nat) : Prop := ∀ (l : Nat) (h : MH) (Q : MV → MH → Prop), PotAt h l → (∀ (t : Str) (h' : MH), Short t → Kp l h h' → Q (.str t) h') → Ev (F f [.ref l]) h Q
theorem cut_len10 : (cutM signs none (some 10)).length = 10 := by decide +kernel
theorem cut_len6 : (cutM signs none (some 6)).length = 6 := by decide +kernel
theorem text_tail {n l m : Nat} {sz : Int} {h1 : MH} {Q : MV → MH → Prop} (hm : m ≠ l) (p1 : PotAt h1 l) (m1 : h1[m]? = some (.lst signs)) (hc : 0 < (cutM signs none (some sz)).length ∧ (cutM signs none (some sz)).length < 1000) (k : ∀ (t : Str) (h' : MH), Short t → Kp l h1 h' → Q (.str t) h') :
    Ev (callF T 100000 (n + 2) 5 [MV.ref l, MV.int 9]) h1 fun a h' =>
      Ev (rg1V a) h' fun a h' =>
        Ev
          (lcLoop
            (lcStep (asgT (callF T 100000 (n + 2)) 100000 (Tg.nm 3)) (evC (callF T 100000 (n + 2)) 100000 EO.no)
              (evE (callF T 100000 (n + 2)) 100000
                (E.call 6 (EL.cons (E.var 0) (EL.cons ((E.var 1).slc EO.no (EO.so (E.var 2))) EL.nil))))
              (wipeE [some (MV.ref l), some (MV.ref m), some (MV.int sz), none] [3]))
            a 100000 0 [])
          h' fun a h' =>
          Ev (mtV Mt.join (MV.str (Str.ofString "")) [MV.ref (List.length h')]) (h' ++ [MO.lst a]) fun a h' => Q a h' := by
  refine draw_ok l 9 _ _ p1 (by decide) (by decide) fun d h2 d0 d1 k2 => ?_
  walk_at "mp"
  rw [smallR_ok (by omega) (by omega)]
  walk_at "mp"
  refine ev_lc (xs := rangeItems 0 d) (fun i acc h => Kp l h1 h ∧ acc.length = i ∧ ∃ zs, SignsOf acc zs) ⟨k2, rfl, [], rfl, by simp⟩ (fun _ _ _ _ => rfl) (by rw [range_len']; omega) (by rw [range_len']; omega) (fun i acc h z => Nat.le_of_eq z.2.1) ?_ ?_
  · rintro i x acc h3 hx ⟨k3, ha, zs, hz⟩
    unfold lcStep
    walk_at "mp"
    show Ev _ _ _
    simp only [wipeE]
    walk_at "mp"
    rw [v_slcl (k3.lst hm m1)]
    have p4 : Kp l h3 (h3 ++ [MO.lst (cutM signs none (some sz))]) := Kp.of_le k3.pot (Le.app _ _)
    have hlt := k3.pot.lt
    refine pick_ok l h3.length (cutM signs none (some sz)) _ _ p4.pot (by omega) app_self hc.1 hc.2 fun x h5 hx k5 => ?_
    obtain ⟨s, rfl, q⟩ := sign_of (cut_mem hx)
    obtain ⟨e1, e2⟩ := hz
    refine ⟨(k3.trans p4).trans k5, by rw [List.length_append, ha]; rfl, zs ++ [s], by rw [e1]; simp, fun z hz => ?_⟩
    rcases List.mem_append.mp hz with z' | z'
    · exact e2 z z'
    · rw [List.mem_singleton.mp z']
      exact q
  · rintro acc h3 ⟨k3, ha, zs, e1, e2⟩
    have hl : zs.length = (rangeItems 0 d).length := by rw [← ha, e1, List.length_map]
    rw [range_len'] at hl
    rw [v_join app_self (zs := zs) (by rw [e1]; exact allStrs_map zs) (by rw [joined_ones fun z hz => (e2 z hz).1]; omega)]
    exact k _ _ (short_join e2 (by omega)) (k3.trans (Kp.of_le k3.pot (Le.app _ _)))
theorem text_ok {n : Nat} : TextOk (callF T 100000 (n + 3)) 7 := by
  intro l h Q hp k
  have hl := hp.lt
  refine ev_call (df := d__law_text) rfl rfl ?_
  show Ev (evSL _ _ d__law_text.body [some (.ref l), none, none, none]) h (retQ Q)
  unfold d__law_text
  dsimp only
  walk_at "mp"
  rw [show fits (List.length [MV.str (Str.ofString "a"), .str (Str.ofString "b"), .str (Str.ofString "z"), .str (Str.ofString "m"), .str (Str.ofString "e"), .str (Str.ofString "s"), .str (Str.ofString "A"), .str (Str.ofString "Z"), .str (Str.ofString "0"), .str (Str.ofString "9"), .str (Str.ofString " "), .str (Str.ofString "_"), .str (Str.ofString "-")]) = true from fits_ok (by decide)]
  walk_at "mp"
  have p0 : PotAt (h ++ [.lst signs]) l := (Kp.of_le hp (Le.app h _)).pot
  have m0 : (h ++ [MO.lst signs])[h.length]? = some (.lst signs) := app_self
  have hne : h.length ≠ l := by omega
  refine draw_ok l 3 _ _ p0 (by decide) (by decide) fun d h1 _ _ k1 => ?_
  have m1 := k1.lst hne m0
  have kk : ∀ (t : Str) (h' : MH), Short t → Kp l h1 h' → Q (.str t) h' := fun t h' st kp => k t h' st ((Kp.of_le hp (Le.app h _)).trans (k1.trans kp))
  walk_at "mp"
  rw [v_eqi]
  split
  · exact text_tail hne k1.pot m1 (by rw [cut_len10]; decide) kk
  · exact text_tail hne k1.pot m1 (by rw [cut_len6]; decide) kk
def PotOk (F : Nat → List MV → M MV) (f : Nat) : Prop := ∀ (ns : List Int) (k : Nat) (h : MH) (Q : MV → MH → Prop), ns.length ≤ 63 → k < 64 → (∀ (l : Nat) (h' : MH), PotAt h' l → Q (.ref l) h') → Ev (F f [.ro (ns.map MV.int), .int k]) h Q
def pot_t : SL := (.cons (.ret (.lst (.cons (.bi .max (.cons (.lit (.int 0)) (.cons (.bin .sub (.var 2) (.bin .pow (.lit (.int 10)) (.lit (.int 18)))) .nil))) (.cons (.bin .add (.bin .mod (.bi .int (.cons (.bin .add (.bin .add (.bin .mul (.bin .mod (.bi .int (.cons (.var 2) .nil)) (.lit (.int 2147483549))) (.lit (.int 39373))) (.bin .mul (.lit (.int 7067)) (.var 1))) (.lit (.int 31))) .nil)) (.lit (.int 2147483579))) (.lit (.int 1))) .nil)))) .nil)
theorem pot_tail {F : Nat → List MV → M MV} {W : Nat} {Q : MV → MH → Prop} {x : MV} {h : MH} {cell : Int} {k : Nat} (kq : ∀ (l : Nat) (h' : MH), PotAt h' l → Q (.ref l) h') :
    Ev (evSL F W pot_t [some x, some (.int k), some (.int cell)]) h (retQ Q) := by
  unfold pot_t
  walk_at "mp"
  rw [okPow_ok (by decide) (by decide) (by decide)]
  walk_at "mp"
  rw [if_pos (by decide : (0 : Int) < 2147483549)]
  have s1 : small64 39373 = true := small64_ok (by decide) (by decide)
  have s2 : small64 7067 = true := small64_ok (by decide) (by decide)
  simp only [s1, s2, Bool.or_true, Bool.true_or]
  walk_at "mp"
  rw [if_pos (by decide : (0 : Int) < 2147483579)]
  rw [fits_ok (show List.length [_, _] ≤ 1000000 by simp)]
  walk_at "mp"
  exact kq _ _ ⟨_, _, app_self⟩
theorem pot_ok {W n : Nat} : PotOk (callF T W (n + 1)) 4 := by
  intro ns k h Q hl hk kq
  refine ev_call (df := d__law_pot) rfl rfl ?_
  show Ev (evSL _ _ d__law_pot.body [some (.ro (ns.map MV.int)), some (.int k), none]) h (retQ Q)
  have s1 : small64 233 = true := small64_ok (by decide) (by decide)
  show Ev (evSL _ _ (.cons (.asg (.nm 2) (.bin .add (.bin .mul (.lit (.int 233)) (.var 1)) (.lit (.int 42)))) (.cons (.ifs (.cmp .lt (.var 1) (.bi .len (.cons (.var 0) .nil))) (.cons (.asg (.nm 2) (.bi .abs (.cons (.idx (.var 0) (.var 1)) .nil))) .nil) .nil) pot_t)) [some (.ro (ns.map MV.int)), some (.int k), none]) h (retQ Q)
  walk_at "mp"
  simp only [s1, Bool.true_or]
  walk_at "mp"
  split
  · rename_i hlt
    rw [List.length_map] at hlt
    have hk2 : k < ns.length := by omega
    rw [v_idxr (x := .int (ns[k])) (L2.atI_nat (by rw [List.getElem?_map, List.getElem?_eq_getElem hk2]; rfl))]
    walk_at "mp"
    exact pot_tail kq
  · exact pot_tail kq
end MPV
/-! law k11: the questions. -/
namespace MPV
open PySem hiding Env
open MP LawT
local macro_rules | `(tactic| walk_at "mp") => `(tactic| try simp only [sl_cons, sl_nil, s_asg, s_par, s_ex, s_ret, s_retN, s_ifs, s_fors, s_whl, s_pas, t_bop, t_not, t_var, t_cmp, t_chain, t_isK, t_call, t_bi, t_isi, t_idx, bt_one, bt_cons, e_var, e_lit, e_glo, e_tup, e_lst, e_dct, e_bin, e_neg, e_cmp, e_chain, e_isK, e_bop, e_not, e_ife, e_call, e_callk, e_bi, e_isi, e_mth, e_idx, e_slc, e_lc, el_nil, el_cons, eb_one, eb_cons, eo_no, eo_so, ec_no, ec_so, g_nm, g_tp, g_sb, gl_nil, gl_cons, i_vl, i_rg1, i_rg2, after_nx, after_rt, ret_rt, ret_nx, ev_bnd, ev_ret, ev_stk, ev_alloc, ev_ite, v_add, v_sub, v_mul, v_fdiv, v_mod, v_pow, v_adds, v_addt, v_neg, v_not, v_bop, v_lt, v_le, v_gt, v_ge, v_les, v_trub, v_int, v_abs, v_max, v_min, v_divmod, v_lens, v_lent, v_lenr, v_idxt0, v_idxt1, v_idxt2, v_tup, v_lst, v_dct0, v_dct1, v_isi1, v_its, v_itt, v_itr, v_rg1, v_rg2, v_intO, v_rcvj, List.getElem?_cons_zero, List.getElem?_cons_succ, List.set_cons_zero, List.set_cons_succ, if_true, if_false, Bool.false_eq_true, decide_eq_true_eq, b00, b01, b10, b11, Bool.not_true, Bool.not_false])
/-- a value whose kind is known; a text is short -/
def KOk (h : MH) : MV → Prop
  | .ref m => (∃ xs, h[m]? = some (.lst xs)) ∨ ∃ w kvs, h[m]? = some (.dct w kvs)
  | .str t => Short t
  | _ => True
theorem KOk.le {h h' : MH} (k : Le h h') {v : MV} (x : KOk h v) : KOk h' v := by
  cases v with
  | ref m =>
    rcases x with ⟨xs, e⟩ | ⟨w, kvs, e⟩
    · exact .inl ⟨xs, k.lst e⟩
    · exact .inr ⟨w, kvs, k.dct e⟩
  | _ => exact x
def tB (t : Ty) : MV → Bool
  | .bl _ => (match t with | .int => true | .bool => true | _ => false)
  | .int _ => (match t with | .int => true | _ => false)
  | .str _ => (match t with | .str => true | _ => false)
  | .tup _ => (match t with | .tuple => true | _ => false)
  | _ => false
def tyS4 : Ty → Bool
  | .list | .dict => false
  | _ => true
theorem v_isi {h : MH} {v : MV} {t : Ty} {Q : Bool → MH → Prop} (x : KOk h v) (ht : tyS4 t = true) : Ev (isiV v t) h Q = Q (tB t v) h := by
  cases v with
  | ref m =>
    have : isiV (.ref m) t h = .ok false h := by
      unfold isiV
      dsimp only
      rcases x with ⟨xs, e⟩ | ⟨w, kvs, e⟩
      · rw [e]
        cases t <;> first | rfl | cases ht
      · rw [e]
        cases t <;> first | rfl | cases ht
    unfold Ev
    rw [this]
    rfl
  | ro _ => cases t <;> first | rfl | cases ht
  | _ => rfl
def isIntB : MV → Bool
  | .int _ => true
  | _ => false
def cntB : MV → Bool
  | .int i => decide (0 ≤ i)
  | _ => false
theorem int_ok {W n : Nat} {v : MV} {h : MH} {Q : MV → MH → Prop} (x : KOk h v) (k : Q (.bl (isIntB v)) h) : Ev (callF T W (n + 1) 0 [v]) h Q := by
  refine ev_call (df := d_is_integer) rfl rfl ?_
  show Ev (evSL _ _ d_is_integer.body [some v]) h (retQ Q)
  unfold d_is_integer
  dsimp only
  walk_at "mp"
  rw [v_isi x rfl]
  walk_at "mp"
  rw [v_isi x rfl]
  cases v <;> exact k
theorem num_ok {W n : Nat} {v : MV} {h : MH} {Q : MV → MH → Prop} (x : KOk h v) (k : Q (.bl (isIntB v)) h) : Ev (callF T W (n + 1) 8 [v]) h Q := by
  refine ev_call (df := d__law_is_number) rfl rfl ?_
  show Ev (evSL _ _ d__law_is_number.body [some v]) h (retQ Q)
  unfold d__law_is_number
  dsimp only
  walk_at "mp"
  rw [v_isi x rfl]
  walk_at "mp"
  simp only [v_isK]
  cases v with
  | bl b => cases b <;> exact k
  | _ => exact k
theorem count_ok {W n : Nat} {v : MV} {h : MH} {Q : MV → MH → Prop} (x : KOk h v) (k : Q (.bl (cntB v)) h) : Ev (callF T W (n + 2) 1 [v]) h Q := by
  refine ev_call (df := d_is_count) rfl rfl ?_
  show Ev (evSL _ _ d_is_count.body [some v]) h (retQ Q)
  unfold d_is_count
  dsimp only
  walk_at "mp"
  refine int_ok x ?_
  walk_at "mp"
  cases v <;> exact k
/-! ### names -/
def letter (c : Nat) : Bool := decide (97 ≤ c) && decide (c ≤ 122)
def nameB : MV → Bool
  | .str t => decide (1 ≤ t.length) && decide (t.length ≤ 6) && t.cps.toList.all letter
  | _ => false
theorem nameB_str (t : Str) : nameB (.str t) = (decide (1 ≤ t.length) && decide (t.length ≤ 6) && t.cps.toList.all letter) := rfl
theorem allBls_map : ∀ zs : List Bool, allBls (zs.map MV.bl) = some zs
  | [] => rfl
  | z :: r => by
    show (allBls (r.map MV.bl)).map (z :: ·) = _
    rw [allBls_map r]
    rfl
theorem letters_in : ((List.range 128).all fun c => (!(Builtin.Str.occurrences (Str.ofString "abcdefghijklmnopqrstuvwxyz") ⟨#[c]⟩ 0 (Str.ofString "abcdefghijklmnopqrstuvwxyz").length 1).isEmpty) == letter c) = true := by decide +kernel
theorem letter_in {c : Nat} (h : c < 128) : (!(Builtin.Str.occurrences (Str.ofString "abcdefghijklmnopqrstuvwxyz") ⟨#[c]⟩ 0 (Str.ofString "abcdefghijklmnopqrstuvwxyz").length 1).isEmpty) = letter c := eq_of_beq (List.all_eq_true.mp letters_in c (List.mem_range.mpr h))
theorem letters_le : ((List.range 128).all fun c => ((!decide ((⟨#[c]⟩ : Str).cps.toList < (Str.ofString "a").cps.toList)) && (!decide ((Str.ofString "z").cps.toList < (⟨#[c]⟩ : Str).cps.toList))) == letter c) = true := by decide +kernel
theorem letter_le {c : Nat} (h : c < 128) : ((!decide ((⟨#[c]⟩ : Str).cps.toList < (Str.ofString "a").cps.toList)) && (!decide ((Str.ofString "z").cps.toList < (⟨#[c]⟩ : Str).cps.toList))) = letter c := eq_of_beq (List.all_eq_true.mp letters_le c (List.mem_range.mpr h))
theorem v_inS {s t : Str} {h : MH} {Q : Bool → MH → Prop} : Ev (cmpV .isin (.str s) (.str t)) h Q = Q (!(Builtin.Str.occurrences t s 0 t.length 1).isEmpty) h := rfl
theorem name_ok {n : Nat} {v : MV} {h : MH} {Q : MV → MH → Prop} (x : KOk h v) (k : ∀ h', Le h h' → Q (.bl (nameB v)) h') : Ev (callF T 100000 (n + 1) 2 [v]) h Q := by
  refine ev_call (df := d_is_name) rfl rfl ?_
  show Ev (evSL _ _ d_is_name.body [some v, none]) h (retQ Q)
  unfold d_is_name
  dsimp only
  walk_at "mp"
  rw [v_isi x rfl]
  cases v with
  | str t =>
    have sh : Short t := x
    simp only [tB, Bool.not_true]
    walk_at "mp"
    rw [fits_ok (by have := sh.1; omega)]
    walk_at "mp"
    have loop : t.length ≤ 8 → (∀ h', Le h h' → Q (.bl (t.cps.toList.all letter)) h') → Ev
          (lcLoop
            (lcStep (asgT (callF T 100000 n) 100000 (Tg.nm 1)) (evC (callF T 100000 n) 100000 EO.no)
              (evE (callF T 100000 n) 100000
                (E.cmp Cop.isin (E.var 1)
                  (E.glo (Str.ofString "LETTERS") (MV.str (Str.ofString "abcdefghijklmnopqrstuvwxyz")))))
              (wipeE [some (MV.str t), none] [1]))
            (Itv.vs (List.map (fun c => MV.str { cps := #[c] }) t.cps.toList)) 100000 0 [])
          h fun a h' => Ev (biV Bi.all [MV.ref (List.length h')]) (h' ++ [MO.lst a]) fun a h' => Q a h' := by
      intro hl kk
      rw [len_cps] at hl
      refine ev_lc (xs := t.cps.toList.map fun c => MV.str ⟨#[c]⟩) (fun i acc h2 => Le h h2 ∧ acc = ((t.cps.toList.take i).map letter).map MV.bl) ⟨Le.refl h, by simp⟩ (fun _ _ _ _ => rfl) (by rw [List.length_map]; omega) (by rw [List.length_map]; omega) (fun i acc h2 z => by rw [z.2]; simp; omega) ?_ ?_
      · rintro i y acc h2 hy ⟨k1, ha⟩
        rw [List.getElem?_map] at hy
        cases hc : t.cps.toList[i]? with
        | none => rw [hc] at hy; cases hy
        | some c =>
          rw [hc] at hy
          cases hy
          have c128 := sh.2 c (List.mem_of_getElem? hc)
          unfold lcStep
          walk_at "mp"
          simp only [wipeE]
          walk_at "mp"
          rw [v_inS, letter_in c128]
          refine ⟨k1, ?_⟩
          rw [ha, List.take_add_one, hc]
          simp
      · rintro acc h2 ⟨k1, ha⟩
        have e : acc = (t.cps.toList.map letter).map MV.bl := by
          rw [ha, List.length_map, List.take_length]
        rw [v_allb app_self (bs := t.cps.toList.map letter) (by rw [e]; exact allBls_map _)]
        have z := kk _ (k1.trans (Le.app h2 [MO.lst acc]))
        have e2 : (t.cps.toList.map letter).all id = t.cps.toList.all letter := by simp [List.all_map, Function.comp_def]
        rw [e2]
        exact z
    split
    · rename_i h1
      by_cases h2 : t.length ≤ 6
      · have : (!decide ((t.length : Int) ≤ 6)) = false := by
          rw [decide_eq_true (by omega)]; rfl
        rw [this]
        walk_at "mp"
        refine loop (by omega) fun h' kl => ?_
        have z := k h' kl
        rw [nameB_str] at z
        rw [decide_eq_true (by omega : 1 ≤ t.length), decide_eq_true h2] at z
        exact z
      · have : (!decide ((t.length : Int) ≤ 6)) = true := by
          rw [decide_eq_false (by omega)]; rfl
        rw [this]
        walk_at "mp"
        have z := k h (Le.refl h)
        rw [nameB_str] at z
        rw [decide_eq_false h2, Bool.and_false, Bool.false_and] at z
        exact z
    · rename_i h1
      have z := k h (Le.refl h)
      rw [nameB_str] at z
      rw [decide_eq_false (by omega : ¬ 1 ≤ t.length), Bool.false_and, Bool.false_and] at z
      exact z
  | _ => exact k h (Le.refl h)
theorem shape_str {t : Str} (h : ∀ c ∈ t.cps.toList, c < 128) : SeqAt.shaped (.str t) = true := by
  have e : t.cps.all (· < 0x110000) = true := by
    rw [← Array.all_toList]
    exact List.all_eq_true.mpr fun c hc => decide_eq_true (by have := h c hc; omega)
  show (PyData.strOk t && decide (PyData.depth (.str t) ≤ 64)) = true
  rw [show PyData.strOk t = true from e]
  rfl
theorem str_ext {s t : Str} (h : s.cps.toList = t.cps.toList) : s = t := by
  obtain ⟨a⟩ := s
  obtain ⟨b⟩ := t
  have : a = b := Array.toList_inj.mp h
  rw [this]
theorem str_beq {s t : Str} : (s == t) = decide (s.cps.toList = t.cps.toList) := by
  by_cases h : s.cps.toList = t.cps.toList
  · rw [str_ext h, decide_eq_true rfl]
    exact beq_self_eq_true _
  · rw [decide_eq_false h]
    exact beq_eq_false_iff_ne.mpr fun e => h (by rw [e])
theorem filter_letters (l : List Nat) : decide ((l.filter letter) = l) = l.all letter := by
  by_cases h : l.all letter = true
  · rw [h, decide_eq_true (List.filter_eq_self.mpr (List.all_eq_true.mp h))]
  · rw [Bool.not_eq_true] at h
    rw [h]
    refine decide_eq_false fun e => ?_
    have := List.filter_eq_self.mp e
    rw [List.all_eq_true.mpr this] at h
    cases h
theorem flat_ones (l : List Nat) : ((l.map fun c => (⟨#[c]⟩ : Str)).map fun z => z.cps.toList).flatten = l := by
  induction l with
  | nil => rfl
  | cons a r ih => simp at ih ⊢; exact ih
theorem lname_ok {n : Nat} {v : MV} {h : MH} {Q : MV → MH → Prop} (x : KOk h v) (k : ∀ h', Le h h' → Q (.bl (nameB v)) h') : Ev (callF T 100000 (n + 1) 9 [v]) h Q := by
  refine ev_call (df := d__law_is_name) rfl rfl ?_
  show Ev (evSL _ _ d__law_is_name.body [some v, none]) h (retQ Q)
  unfold d__law_is_name
  dsimp only
  walk_at "mp"
  rw [v_isi x rfl]
  cases v with
  | str t =>
    have sh : Short t := x
    simp only [tB, Bool.not_true]
    walk_at "mp"
    rw [v_eqs]
    have e0 : (t == Str.ofString "") = decide (t.length = 0) := by
      rw [str_beq, len_cps]
      have z : (Str.ofString "").cps.toList = [] := by decide +kernel
      rw [z]
      cases t.cps.toList <;> rfl
    rw [e0]
    by_cases h0 : t.length = 0
    · rw [decide_eq_true h0]
      walk_at "mp"
      have z := k h (Le.refl h)
      rw [nameB_str, decide_eq_false (by omega : ¬ 1 ≤ t.length), Bool.false_and, Bool.false_and] at z
      exact z
    · rw [decide_eq_false h0]
      walk_at "mp"
      rw [fits_ok (by have := sh.1; omega)]
      walk_at "mp"
      by_cases h6 : t.length ≤ 6
      · rw [if_neg (by omega)]
        have hl := h6
        rw [len_cps] at hl
        refine ev_lc (xs := t.cps.toList.map fun c => MV.str ⟨#[c]⟩) (fun i acc h2 => Le h h2 ∧ acc = (((t.cps.toList.take i).filter letter).map fun c => (⟨#[c]⟩ : Str)).map MV.str) ⟨Le.refl h, by simp⟩ (fun _ _ _ _ => rfl) (by rw [List.length_map]; omega) (by rw [List.length_map]; omega) (fun i acc h2 z => by
          rw [z.2, List.length_map, List.length_map]
          exact Nat.le_trans (List.length_filter_le _ _) (by rw [List.length_take]; omega)) ?_ ?_
        · rintro i y acc h2 hy ⟨k1, ha⟩
          rw [List.getElem?_map] at hy
          cases hc : t.cps.toList[i]? with
          | none => rw [hc] at hy; cases hy
          | some c =>
            rw [hc] at hy
            cases hy
            have c128 := sh.2 c (List.mem_of_getElem? hc)
            have ll := letter_le c128
            unfold lcStep
            walk_at "mp"
            simp only [wipeE]
            walk_at "mp"
            rw [ha, List.take_add_one, hc, Option.toList_some, List.filter_append]
            cases e1 : (!decide ((⟨#[c]⟩ : Str).cps.toList < (Str.ofString "a").cps.toList)) with
            | false =>
              rw [e1, Bool.false_and] at ll
              walk_at "mp"
              exact ⟨k1, by rw [List.filter_cons_of_neg (by rw [← ll]; decide)]; simp⟩
            | true =>
              rw [e1, Bool.true_and] at ll
              walk_at "mp"
              rw [ll]
              cases e2 : letter c with
              | false =>
                walk_at "mp"
                exact ⟨k1, by rw [List.filter_cons_of_neg (by rw [e2]; decide)]; simp⟩
              | true =>
                walk_at "mp"
                exact ⟨k1, by rw [List.filter_cons_of_pos e2]; simp⟩
        · rintro acc h2 ⟨k1, ha⟩
          have e : acc = ((t.cps.toList.filter letter).map fun c => (⟨#[c]⟩ : Str)).map MV.str := by
            rw [ha, List.length_map, List.take_length]
          have hz : ∀ z ∈ (t.cps.toList.filter letter).map fun c => (⟨#[c]⟩ : Str), z.length = 1 := fun z hz => by
            obtain ⟨c, _, rfl⟩ := List.mem_map.mp hz
            rfl
          rw [v_join app_self (zs := (t.cps.toList.filter letter).map fun c => (⟨#[c]⟩ : Str)) (by rw [e]; exact allStrs_map _) (by
            rw [joined_ones hz, List.length_map]
            exact Nat.le_trans (List.length_filter_le _ _) (by omega))]
          walk_at "mp"
          have ej : (Txt.join (Str.ofString "") ((t.cps.toList.filter letter).map fun c => (⟨#[c]⟩ : Str))).cps.toList = t.cps.toList.filter letter := by rw [cps_join, flat_ones]
          rw [v_eqs, str_beq, ej, filter_letters]
          have z := k _ (k1.trans (Le.app h2 [MO.lst acc]))
          rw [nameB_str, decide_eq_true (by omega : 1 ≤ t.length), decide_eq_true h6] at z
          exact z
      · rw [if_pos (by omega)]
        have z := k h (Le.refl h)
        rw [nameB_str, decide_eq_false h6, Bool.and_false, Bool.false_and] at z
        exact z
  | _ => exact k h (Le.refl h)
/-! ### deeds -/
def DOk (h : MH) (v : MV) : Prop := KOk h v ∧ ∀ xs, v = .tup xs → ∀ x ∈ xs, KOk h x
theorem DOk.le {h h' : MH} (k : Le h h') {v : MV} (x : DOk h v) : DOk h' v := ⟨x.1.le k, fun xs e y hy => (x.2 xs e y hy).le k⟩
def deedB : MV → Bool
  | .tup [.str a, x, y] => (Str.ofString "say" == a || Str.ofString "get" == a) && nameB x && nameB y
  | _ => false
theorem v_notin2 {a s t : Str} {h : MH} {Q : Bool → MH → Prop} (ha : ∀ c ∈ a.cps.toList, c < 128) (hs : SeqAt.shaped (.tuple [.str s, .str t]) = true) : Ev (cmpV .notin (.str a) (.tup [.str s, .str t])) h Q = Q (!(s == a || t == a)) h := by
  have : cmpV .notin (.str a) (.tup [.str s, .str t]) h = .ok (!(s == a || (t == a || false))) h := by
    show M.bnd (fun h => if SeqAt.shaped (.str a) && SeqAt.shaped (.tuple [.str s, .str t]) then Res.ok ([PyData.str s, .str t].any fun z => PyData.eqv z (.str a)) h else .stuck) (fun b => M.ret (!b)) h = _
    unfold M.bnd
    dsimp only
    rw [shape_str ha, hs]
    rfl
  unfold Ev
  rw [this, Bool.or_false]
theorem v_in2 {a s t : Str} {m : Nat} {h : MH} {Q : Bool → MH → Prop} (e : h[m]? = some (.lst [.str s, .str t])) (ha : ∀ c ∈ a.cps.toList, c < 128) (hs : SeqAt.shaped (.list [.str s, .str t]) = true) : Ev (cmpV .isin (.str a) (.ref m)) h Q = Q (s == a || t == a) h := by
  have r : reify h 60 (.ref m) = some (.list [.str s, .str t]) := by
    unfold reify
    rw [e]
    rfl
  have : cmpV .isin (.str a) (.ref m) h = .ok (s == a || (t == a || false)) h := by
    show (match reify h 60 (.str a), reify h 60 (.ref m) with
      | some d, some (.list ds) => if SeqAt.shaped d && SeqAt.shaped (.list ds) then Res.ok (ds.any fun z => PyData.eqv z d) h else .stuck
      | some d, some (.tuple ds) => if SeqAt.shaped d && SeqAt.shaped (.tuple ds) then Res.ok (ds.any fun z => PyData.eqv z d) h else .stuck
      | _, _ => .stuck) = _
    rw [r]
    show (if SeqAt.shaped (.str a) && SeqAt.shaped (.list [.str s, .str t]) then Res.ok ([PyData.str s, .str t].any fun z => PyData.eqv z (.str a)) h else .stuck) = _
    rw [shape_str ha, hs]
    rfl
  unfold Ev
  rw [this, Bool.or_false]
theorem len3 {xs : List MV} (h : xs.length ≠ 3) : PyData.eqv (.int (xs.length : Int)) (.int 3) = false := by
  show ((xs.length : Int) == 3) = false
  rw [beq_eq_false_iff_ne]
  omega
theorem deed_len {xs : List MV} (h : xs.length ≠ 3) : deedB (.tup xs) = false := by
  unfold deedB
  split
  · rename_i e
    cases e
    exact absurd rfl h
  · rfl
theorem deed_len0 {a b c : MV} (h : ∀ s, a ≠ .str s) : deedB (.tup [a, b, c]) = false := by
  unfold deedB
  split
  · rename_i e
    cases e
    exact absurd rfl (h _)
  · rfl
theorem deed_ok {n : Nat} {v : MV} {h : MH} {Q : MV → MH → Prop} (x : DOk h v) (k : ∀ h', Le h h' → Q (.bl (deedB v)) h') : Ev (callF T 100000 (n + 2) 3 [v]) h Q := by
  refine ev_call (df := d_is_deed) rfl rfl ?_
  show Ev (evSL _ _ d_is_deed.body [some v]) h (retQ Q)
  unfold d_is_deed
  dsimp only
  walk_at "mp"
  rw [v_isi x.1 rfl]
  cases v with
  | tup xs =>
    simp only [tB, Bool.not_true]
    walk_at "mp"
    rw [v_nei]
    match xs, x, k with
    | [], x, k =>
      rw [len3 (by simp)]
      rw [deed_len (by simp)] at k
      exact k h (Le.refl h)
    | [a], x, k =>
      rw [len3 (by simp)]
      rw [deed_len (by simp)] at k
      exact k h (Le.refl h)
    | [a, b], x, k =>
      rw [len3 (by simp)]
      rw [deed_len (by simp)] at k
      exact k h (Le.refl h)
    | a :: b :: c :: d :: r, x, k =>
      rw [len3 (by simp only [List.length_cons]; omega)]
      rw [deed_len (by simp only [List.length_cons]; omega)] at k
      exact k h (Le.refl h)
    | [a, b, c], x, k =>
      have : PyData.eqv (.int (([a, b, c] : List MV).length : Int)) (.int 3) = true := rfl
      rw [this]
      walk_at "mp"
      have ka := x.2 _ rfl a (by simp)
      have kb := x.2 _ rfl b (by simp)
      have kc := x.2 _ rfl c (by simp)
      rw [v_isi ka rfl]
      cases a with
      | str s =>
        simp only [tB, Bool.not_true]
        walk_at "mp"
        rw [fits_ok (show List.length [_, _] ≤ 1000000 by simp)]
        walk_at "mp"
        have kss : Short s := ka
        rw [v_notin2 kss.2 (by decide +kernel)]
        have z : deedB (.tup [.str s, b, c]) = ((Str.ofString "say" == s || Str.ofString "get" == s) && nameB b && nameB c) := rfl
        rw [z] at k
        cases e : (Str.ofString "say" == s || Str.ofString "get" == s) with
        | false =>
          rw [e] at k
          exact k h (Le.refl h)
        | true =>
          rw [e] at k
          walk_at "mp"
          refine name_ok kb fun h1 l1 => ?_
          walk_at "mp"
          cases e2 : nameB b with
          | false =>
            rw [e2] at k
            exact k h1 l1
          | true =>
            rw [e2] at k
            walk_at "mp"
            exact name_ok (kc.le l1) fun h2 l2 => k h2 (l1.trans l2)
      | _ =>
        rw [deed_len0 (fun s e => by cases e)] at k
        exact k h (Le.refl h)
  | _ => exact k h (Le.refl h)
theorem ldeed_ok {n : Nat} {v : MV} {h : MH} {Q : MV → MH → Prop} (x : DOk h v) (k : ∀ h', Le h h' → Q (.bl (deedB v)) h') : Ev (callF T 100000 (n + 2) 10 [v]) h Q := by
  refine ev_call (df := d__law_is_deed) rfl rfl ?_
  show Ev (evSL _ _ d__law_is_deed.body [some v]) h (retQ Q)
  unfold d__law_is_deed
  dsimp only
  walk_at "mp"
  rw [v_isi x.1 rfl]
  cases v with
  | tup xs =>
    simp only [tB, Bool.not_true]
    walk_at "mp"
    rw [v_nei]
    match xs, x, k with
    | [], x, k =>
      rw [len3 (by simp)]
      rw [deed_len (by simp)] at k
      exact k h (Le.refl h)
    | [a], x, k =>
      rw [len3 (by simp)]
      rw [deed_len (by simp)] at k
      exact k h (Le.refl h)
    | [a, b], x, k =>
      rw [len3 (by simp)]
      rw [deed_len (by simp)] at k
      exact k h (Le.refl h)
    | a :: b :: c :: d :: r, x, k =>
      rw [len3 (by simp only [List.length_cons]; omega)]
      rw [deed_len (by simp only [List.length_cons]; omega)] at k
      exact k h (Le.refl h)
    | [a, b, c], x, k =>
      have : PyData.eqv (.int (([a, b, c] : List MV).length : Int)) (.int 3) = true := rfl
      rw [this]
      walk_at "mp"
      have ka := x.2 _ rfl a (by simp)
      have kb := x.2 _ rfl b (by simp)
      have kc := x.2 _ rfl c (by simp)
      rw [v_isi ka rfl]
      cases a with
      | str s =>
        simp only [tB, Bool.not_true]
        walk_at "mp"
        rw [fits_ok (show List.length [_, _] ≤ 1000000 by simp)]
        walk_at "mp"
        have kss : Short s := ka
        have l0 := Le.app h [MO.lst [.str (Str.ofString "say"), .str (Str.ofString "get")]]
        rw [v_in2 app_self kss.2 (by decide +kernel)]
        have z : deedB (.tup [.str s, b, c]) = ((Str.ofString "say" == s || Str.ofString "get" == s) && nameB b && nameB c) := rfl
        rw [z] at k
        cases e : (Str.ofString "say" == s || Str.ofString "get" == s) with
        | false =>
          rw [e] at k
          exact k _ l0
        | true =>
          rw [e] at k
          walk_at "mp"
          refine lname_ok (kb.le l0) fun h1 l1 => ?_
          walk_at "mp"
          cases e2 : nameB b with
          | false =>
            rw [e2] at k
            exact k h1 (l0.trans l1)
          | true =>
            rw [e2] at k
            walk_at "mp"
            exact lname_ok ((kc.le l0).le l1) fun h2 l2 => k h2 ((l0.trans l1).trans l2)
      | _ =>
        rw [deed_len0 (fun s e => by cases e)] at k
        exact k h (Le.refl h)
  | _ => exact k h (Le.refl h)
end MPV
/-! law k11: the things. -/
namespace MPV
open PySem hiding Env
open MP LawT
local macro_rules | `(tactic| walk_at "mp") => `(tactic| try simp only [sl_cons, sl_nil, s_asg, s_par, s_ex, s_ret, s_retN, s_ifs, s_fors, s_whl, s_pas, t_bop, t_not, t_var, t_cmp, t_chain, t_isK, t_call, t_bi, t_isi, t_idx, bt_one, bt_cons, e_var, e_lit, e_glo, e_tup, e_lst, e_dct, e_bin, e_neg, e_cmp, e_chain, e_isK, e_bop, e_not, e_ife, e_call, e_callk, e_bi, e_isi, e_mth, e_idx, e_slc, e_lc, el_nil, el_cons, eb_one, eb_cons, eo_no, eo_so, ec_no, ec_so, g_nm, g_tp, g_sb, gl_nil, gl_cons, i_vl, i_rg1, i_rg2, after_nx, after_rt, ret_rt, ret_nx, ev_bnd, ev_ret, ev_stk, ev_alloc, ev_ite, v_add, v_sub, v_mul, v_fdiv, v_mod, v_pow, v_adds, v_addt, v_neg, v_not, v_bop, v_lt, v_le, v_gt, v_ge, v_les, v_trub, v_int, v_abs, v_max, v_min, v_divmod, v_lens, v_lent, v_lenr, v_idxt0, v_idxt1, v_idxt2, v_tup, v_lst, v_dct0, v_dct1, v_isi1, v_its, v_itt, v_itr, v_rg1, v_rg2, v_intO, v_rcvj, List.getElem?_cons_zero, List.getElem?_cons_succ, List.set_cons_zero, List.set_cons_succ, if_true, if_false, Bool.false_eq_true, decide_eq_true_eq, b00, b01, b10, b11, Bool.not_true, Bool.not_false])
def shortB (t : Str) : Bool := decide (t.length ≤ 8) && t.cps.toList.all fun c => decide (c < 128)
theorem short_of {t : Str} (h : shortB t = true) : Short t := by
  obtain ⟨h1, h2⟩ := Bool.and_eq_true_iff.mp h
  exact ⟨of_decide_eq_true h1, fun c hc => of_decide_eq_true (List.all_eq_true.mp h2 c hc)⟩
theorem short_to {t : Str} (h : Short t) : shortB t = true := by
  unfold shortB
  rw [decide_eq_true h.1, Bool.true_and, List.all_eq_true]
  exact fun c hc => decide_eq_true (h.2 c hc)
def strB1 : PyData → Bool
  | .str t => shortB t
  | _ => true
def topB : PyData → Bool
  | .str t => shortB t
  | .tuple ds => ds.all strB1
  | _ => true
def okDB (d : PyData) : Bool := decide (d.depth ≤ 50) && d.showable && d.leavesShort 32 && decide (d.weight ≤ 20000) && topB d
theorem okD_shw {d : PyData} (h : okDB d = true) : Shw d := by
  obtain ⟨h, h5⟩ := Bool.and_eq_true_iff.mp h
  obtain ⟨h, h4⟩ := Bool.and_eq_true_iff.mp h
  obtain ⟨h, h3⟩ := Bool.and_eq_true_iff.mp h
  obtain ⟨h1, h2⟩ := Bool.and_eq_true_iff.mp h
  have h1 := of_decide_eq_true h1
  have h4 := of_decide_eq_true h4
  refine ⟨by omega, h2, ?_⟩
  have := PyData.shown_le 32 (by decide) d h3
  omega
/-- a thing: its data stands at h, and is of the simple sort -/
def Th (h : MH) (v : MV) : Prop := ∃ d, (∀ n, 50 ≤ n → reify h n v = some d) ∧ okDB d = true
theorem Th.le {h h' : MH} (k : Le h h') {v : MV} (x : Th h v) : Th h' v := let ⟨d, r, o⟩ := x; ⟨d, fun n hn => reify_le k n v d (r n hn), o⟩
theorem Th.rd {h : MH} {v : MV} (x : Th h v) : ∃ d, reify h 60 v = some d ∧ Shw d ∧ topB d = true := by
  obtain ⟨d, r, o⟩ := x
  have s := okD_shw o
  exact ⟨d, r 60 (by decide), s, (Bool.and_eq_true_iff.mp o).2⟩
theorem kok_of {h : MH} {v : MV} {d : PyData} {n : Nat} (r : reify h n v = some d) (t : strB1 d = true) : KOk h v := by
  cases v with
  | str s =>
    have e : d = .str s := by cases n <;> (cases r; rfl)
    subst e
    exact short_of t
  | ref m =>
    cases n with
    | zero => cases r
    | succ n =>
      unfold reify at r
      split at r
      · rename_i xs e; exact .inl ⟨xs, e⟩
      · rename_i w kvs e; exact .inr ⟨w, kvs, e⟩
      · cases r
  | _ => trivial
theorem mapO_mem {α β : Type} {f : α → Option β} : ∀ {xs : List α} {ys : List β}, mapO f xs = some ys → ∀ x ∈ xs, ∃ y ∈ ys, f x = some y
  | [], _, _, _, hx => by cases hx
  | a :: xs, ys, e, x, hx => by
    unfold mapO at e
    split at e
    · rename_i y ys' h1 h2
      cases e
      rcases List.mem_cons.mp hx with z | z
      · exact ⟨y, List.mem_cons_self, by rw [z]; exact h1⟩
      · obtain ⟨y', m, q⟩ := mapO_mem h2 x z
        exact ⟨y', List.mem_cons_of_mem _ m, q⟩
    · cases e
theorem Th.dok {h : MH} {v : MV} (x : Th h v) : DOk h v := by
  obtain ⟨d, r, s, t⟩ := x.rd
  refine ⟨kok_of r ?_, fun xs e y hy => ?_⟩
  · cases d <;> first | exact t | rfl
  · subst e
    have r : (mapO (reify h 59) xs).map PyData.tuple = some d := r
    cases z : mapO (reify h 59) xs with
    | none => rw [z] at r; cases r
    | some ds =>
      rw [z] at r
      cases r
      obtain ⟨y', m, q⟩ := mapO_mem z y hy
      exact kok_of q (List.all_eq_true.mp (show ds.all strB1 = true from t) y' m)
/-- the list of things at m; the pot at l is none of them -/
def LT (l : Nat) (h : MH) (m b : Nat) : Prop := ∃ xs, h[m]? = some (.lst xs) ∧ m ≠ l ∧ xs.length ≤ b ∧ ∀ x ∈ xs, Th (hid l h) x
theorem LT.kp {l m b : Nat} {h h' : MH} (k : Kp l h h') (x : LT l h m b) : LT l h' m b := by
  obtain ⟨xs, e, hm, hl, t⟩ := x
  exact ⟨xs, k.lst hm e, hm, hl, fun y hy => (t y hy).le k.le⟩
theorem mapO_at {α β : Type} {f : α → Option β} : ∀ {xs : List α} {ys : List β}, mapO f xs = some ys → ∀ (i : Nat) (x : α), xs[i]? = some x → ∃ y, ys[i]? = some y ∧ f x = some y
  | [], _, _, _, _, hx => by simp at hx
  | a :: xs, ys, e, i, x, hx => by
    unfold mapO at e
    split at e
    · rename_i y ys' h1 h2
      cases e
      cases i with
      | zero =>
        simp at hx
        subst hx
        exact ⟨y, rfl, h1⟩
      | succ i => exact mapO_at h2 i x (by simpa using hx)
    · cases e
theorem depth_all : ∀ {ds : List PyData}, ds.all okDB = true → PyData.depthAll ds ≤ 50
  | [], _ => Nat.zero_le _
  | d :: ds, h => by
    obtain ⟨h1, h2⟩ := Bool.and_eq_true_iff.mp (show (okDB d && ds.all okDB) = true from h)
    have i := depth_all h2
    have : d.depth ≤ 50 := by
      obtain ⟨h, _⟩ := Bool.and_eq_true_iff.mp h1
      obtain ⟨h, _⟩ := Bool.and_eq_true_iff.mp h
      obtain ⟨h, _⟩ := Bool.and_eq_true_iff.mp h
      exact of_decide_eq_true (Bool.and_eq_true_iff.mp h).1
    show max d.depth (PyData.depthAll ds) ≤ 50
    omega
theorem rdl_mem {h : MH} {vs : List MV} {ds : List PyData} (r : RdL h vs ds) (hd : ds.all okDB = true) : ∀ v ∈ vs, Th h v := by
  intro v hv
  obtain ⟨i, hi⟩ := List.getElem?_of_mem hv
  have dp := depth_all hd
  obtain ⟨d, h1, _⟩ := mapO_at (r 50 dp) i v hi
  refine ⟨d, fun n hn => ?_, List.all_eq_true.mp hd d (List.mem_of_getElem? h1)⟩
  obtain ⟨d', h2, h3⟩ := mapO_at (r n (by omega)) i v hi
  rw [h1] at h2
  cases h2
  exact h3
theorem Th.imm {h : MH} {v : MV} {d : PyData} (e : cL v = some d) (o : okDB d = true) : Th h v := ⟨d, fun n _ => by
  cases v <;> first
    | cases e
    | skip
  all_goals (cases n <;> rfl), o⟩
theorem okD_str {t : Str} (s : Short t) : okDB (.str t) = true := by
  have e1 : PyData.leavesShort 32 (.str t) = true := by
    show (t.cps.toList.all fun c => decide (c < 16 ^ 8)) = true
    exact List.all_eq_true.mpr fun c hc => decide_eq_true (by have := s.2 c hc; omega)
  have e2 : decide (PyData.weight (.str t) ≤ 20000) = true := decide_eq_true (by
    show t.cps.size ≤ 20000
    have := s.1
    have z : t.length = t.cps.size := rfl
    omega)
  unfold okDB
  rw [e1, e2, show topB (.str t) = true from short_to s]
  rfl
theorem okD_tup3 {a b c : Str} (ha : Short a) (hb : Short b) (hc : Short c) : okDB (.tuple [.str a, .str b, .str c]) = true := by
  have l : ∀ {t : Str}, Short t → PyData.leavesShort 32 (.str t) = true := fun {t} s => by
    show (t.cps.toList.all fun c => decide (c < 16 ^ 8)) = true
    exact List.all_eq_true.mpr fun c hc => decide_eq_true (by have := s.2 c hc; omega)
  have w : ∀ {t : Str}, Short t → PyData.weight (.str t) ≤ 8 := fun {t} s => s.1
  have e1 : PyData.leavesShort 32 (.tuple [.str a, .str b, .str c]) = true := by
    show (PyData.leavesShort 32 (.str a) && (PyData.leavesShort 32 (.str b) && (PyData.leavesShort 32 (.str c) && true))) = true
    rw [l ha, l hb, l hc]
    rfl
  have e2 : decide (PyData.weight (.tuple [.str a, .str b, .str c]) ≤ 20000) = true := decide_eq_true (by
    show PyData.weight (.str a) + 1 + (PyData.weight (.str b) + 1 + (PyData.weight (.str c) + 1 + 0)) ≤ 20000
    have := w ha
    have := w hb
    have := w hc
    omega)
  have e3 : topB (.tuple [.str a, .str b, .str c]) = true := by
    show (shortB a && (shortB b && (shortB c && true))) = true
    rw [short_to ha, short_to hb, short_to hc]
    rfl
  unfold okDB
  rw [e1, e2, e3]
  rfl
theorem okD_int {i : Int} (h1 : -(10 ^ 6) < i) (h2 : i < 10 ^ 6) : okDB (.int i) = true := by
  have hn : i.natAbs < 10 ^ 6 := by omega
  have hl : i.natAbs.log2 < 20 := by
    by_cases z : i.natAbs = 0
    · rw [z]; decide
    · exact (Nat.log2_lt z).mpr (by omega)
  have e1 : PyData.leavesShort 32 (.int i) = true := by
    show decide ((Str.ofString (toString i)).length ≤ 32) = true
    have := int_text_length_le (a := i) (k := 20) (by decide) hl
    exact decide_eq_true (by rw [PySem.ofString_length]; omega)
  have e2 : decide (PyData.weight (.int i) ≤ 20000) = true := decide_eq_true (by
    show (if i == 0 then 0 else i.natAbs.log2 + 1) ≤ 20000
    split <;> omega)
  have e3 : PyData.showable (.int i) = true := decide_eq_true (by omega)
  unfold okDB
  rw [e1, e2, e3]
  rfl
theorem kp_le {l : Nat} {h h' : MH} (p : PotAt h l) (k : Le h h') : Kp l h h' := Kp.of_le p k
/-- found = found + [constants] -/
theorem add_consts {F : Nat → List MV → M MV} {W l m b : Nat} {es : EL} {ds : List PyData} {x2 x3 x4 : Option MV} {h : MH} {Q : Env × Fl → MH → Prop} (hc : cDs es = some ds) (hd : ds.all okDB = true) (hn : ds.length ≤ 50) (p : PotAt h l) (t : LT l h m b) (hb : b ≤ 1000)
    (k : ∀ m' h', Kp l h h' → LT l h' m' (b + ds.length) → Q ([some (.ref l), some (.ref m'), x2, x3, x4], .nx) h') : Ev (evS F W (.asg (.nm 1) (.bin .add (.var 1) (.lst es))) [some (.ref l), some (.ref m), x2, x3, x4]) h Q := by
  rw [s_asg, ev_bnd, e_bin, ev_bnd, e_var]
  simp only [List.getElem?_cons_zero, List.getElem?_cons_succ, ev_ret]
  rw [ev_bnd, e_lst, ev_bnd]
  refine cels es hc fun vs h1 l1 n1 r1 => ?_
  have hl := p.lt
  have rl := r1.length
  rw [v_lst, fits_ok (by omega)]
  walk_at "mp"
  obtain ⟨xs, e, hm, hx, tt⟩ := t
  have k1 := kp_le p (l1.trans (Le.app h1 [.lst vs]))
  have e1 := k1.lst hm e
  rw [v_addl e1 app_self, fits_ok (by omega)]
  walk_at "mp"
  have k2 := kp_le k1.pot (Le.app (h1 ++ [.lst vs]) [.lst (xs ++ vs)])
  refine k _ _ (k1.trans k2) ⟨xs ++ vs, app_self, by have := k1.pot.lt; omega, by rw [List.length_append]; omega, fun x hx => ?_⟩
  rcases List.mem_append.mp hx with z | z
  · exact (tt x z).le (k1.trans k2).le
  · refine (rdl_mem r1 hd x z).le ?_
    exact (hidN_hid (l := l) (by omega)).trans (hid_mono ((Le.app h1 [.lst vs]).trans (Le.app _ _)))
def ThingsOk (F : Nat → List MV → M MV) (f : Nat) : Prop := ∀ (l : Nat) (h : MH) (Q : MV → MH → Prop), PotAt h l → (∀ (m : Nat) (h' : MH), LT l h' m 1000 → Q (.ref m) h') → Ev (F f [.ref l]) h Q
theorem pick4 {t : Str} (st : Short t) {x : MV} (h : x ∈ [MV.str (Str.ofString "say"), .str (Str.ofString "get"), .str (Str.ofString "said"), .str t]) : ∃ s, x = .str s ∧ Short s := by
  simp only [List.mem_cons, List.not_mem_nil, or_false] at h
  rcases h with rfl | rfl | rfl | rfl
  · exact ⟨_, rfl, short_of (by decide +kernel)⟩
  · exact ⟨_, rfl, short_of (by decide +kernel)⟩
  · exact ⟨_, rfl, short_of (by decide +kernel)⟩
  · exact ⟨_, rfl, st⟩
theorem th_str {h : MH} {t : Str} (s : Short t) : Th h (.str t) := Th.imm rfl (okD_str s)
theorem th_tup3 {h : MH} {a b c : Str} (ha : Short a) (hb : Short b) (hc : Short c) : Th h (.tup [.str a, .str b, .str c]) :=
  ⟨.tuple [.str a, .str b, .str c], fun n hn => rd_tup (RdL.cons (rd_lit rfl) (RdL.cons (rd_lit rfl) (RdL.cons (rd_lit rfl) RdL.nil))) n (by
    have : PyData.depth (.tuple [.str a, .str b, .str c]) = 1 := rfl
    omega), okD_tup3 ha hb hc⟩
def things_b : SL := (.cons (.par 3 4 (.call 7 (.cons (.var 0) .nil)) (.call 7 (.cons (.var 0) .nil))) (.cons (.asg (.nm 1) (.bin .add (.var 1) (.lst (.cons (.var 3) (.cons (.tup (.cons (.call 6 (.cons (.var 0) (.cons (.lst (.cons (.lit (.str (Str.ofString "say"))) (.cons (.lit (.str (Str.ofString "get"))) (.cons (.lit (.str (Str.ofString "said"))) (.cons (.var 3) .nil))))) .nil))) (.cons (.var 4) (.cons (.var 3) .nil)))) (.cons (.tup (.cons (.lit (.str (Str.ofString "get"))) (.cons (.var 3) (.cons (.var 4) .nil)))) .nil)))))) .nil))
theorem things_body {n l m b : Nat} {x2 x3 x4 : Option MV} {h : MH} {Q : Env × Fl → MH → Prop} (p : PotAt h l) (t : LT l h m b) (hb : b ≤ 1000) (k : ∀ m' y3 y4 h', PotAt h' l → LT l h' m' (b + 3) → Q ([some (.ref l), some (.ref m'), x2, y3, y4], .nx) h') :
    Ev (evSL (callF T 100000 (n + 3)) 100000 things_b [some (.ref l), some (.ref m), x2, x3, x4]) h Q := by
  unfold things_b
  walk_at "mp"
  refine text_ok l h _ p fun t1 h1 s1 k1 => ?_
  walk_at "mp"
  refine text_ok l h1 _ k1.pot fun t2 h2 s2 k2 => ?_
  walk_at "mp"
  rw [fits_ok (show List.length [_, _, _, _] ≤ 1000000 by simp)]
  walk_at "mp"
  have k3 := kp_le k2.pot (Le.app h2 [.lst [MV.str (Str.ofString "say"), .str (Str.ofString "get"), .str (Str.ofString "said"), .str t1]])
  refine pick_ok l h2.length _ _ _ k3.pot (by have := k2.pot.lt; omega) app_self (by simp) (by simp) fun x h4 hx k4 => ?_
  obtain ⟨s, rfl, ss⟩ := pick4 s1 hx
  walk_at "mp"
  rw [fits_ok (show List.length [_, _, _] ≤ 1000000 by simp)]
  walk_at "mp"
  rw [fits_ok (show List.length [_, _, _] ≤ 1000000 by simp)]
  walk_at "mp"
  rw [fits_ok (show List.length [_, _, _] ≤ 1000000 by simp)]
  walk_at "mp"
  obtain ⟨xs, e, hm, hx', tt⟩ := t
  have kk := (k1.trans k2).trans (k3.trans k4)
  have k5 := kp_le k4.pot (Le.app h4 [.lst [MV.str t1, .tup [.str s, .str t2, .str t1], .tup [.str (Str.ofString "get"), .str t1, .str t2]]])
  have e1 := (kk.trans k5).lst hm e
  rw [v_addl e1 app_self, fits_ok (by simp; omega)]
  walk_at "mp"
  have k6 := kp_le k5.pot (Le.app (h4 ++ [.lst [MV.str t1, .tup [.str s, .str t2, .str t1], .tup [.str (Str.ofString "get"), .str t1, .str t2]]]) [.lst (xs ++ [MV.str t1, .tup [.str s, .str t2, .str t1], .tup [.str (Str.ofString "get"), .str t1, .str t2]])])
  refine k _ _ _ _ k6.pot ⟨_, app_self, by have := k5.pot.lt; omega, by rw [List.length_append]; simp; omega, fun x hx => ?_⟩
  rcases List.mem_append.mp hx with z | z
  · exact (tt x z).le ((kk.trans k5).trans k6).le
  · simp only [List.mem_cons, List.not_mem_nil, or_false] at z
    rcases z with rfl | rfl | rfl
    · exact th_str s1
    · exact th_tup3 ss s2 s1
    · exact th_tup3 (short_of (by decide +kernel)) s1 s2
theorem things_ok {n : Nat} : ThingsOk (callF T 100000 (n + 4)) 11 := by
  intro l h Q hp k
  refine ev_call (df := d__law_things) rfl rfl ?_
  show Ev (evSL _ _ d__law_things.body [some (.ref l), none, none, none, none]) h (retQ Q)
  have pw : okPow 10 29 = true := okPow_ok (by decide) (by decide) (by decide)
  have pw6 : okPow 10 6 = true := okPow_ok (by decide) (by decide) (by decide)
  unfold d__law_things
  dsimp only
  rw [sl_cons, ev_bnd, s_asg]
  simp only [e_lst, el_cons, el_nil, e_lit, e_neg, e_bin, e_call, e_var, ev_bnd, ev_ret, v_neg, v_pow, pw, pw6, if_true, List.getElem?_cons_zero]
  refine draw_ok l _ h _ hp (by decide) (by decide) fun d1 h1 a1 b1 k1 => ?_
  refine draw_ok l 99 h1 _ k1.pot (by decide) (by decide) fun d2 h2 a2 b2 k2 => ?_
  rw [v_sub, v_lst, fits_ok (by simp)]
  simp only [if_true, ev_alloc, g_nm, ev_ret, List.set_cons_succ, List.set_cons_zero]
  rw [after_nx]
  have k3 := kp_le k2.pot (Le.app h2 [.lst [MV.non, .bl true, .bl false, .int 0, .int 1, .int (-1), .int 7, .int (10 ^ Int.toNat 29), .int (-10 ^ Int.toNat 29), .int d1, .int (0 - d2)]])
  have d1b : d1 < 10 ^ 6 := b1
  have t0 : LT l (h2 ++ [.lst [MV.non, .bl true, .bl false, .int 0, .int 1, .int (-1), .int 7, .int (10 ^ Int.toNat 29), .int (-10 ^ Int.toNat 29), .int d1, .int (0 - d2)]]) h2.length 11 := by
    refine ⟨_, app_self, by have := k2.pot.lt; omega, by simp, fun x hx => ?_⟩
    simp only [List.mem_cons, List.not_mem_nil, or_false] at hx
    rcases hx with rfl | rfl | rfl | rfl | rfl | rfl | rfl | rfl | rfl | rfl | rfl
    · exact Th.imm rfl (by decide +kernel)
    · exact Th.imm rfl (by decide +kernel)
    · exact Th.imm rfl (by decide +kernel)
    · exact Th.imm rfl (by decide +kernel)
    · exact Th.imm rfl (by decide +kernel)
    · exact Th.imm rfl (by decide +kernel)
    · exact Th.imm rfl (by decide +kernel)
    · exact Th.imm rfl (by decide +kernel)
    · exact Th.imm rfl (by decide +kernel)
    · exact Th.imm rfl (okD_int (by omega) d1b)
    · exact Th.imm rfl (okD_int (by omega) (by omega))
  have p3 := k3.pot
  revert t0 p3
  generalize h2 ++ [.lst [MV.non, .bl true, .bl false, .int 0, .int 1, .int (-1), .int 7, .int (10 ^ Int.toNat 29), .int (-10 ^ Int.toNat 29), .int d1, .int (0 - d2)]] = h3
  generalize h2.length = m0
  intro t0 p3
  rw [sl_cons, ev_bnd]
  refine add_consts (b := 11) rfl (by decide +kernel) (by decide +kernel) p3 t0 (by decide) fun m1 h4 k4 t1 => ?_
  rw [after_nx, sl_cons, ev_bnd]
  refine add_consts rfl (by decide +kernel) (by decide +kernel) k4.pot t1 (by decide +kernel) fun m2 h5 k5 t2 => ?_
  rw [after_nx, sl_cons, ev_bnd]
  refine add_consts rfl (by decide +kernel) (by decide +kernel) k5.pot t2 (by decide +kernel) fun m3 h6 k6 t3 => ?_
  rw [after_nx, sl_cons, ev_bnd]
  refine add_consts rfl (by decide +kernel) (by decide +kernel) k6.pot t3 (by decide +kernel) fun m4 h7 k7 t4 => ?_
  rw [after_nx, sl_cons, ev_bnd]
  refine add_consts rfl (by decide +kernel) (by decide +kernel) k7.pot t4 (by decide +kernel) fun m5 h8 k8 t5 => ?_
  rw [after_nx, sl_cons, ev_bnd]
  refine add_consts rfl (by decide +kernel) (by decide +kernel) k8.pot t5 (by decide +kernel) fun m6 h9 k9 t6 => ?_
  rw [after_nx, sl_cons, ev_bnd, s_fors, ev_bnd]
  have t7 : LT l h9 m6 100 := by
    obtain ⟨xs, e, hm, hl, tt⟩ := t6
    exact ⟨xs, e, hm, Nat.le_trans hl (by decide +kernel), tt⟩
  walk_at "mp"
  rw [smallR_ok (by decide) (by decide)]
  walk_at "mp"
  have hlen : (rangeItems 0 12).length = 12 := by rw [range_len']; rfl
  refine ev_for (xs := rangeItems 0 12) (fun i ρ h => ∃ m x2 x3 x4, ρ = [some (.ref l), some (.ref m), x2, x3, x4] ∧ PotAt h l ∧ LT l h m (100 + 3 * i)) ⟨m6, none, none, none, rfl, k9.pot, t7⟩ (fun _ _ _ _ => rfl) (by rw [hlen]; decide) ?_ ?_
  · rintro i x ρ h hx ⟨m, x2, x3, x4, rfl, p, t⟩
    have hi := (List.getElem?_eq_some_iff.mp hx).1
    rw [hlen] at hi
    rw [g_nm, ev_ret]
    refine things_body (n := n) (b := 100 + 3 * i) p t (by omega) fun m' y3 y4 h' p' t' => ?_
    exact ⟨m', _, _, _, rfl, p', t'⟩
  · rintro ρ h ⟨m, x2, x3, x4, rfl, p, t⟩
    walk_at "mp"
    obtain ⟨xs, e, hm, hl, tt⟩ := t
    rw [hlen] at hl
    exact k m h ⟨xs, e, hm, Nat.le_trans hl (by decide), tt⟩
end MPV
/-! law k11: the law. -/
namespace MPV
open PySem hiding Env
open MP LawT
local macro_rules | `(tactic| walk_at "mp") => `(tactic| try simp only [sl_cons, sl_nil, s_asg, s_par, s_ex, s_ret, s_retN, s_ifs, s_fors, s_whl, s_pas, t_bop, t_not, t_var, t_cmp, t_chain, t_isK, t_call, t_bi, t_isi, t_idx, bt_one, bt_cons, e_var, e_lit, e_glo, e_tup, e_lst, e_dct, e_bin, e_neg, e_cmp, e_chain, e_isK, e_bop, e_not, e_ife, e_call, e_callk, e_bi, e_isi, e_mth, e_idx, e_slc, e_lc, el_nil, el_cons, eb_one, eb_cons, eo_no, eo_so, ec_no, ec_so, g_nm, g_tp, g_sb, gl_nil, gl_cons, i_vl, i_rg1, i_rg2, after_nx, after_rt, ret_rt, ret_nx, ev_bnd, ev_ret, ev_stk, ev_alloc, ev_ite, v_add, v_sub, v_mul, v_fdiv, v_mod, v_pow, v_adds, v_addt, v_neg, v_not, v_bop, v_lt, v_le, v_gt, v_ge, v_les, v_trub, v_int, v_abs, v_max, v_min, v_divmod, v_lens, v_lent, v_lenr, v_idxt0, v_idxt1, v_idxt2, v_tup, v_lst, v_dct0, v_dct1, v_isi1, v_its, v_itt, v_itr, v_rg1, v_rg2, v_intO, v_rcvj, List.getElem?_cons_zero, List.getElem?_cons_succ, List.set_cons_zero, List.set_cons_succ, if_true, if_false, Bool.false_eq_true, decide_eq_true_eq, b00, b01, b10, b11, Bool.not_true, Bool.not_false])
theorem pick1 (v : MV) : pick ([] ++ [v]) [0] = some [v] := rfl
theorem v_repr1 {v : MV} {h : MH} {Q : MV → MH → Prop} : Ev (biV .repr [v]) h Q = Ev (reprV v) h Q := rfl
/-- four answers in a list, twice, in a list -/
theorem rd_pair {h : MH} {m i j : Nat} {a b c d a' b' c' d' : Bool} (e : h[m]? = some (.lst [.ref i, .ref j])) (e1 : h[i]? = some (.lst [.bl a, .bl b, .bl c, .bl d])) (e2 : h[j]? = some (.lst [.bl a', .bl b', .bl c', .bl d'])) :
    reify h 60 (.ref m) = some (.list [.list [.bool a, .bool b, .bool c, .bool d], .list [.bool a', .bool b', .bool c', .bool d']]) := by
  refine rd_lst e (RdL.cons (rd_lst e1 (RdL.cons (rd_lit rfl) (RdL.cons (rd_lit rfl) (RdL.cons (rd_lit rfl) (RdL.cons (rd_lit rfl) RdL.nil))))) (RdL.cons (rd_lst e2 (RdL.cons (rd_lit rfl) (RdL.cons (rd_lit rfl) (RdL.cons (rd_lit rfl) (RdL.cons (rd_lit rfl) RdL.nil))))) RdL.nil)) 60 ?_
  show (2 : Nat) ≤ 60
  decide
theorem shw_pair {a b c d a' b' c' d' : Bool} : Shw (.list [.list [.bool a, .bool b, .bool c, .bool d], .list [.bool a', .bool b', .bool c', .bool d']]) :=
  okD_shw (d := .list [.list [.bool a, .bool b, .bool c, .bool d], .list [.bool a', .bool b', .bool c', .bool d']]) (by
    have l : ∀ x : Bool, PyData.leavesShort 32 (.bool x) = true := fun x => by cases x <;> rfl
    unfold okDB
    rw [show PyData.leavesShort 32 (.list [.list [.bool a, .bool b, .bool c, .bool d], .list [.bool a', .bool b', .bool c', .bool d']]) = true from by
      show ((PyData.leavesShort 32 (.bool a) && (PyData.leavesShort 32 (.bool b) && (PyData.leavesShort 32 (.bool c) && (PyData.leavesShort 32 (.bool d) && true)))) && ((PyData.leavesShort 32 (.bool a') && (PyData.leavesShort 32 (.bool b') && (PyData.leavesShort 32 (.bool c') && (PyData.leavesShort 32 (.bool d') && true)))) && true)) = true
      simp only [l]
      rfl]
    rfl)
theorem cnt_eq {v : MV} {h : MH} {Q : MV → MH → Prop} (k : Q (.bl (cntB v)) h) : Ev (if (isIntB v == true) = true then (M.ret v).bnd fun x => (M.ret (MV.int 0)).bnd fun y => (cmpV Cop.ge x y).bnd fun k => M.ret (MV.bl k) else M.ret (MV.bl (isIntB v))) h Q := by
  cases v <;> exact k
def right_b : SL := (.cons (.par 5 6 (.bi .repr (.cons (.var 1) .nil)) (.call 8 (.cons (.var 1) .nil))) (.cons (.asg (.nm 2) (.lst (.cons (.var 6) (.cons (.bop true (.cons (.var 6) (.cons (.cmp .ge (.var 1) (.lit (.int 0))) .nil))) (.cons (.call 9 (.cons (.var 1) .nil)) (.cons (.call 10 (.cons (.var 1) .nil)) .nil)))))) (.cons (.asg (.nm 3) (.lst (.cons (.call 0 (.cons (.var 1) .nil)) (.cons (.call 1 (.cons (.var 1) .nil)) (.cons (.call 2 (.cons (.var 1) .nil)) (.cons (.call 3 (.cons (.var 1) .nil)) .nil)))))) (.cons (.asg (.nm 4) (.lst (.cons (.callk 0 .nil (.cons (.var 1) .nil) [0]) (.cons (.callk 1 .nil (.cons (.var 1) .nil) [0]) (.cons (.callk 2 .nil (.cons (.var 1) .nil) [0]) (.cons (.callk 3 .nil (.cons (.var 1) .nil) [0]) .nil)))))) (.cons (.ifs (.bop false (.cons (.cmp .ne (.bi .repr (.cons (.lst (.cons (.var 3) (.cons (.var 4) .nil))) .nil)) (.bi .repr (.cons (.lst (.cons (.var 2) (.cons (.var 2) .nil))) .nil))) (.cons (.cmp .ne (.bi .repr (.cons (.var 1) .nil)) (.var 5)) .nil))) (.cons (.ret (.lit (.bl false))) .nil) .nil) .nil)))))
theorem right_body {n l : Nat} {v : MV} {x2 x3 x4 x5 x6 : Option MV} {h : MH} {Q : Env × Fl → MH → Prop} (t : Th h v) (k : ∀ y2 y3 y4 y5 y6 h', Le h h' → Q ([some (.ref l), some v, y2, y3, y4, y5, y6], .nx) h') :
    Ev (evSL (callF T 100000 (n + 3)) 100000 right_b [some (.ref l), some v, x2, x3, x4, x5, x6]) h Q := by
  obtain ⟨d, rd, sd, _⟩ := t.rd
  have dk := t.dok
  unfold right_b
  rw [sl_cons, ev_bnd]
  simp only [s_par, e_bi, e_call, el_cons, el_nil, e_var, ev_bnd, ev_ret, List.getElem?_cons_zero, List.getElem?_cons_succ, v_repr1]
  refine ev_repr rd sd ?_
  refine num_ok dk.1 ?_
  simp only [List.set_cons_succ, List.set_cons_zero]
  rw [after_nx, sl_cons, ev_bnd]
  simp only [s_asg, e_lst, el_cons, el_nil, e_call, e_bop, eb_cons, eb_one, e_cmp, e_lit, e_var, ev_bnd, ev_ret, List.getElem?_cons_zero, List.getElem?_cons_succ]
  rw [v_bop]
  refine cnt_eq ?_
  refine lname_ok dk.1 fun h1 l1 => ?_
  refine ldeed_ok (dk.le l1) fun h2 l2 => ?_
  rw [v_lst, fits_ok (by simp)]
  simp only [if_true, ev_alloc, g_nm, ev_ret, List.set_cons_succ, List.set_cons_zero]
  have l3 := (l1.trans l2).trans (Le.app h2 [.lst [.bl (isIntB v), .bl (cntB v), .bl (nameB v), .bl (deedB v)]])
  have a2 : (h2 ++ [MO.lst [MV.bl (isIntB v), .bl (cntB v), .bl (nameB v), .bl (deedB v)]])[h2.length]? = some (.lst [.bl (isIntB v), .bl (cntB v), .bl (nameB v), .bl (deedB v)]) := app_self
  revert l3 a2
  generalize h2 ++ [MO.lst [MV.bl (isIntB v), .bl (cntB v), .bl (nameB v), .bl (deedB v)]] = h3
  generalize h2.length = m2
  intro l3 a2
  rw [after_nx, sl_cons, ev_bnd]
  simp only [s_asg, e_lst, el_cons, el_nil, e_call, e_var, ev_bnd, ev_ret, List.getElem?_cons_zero, List.getElem?_cons_succ]
  have dk3 := dk.le l3
  refine int_ok dk3.1 ?_
  refine count_ok dk3.1 ?_
  refine name_ok dk3.1 fun h4 l4 => ?_
  refine deed_ok (dk3.le l4) fun h5 l5 => ?_
  rw [v_lst, fits_ok (by simp)]
  simp only [if_true, ev_alloc, g_nm, ev_ret, List.set_cons_succ, List.set_cons_zero]
  have l6 := (l4.trans l5).trans (Le.app h5 [.lst [.bl (isIntB v), .bl (cntB v), .bl (nameB v), .bl (deedB v)]])
  have a3 : (h5 ++ [MO.lst [MV.bl (isIntB v), .bl (cntB v), .bl (nameB v), .bl (deedB v)]])[h5.length]? = some (.lst [.bl (isIntB v), .bl (cntB v), .bl (nameB v), .bl (deedB v)]) := app_self
  revert l6 a3
  generalize h5 ++ [MO.lst [MV.bl (isIntB v), .bl (cntB v), .bl (nameB v), .bl (deedB v)]] = h6
  generalize h5.length = m3
  intro l6 a3
  rw [after_nx, sl_cons, ev_bnd]
  simp only [s_asg, e_lst, el_cons, el_nil, e_callk, e_var, ev_bnd, ev_ret, List.getElem?_cons_zero, List.getElem?_cons_succ, pick1, ev_some]
  have dk6 := dk3.le l6
  refine int_ok dk6.1 ?_
  refine count_ok dk6.1 ?_
  refine name_ok dk6.1 fun h7 l7 => ?_
  refine deed_ok (dk6.le l7) fun h8 l8 => ?_
  rw [v_lst, fits_ok (by simp)]
  simp only [if_true, ev_alloc, g_nm, ev_ret, List.set_cons_succ, List.set_cons_zero]
  have l9 := (l7.trans l8).trans (Le.app h8 [.lst [.bl (isIntB v), .bl (cntB v), .bl (nameB v), .bl (deedB v)]])
  have a4 : (h8 ++ [MO.lst [MV.bl (isIntB v), .bl (cntB v), .bl (nameB v), .bl (deedB v)]])[h8.length]? = some (.lst [.bl (isIntB v), .bl (cntB v), .bl (nameB v), .bl (deedB v)]) := app_self
  revert l9 a4
  generalize h8 ++ [MO.lst [MV.bl (isIntB v), .bl (cntB v), .bl (nameB v), .bl (deedB v)]] = h9
  generalize h8.length = m4
  intro l9 a4
  have b3 := l9.lst a3
  have b2 := l9.lst (l6.lst a2)
  rw [after_nx, sl_cons, ev_bnd]
  simp only [s_ifs, t_bop, bt_cons, bt_one, t_cmp, e_bi, e_lst, el_cons, el_nil, e_var, ev_bnd, ev_ret, List.getElem?_cons_zero, List.getElem?_cons_succ, v_repr1]
  rw [v_lst, fits_ok (by simp)]
  simp only [if_true, ev_alloc]
  have l10 := Le.app h9 [.lst [.ref m3, .ref m4]]
  refine ev_repr (rd_pair app_self (l10.lst b3) (l10.lst a4)) shw_pair ?_
  rw [v_lst, fits_ok (by simp)]
  simp only [if_true, ev_alloc]
  have l11 := l10.trans (Le.app (h9 ++ [.lst [.ref m3, .ref m4]]) [.lst [.ref m2, .ref m2]])
  refine ev_repr (rd_pair app_self (l11.lst b2) (l11.lst b2)) shw_pair ?_
  rw [v_nes, beq_self_eq_true]
  simp only [Bool.not_true, b00, if_true]
  simp only [ev_bnd, t_cmp, e_bi, el_cons, el_nil, e_var, ev_ret, List.getElem?_cons_zero, List.getElem?_cons_succ, v_repr1]
  have lv := ((l3.trans l6).trans l9).trans l11
  refine ev_repr (reify_le lv _ _ _ rd) sd ?_
  rw [v_nes, beq_self_eq_true]
  simp only [Bool.not_true, Bool.false_eq_true, if_false, sl_nil, ev_ret]
  rw [after_nx]
  exact k _ _ _ _ _ _ lv
theorem right_ok {n l : Nat} {h : MH} {Q : MV → MH → Prop} (p : PotAt h l) (k : ∀ h', Q (.bl true) h') : Ev (callF T 100000 (n + 5) 12 [.ref l]) h Q := by
  refine ev_call (df := d__law_right) rfl rfl ?_
  show Ev (evSL _ _ (.cons (.fors (.nm 1) (.vl (.call 11 (.cons (.var 0) .nil))) right_b) (.cons (.ret (.lit (.bl true))) .nil)) [some (.ref l), none, none, none, none, none, none]) h (retQ Q)
  rw [sl_cons, ev_bnd, s_fors, ev_bnd]
  simp only [i_vl, e_call, el_cons, el_nil, e_var, ev_bnd, ev_ret, List.getElem?_cons_zero]
  refine things_ok (n := n) l h _ p fun m h1 t => ?_
  obtain ⟨xs, e, hm, hl, tt⟩ := t
  rw [v_itl e]
  refine ev_for (xs := xs) (fun i ρ h => Le h1 h ∧ ∃ y1 y2 y3 y4 y5 y6, ρ = [some (.ref l), y1, y2, y3, y4, y5, y6]) ⟨Le.refl h1, none, none, none, none, none, none, rfl⟩ (fun i ρ h z => z.1.lst e) (by omega) ?_ ?_
  · rintro i x ρ h2 hx ⟨l2, y1, y2, y3, y4, y5, y6, rfl⟩
    rw [g_nm, ev_ret]
    have th : Th h2 x := ((tt x (List.mem_of_getElem? hx)).le (hid_le l h1)).le l2
    refine right_body (n := n + 1) th fun z2 z3 z4 z5 z6 h3 l3 => ?_
    exact ⟨l2.trans l3, _, _, _, _, _, _, rfl⟩
  · rintro ρ h2 ⟨l2, y1, y2, y3, y4, y5, y6, rfl⟩
    rw [after_nx, sl_cons, ev_bnd, s_ret]
    simp only [e_lit, ev_bnd, ev_ret]
    rw [after_rt]
    exact k h2
theorem law_ok (ns : List Int) (hl : ns.length ≤ 63) : ∃ h', callF T 100000 50 13 [.ro (ns.map MV.int)] [] = .ok (.bl true) h' := by
  have key : Ev (callF T 100000 50 13 [.ro (ns.map MV.int)]) [] fun v _ => v = .bl true := by
    refine ev_call (df := d_law) rfl rfl ?_
    show Ev (evSL _ _ d_law.body [some (.ro (ns.map MV.int)), none]) [] (retQ _)
    unfold d_law
    dsimp only
    walk_at "mp"
    generalize hg : (if (if ((List.map MV.int ns).length : Int) < 4 then ((List.map MV.int ns).length : Int) else 4) > 1 then (if ((List.map MV.int ns).length : Int) < 4 then ((List.map MV.int ns).length : Int) else 4) else 1) = g
    have hg1 : 1 ≤ g ∧ g ≤ 4 := by
      subst hg
      split <;> split <;> omega
    rw [smallR_ok (by omega) (by omega)]
    walk_at "mp"
    refine ev_lc (xs := rangeItems 0 g) (fun i acc h => acc = (List.replicate i true).map MV.bl) rfl (fun _ _ _ _ => rfl) (by rw [range_len']; omega) (by rw [range_len']; omega) (fun i acc h z => by rw [z]; simp) ?_ ?_
    · rintro i x acc h hx rfl
      have hx2 : x = .int ((i : Nat) : Int) ∧ i < g.toNat := by
        have h1 := (List.getElem?_eq_some_iff.mp hx).1
        rw [range_len'] at h1
        refine ⟨?_, h1⟩
        unfold rangeItems at hx
        rw [List.getElem?_map, List.getElem?_range (by omega)] at hx
        have := Option.some.inj hx
        rw [← this]
        show MV.int (0 + (i : Int)) = _
        rw [Int.zero_add]
      obtain ⟨rfl, hi⟩ := hx2
      unfold lcStep
      walk_at "mp"
      simp only [wipeE]
      walk_at "mp"
      refine pot_ok (n := 48) ns i h _ hl (by omega) fun l h1 p => ?_
      refine right_ok (n := 44) p fun h2 => ?_
      show _ ++ [MV.bl true] = _
      rw [List.replicate_succ', List.map_append]
      rfl
    · rintro acc h rfl
      rw [v_allb app_self (bs := List.replicate (rangeItems 0 g).length true) (allBls_map _)]
      have : (List.replicate (rangeItems 0 g).length true).all id = true := by simp
      rw [this]
  obtain ⟨a, h', e, q⟩ := ev_to key
  subst q
  exact ⟨h', e⟩
end MPV
open PySem PySem.W PySem.Calls PyProof.Rows
theorem PySem.Challenge.cw_forcedbook_k11_numbers_names_and_deeds_t_holds : PySem.Challenge.rw_forcedbook_k11_numbers_names_and_deeds_t.Holds := by
  w_on; o_law
  refine HandSHeadRun.head_any (r := LawT.R) (q := view LawT.R.prog [LawT.li]) (H := LawT.hk) (ob := LawT.ob) (M := 4000) (loose := LawT.loose) (d := HandSHeadRun.topDef LawT.R.prog LawT.li) (kwd := []) LawT.ob_eq
    (by kernel_rfl) (fun s => by kernel_rfl) LawT.run (by kernel_rfl) (by kernel_rfl) (by kernel_rfl) (by rfl) (by first | assumption | decide +kernel) (by decide +kernel) ⟨rfl, rfl, rfl, rfl, rfl, by decide +kernel⟩ ?hw ?hc
  case hw => w_witness2
  case hc =>
    refine MP.walk_mp (n := 63) (k := 50) (B := LawT.B) (T := LawT.T) (W := 100000) (i := LawT.lf) (x := "_law_script") rfl (by decide) (by kernel_rfl) ⟨rfl, by decide, by decide⟩ (by kernel_rfl) rfl rfl (by kernel_rfl) (MP.chkAll_at LawT.chk) (fun w mg h Y G => ?_) MPV.law_ok
    obtain ⟨K, kin, c⟩ := Y
    refine ⟨K, kin, MP.facts_of kin G c (by decide +kernel) LawT.bH fun f d n ks arr hd hm => ?_⟩
    obtain ⟨d', e1, e2⟩ := LawT.bK (f, n, ks, arr) hm
    have e3 : some d' = some d := e1.symm.trans hd
    cases e3
    exact e2
