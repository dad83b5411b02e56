import PyProof.Rows.All
import PySem.Builtin.Int.W1All
import PyProof.P3Statements
import PyProof.EqLayable
import PyProof.ReprLen
import HandS.ForExc
import HandS.ForMost
import HandS.IsInst
import HandS.Style
import HandS.Zip
import HandS.Conv
import HandS.TupAny
import KE.DataMinMax
import HandS.Ends
import PyProof.ReprRoads
import HandS.Rev
import HandS.TryMany
import HandS.ExcInit
import HandS.ExcField
import KE.KExcIs
import PyProof.TableCode
import PySem.Challenge.RW_nearrealm_k55_whole_one_curve
section
set_option linter.all false
/-! Sem: the plain meaning of the Python that the laws use. Data D, the slots of a frame, expressions and statements as functions from slots to results.
No heap: a list that a frame owns lies in its slot, all other data never change. -/
namespace Py
open PySem (Str PyData)

inductive D where
  | non | bl (b : Bool) | int (i : Int) | str (x : Str) | ty (n : String)
  | lst (ds : List D) | tup (ds : List D) | ins (c : String) (fs : List (String × D)) | exn (c : String) (fs : List (String × D))
instance : Inhabited D := ⟨.non⟩

/-- what may change: a list, an instance -/
inductive Cell where
  | lst (ds : List D) | obj (c : String) (fs : List (String × D))
def Cell.toD : Cell → D
  | .lst ds => .lst ds
  | .obj c fs => .ins c fs
@[simp] theorem Cell.toD_lst (ds : List D) : (Cell.lst ds).toD = .lst ds := rfl
@[simp] theorem Cell.toD_obj (c : String) (fs : List (String × D)) : (Cell.obj c fs).toD = .ins c fs := rfl

/-- a slot: without a value (or not known), data, a cell of the frame's own, a name for the cell at h, a cell that is lent -/
inductive Sl where
  | un | val (d : D) | own (c : Cell) | al (h : Nat) | lent (c : Cell)
abbrev Env := List Sl
/-- what an expression gives: data, a fresh cell, the cell of slot i -/
inductive W where
  | d (x : D) | fr (c : Cell) | pl (i : Nat)
structure Er where
  c : String
  fs : List (String × D)
inductive R (α : Type) where
  | ok (a : α) (e : Env) | exc (x : Er) (e : Env) | fail
abbrev M (α : Type) := Env → R α
def ret {α : Type} (a : α) : M α := fun e => .ok a e
def bnd {α β : Type} (m : M α) (f : α → M β) : M β := fun e => match m e with
  | .ok a e' => f a e'
  | .exc x e' => .exc x e'
  | .fail => .fail
theorem bnd_ok {α β : Type} {m : M α} {f : α → M β} {e e' : Env} {a : α} (h : m e = .ok a e') : bnd m f e = f a e' := by unfold bnd; rw [h]
def lft {α : Type} (o : Option α) : M α := fun e => match o with
  | some a => .ok a e
  | none => .fail
@[simp] theorem lft_some {α : Type} (a : α) (e : Env) : lft (some a) e = .ok a e := rfl

/-- the data that a value shows now -/
def vw (w : W) (e : Env) : Option D := match w with
  | .d x => some x
  | .fr c => some c.toD
  | .pl i => match e[i]? with
    | some (.own c) => some c.toD
    | some (.lent c) => some c.toD
    | some (.val d) => some d
    | _ => none
@[simp] theorem vw_d (x : D) (e : Env) : vw (.d x) e = some x := rfl
@[simp] theorem vw_fr (c : Cell) (e : Env) : vw (.fr c) e = some c.toD := rfl
/-- a value that is stored, handed on or returned: it is data from then on -/
def frz (w : W) : M D := fun e => match w with
  | .d x => .ok x e
  | .fr c => .ok c.toD e
  | .pl i => match e[i]? with
    | some (.own c) => .ok c.toD (e.set i (.val c.toD))
    | some (.val d) => .ok d e
    | _ => .fail
@[simp] theorem frz_d (x : D) (e : Env) : frz (.d x) e = .ok x e := rfl
@[simp] theorem frz_fr (c : Cell) (e : Env) : frz (.fr c) e = .ok c.toD e := rfl
/-- all are data -/
def dats : List W → Option (List D)
  | [] => some []
  | .d x :: r => (dats r).map (x :: ·)
  | _ :: _ => none

/-! ### expressions -/
def eVar (i : Nat) : M W := fun e => match e[i]? with
  | some (.val d) => .ok (.d d) e
  | some (.own _) => .ok (.pl i) e
  | some (.al h) => .ok (.pl h) e
  | _ => .fail
def eC (d : D) : M W := ret (.d d)
def lim : Nat := 16000000
def aNil : M (List W) := ret []
/-- an argument that is looked at, or lent -/
def aCons (a : M W) (r : M (List W)) : M (List W) := bnd a fun w => bnd r fun ws => ret (w :: ws)
/-- an argument that is handed over -/
def aConsF (a : M W) (r : M (List W)) : M (List W) := bnd a fun w => bnd (frz w) fun d => bnd r fun ws => ret (.d d :: ws)
def eOp (f : D → D → Option W) (a b : M W) : M W := bnd a fun x => bnd b fun y => fun e => match vw x e, vw y e with
  | some u, some v => lft (f u v) e
  | _, _ => .fail
def eUn (f : D → Option W) (a : M W) : M W := bnd a fun x => fun e => match vw x e with
  | some u => lft (f u) e
  | _ => .fail
def vws : List W → Env → Option (List D)
  | [], _ => some []
  | w :: ws, e => match vw w e, vws ws e with
    | some d, some ds => some (d :: ds)
    | _, _ => none
/-- a built-in -/
def eB (f : List D → Option W) (a : M (List W)) : M W := bnd a fun ws => fun e => match vws ws e with
  | some ds => lft (f ds) e
  | none => .fail
def eLst (a : M (List W)) : M W := bnd a fun ws => lft ((dats ws).bind fun ds => if ds.length ≤ lim then some (.fr (.lst ds)) else none)
def eTup (a : M (List W)) : M W := bnd a fun ws => lft ((dats ws).bind fun ds => if ds.length ≤ lim then some (.d (.tup ds)) else none)

/-! ### operators, by data -/
def iOp (f : Int → Int → Option D) (x y : D) : Option W := match x, y with
  | .int i, .int j => (f i j).map .d
  | _, _ => none
def small64 (i : Int) : Bool := decide (-(2 ^ 64) < i) && decide (i < 2 ^ 64)
def oAdd (x y : D) : Option W := match x, y with
  | .int i, .int j => some (.d (.int (i + j)))
  | .lst a, .lst b => if a.length + b.length ≤ lim then some (.fr (.lst (a ++ b))) else none
  | .tup a, .tup b => if a.length + b.length ≤ lim then some (.d (.tup (a ++ b))) else none
  | .str a, .str b => if a.length + b.length ≤ lim then some (.d (.str (a ++ b))) else none
  | _, _ => none
def oSub : D → D → Option W := iOp fun i j => some (.int (i - j))
def oMul : D → D → Option W := iOp fun i j => if small64 i || small64 j then some (.int (i * j)) else none
def oDiv : D → D → Option W := iOp fun i j => if 0 < j ∧ j < 1073741824 then some (.int (i / j)) else none
def oMod : D → D → Option W := iOp fun i j => if 0 < j then some (.int (i % j)) else none
def okPow (i j : Int) : Bool := decide (0 ≤ j) && decide (j ≤ 1000000) && decide (i.natAbs < 2 ^ 64)
def oPow : D → D → Option W := iOp fun i j => if okPow i j then some (.int (i ^ j.toNat)) else none
def oShl : D → D → Option W := iOp fun i j => if okPow i j then some (.int (i * 2 ^ j.toNat)) else none
def oShr : D → D → Option W := iOp fun i j => if 0 ≤ j then some (.int (i / 2 ^ j.toNat)) else none
def oAnd : D → D → Option W := iOp fun i j => some (.int (PySem.Builtin.bitAnd i j))
def oOr : D → D → Option W := iOp fun i j => some (.int (PySem.Builtin.bitOr i j))
def oXor : D → D → Option W := iOp fun i j => some (.int (PySem.Builtin.bitXor i j))
def oNeg (x : D) : Option W := match x with
  | .int i => some (.d (.int (-i)))
  | _ => none
/-- comparisons give a bool -/
def bW (b : Bool) : Option W := some (.d (.bl b))
def iCmp (f : Int → Int → Bool) (x y : D) : Option W := match x, y with
  | .int i, .int j => bW (f i j)
  | _, _ => none
def oLt : D → D → Option W := iCmp fun i j => decide (i < j)
def oLe : D → D → Option W := iCmp fun i j => decide (i ≤ j)
def oGt : D → D → Option W := iCmp fun i j => decide (j < i)
def oGe : D → D → Option W := iCmp fun i j => decide (j ≤ i)
mutual
/-- as plain data, where no instance is in it -/
def D.py : D → Option PyData
  | .non => some .none
  | .bl b => some (.bool b)
  | .int i => some (.int i)
  | .str x => some (.str x)
  | .lst ds => (pys ds).map .list
  | .tup ds => (pys ds).map .tuple
  | .ty _ => none
  | .ins _ _ => none
  | .exn _ _ => none
def pys : List D → Option (List PyData)
  | [] => some []
  | d :: ds => match d.py, pys ds with
    | some x, some xs => some (x :: xs)
    | _, _ => none
end
/-- == of data -/
def eqP (x y : D) : Option Bool := match x.py, y.py with
  | some p, some q => if PySem.SeqAt.shaped p && PySem.SeqAt.shaped q then some (PySem.PyData.eqv p q) else none
  | _, _ => none
def eqS : D → D → Option Bool
  | .non, .non => some true
  | .non, .int _ => some false
  | .int _, .non => some false
  | .non, .bl _ => some false
  | .bl _, .non => some false
  | .non, .str _ => some false
  | .str _, .non => some false
  | .int i, .int j => some (decide (i = j))
  | .bl i, .bl j => some (decide (i = j))
  | .str i, .str j => some (decide (i = j))
  | .int _, .str _ => some false
  | .str _, .int _ => some false
  | .bl _, .str _ => some false
  | .str _, .bl _ => some false
  | _, _ => none
def eqD (x y : D) : Option Bool := match eqS x y with
  | some b => some b
  | none => eqP x y
def oEq (x y : D) : Option W := (eqD x y).map fun b => .d (.bl b)
def oNe (x y : D) : Option W := (eqD x y).map fun b => .d (.bl (!b))
def isNon : D → Bool
  | .non => true
  | _ => false
def oIsN (x y : D) : Option W := match y with
  | .non => bW (isNon x)
  | _ => none
def oNotN (x y : D) : Option W := match y with
  | .non => bW (!isNon x)
  | _ => none
/-- the place that an index names -/
def ixn (n : Nat) (i : Int) : Option Nat := if 0 ≤ i then (if i < n then some i.toNat else none) else if -(n : Int) ≤ i then some (i + n).toNat else none
def oIx (x y : D) : Option W := match x, y with
  | .lst ds, .int i => ((ixn ds.length i).bind fun j => ds[j]?).map .d
  | .tup ds, .int i => ((ixn ds.length i).bind fun j => ds[j]?).map .d
  | _, _ => none
/-- truth -/
def tru : D → Option Bool
  | .non => some false
  | .bl b => some b
  | .int i => some (i != 0)
  | .str x => if x.length ≤ lim then some (x.length != 0) else none
  | .lst ds => some (!ds.isEmpty)
  | .tup ds => some (!ds.isEmpty)
  | _ => none

/-! ### tests, and, or, not, if -/
/-- an expression's truth -/
def tTru (a : M W) : M Bool := bnd a fun w => fun e => match vw w e with
  | some d => lft (tru d) e
  | none => .fail
/-- a test that is a comparison -/
def tBl (a : M W) : M Bool := bnd a fun w => match w with
  | .d (.bl b) => ret b
  | _ => fun _ => .fail
def tAnd (a b : M Bool) : M Bool := bnd a fun x => if x then b else ret false
def tOr (a b : M Bool) : M Bool := bnd a fun x => if x then ret true else b
def tNot (a : M Bool) : M Bool := bnd a fun x => ret (!x)
/-- as values, where the left is True or False -/
def eAnd (a b : M W) : M W := bnd (tBl a) fun x => if x then b else ret (.d (.bl false))
def eOr (a b : M W) : M W := bnd (tBl a) fun x => if x then ret (.d (.bl true)) else b
def eNot (a : M W) : M W := bnd (tBl a) fun x => ret (.d (.bl (!x)))
def eIf (t : M Bool) (a b : M W) : M W := bnd t fun x => if x then a else b
/-- a < b < c -/
def eChain (f g : D → D → Option W) (a b c : M W) : M W := bnd a fun x => bnd b fun y => fun e => match vw x e, vw y e with
  | some u, some v => match f u v with
    | some (.d (.bl true)) => bnd c (fun z e => match vw y e, vw z e with
      | some v, some t => lft (g v t) e
      | _, _ => .fail) e
    | some (.d (.bl false)) => .ok (.d (.bl false)) e
    | _ => .fail
  | _, _ => .fail

/-! ### slices -/
def clipN (n d : Nat) : Option Int → Nat
  | none => d
  | some i => if i < 0 then (max (i + n) 0).toNat else min i.toNat n
def cut {α : Type} (xs : List α) (lo hi : Option Int) : List α := (xs.drop (clipN xs.length 0 lo)).take (clipN xs.length xs.length hi - clipN xs.length 0 lo)
def oPart (a : Option (M W)) : M (Option Int) := match a with
  | none => ret none
  | some m => bnd m fun w => match w with
    | .d (.int i) => ret (some i)
    | _ => fun _ => .fail
/-- x[lo:hi] -/
def eSl (a : M W) (lo hi : Option (M W)) : M W := bnd a fun x => bnd (oPart lo) fun l => bnd (oPart hi) fun h => fun e => match vw x e with
  | some (.lst ds) => .ok (.fr (.lst (cut ds l h))) e
  | some (.tup ds) => .ok (.d (.tup (cut ds l h))) e
  | _ => .fail
/-- x[::-1], x a list -/
def oRev (x : D) : Option W := match x with
  | .lst ds => some (.fr (.lst ds.reverse))
  | .tup ds => some (.d (.tup ds.reverse))
  | _ => none

/-! ### built-ins -/
/-- a text of a row: not too long -/
def rOk (p : PyData) : Bool := PySem.PyData.leavesShort 64 p && decide (PySem.PyData.weight p ≤ 150000) && decide (PySem.PyData.depth p ≤ 40) && PySem.PyData.showable p && !PySem.PyData.hasDict p
def bRepr (ds : List D) : Option W := match ds with
  | [d] => match d.py with
    | some p => if rOk p then some (.d (.str (PySem.PyData.shown p))) else none
    | none => none
  | _ => none
/-- the arguments, put in the parameters' order -/
def perm {α : Type} (l : List Nat) (xs : List α) : List α := l.filterMap fun i => xs[i]?
def aKw (p q : Nat) (l : List Nat) (a b : M (List W)) : M (List W) := bnd a fun xs => bnd b fun ys e => if xs.length = p ∧ ys.length = q then .ok (perm l (xs ++ ys)) e else .fail
def bLen (ds : List D) : Option W := match ds with
  | [.lst xs] => some (.d (.int xs.length))
  | [.tup xs] => some (.d (.int xs.length))
  | _ => none
def bInt (ds : List D) : Option W := match ds with
  | [.int i] => some (.d (.int i))
  | [.bl b] => some (.d (.int (if b then 1 else 0)))
  | _ => none
def bAbs (ds : List D) : Option W := match ds with
  | [.int i] => some (.d (.int (if i < 0 then -i else i)))
  | _ => none
def ints? : List D → Option (List Int)
  | [] => some []
  | .int i :: r => (ints? r).map (i :: ·)
  | _ :: _ => none
def bls? : List D → Option (List Bool)
  | [] => some []
  | .bl i :: r => (bls? r).map (i :: ·)
  | _ :: _ => none
def onInts (f : List Int → Option W) (ds : List D) : Option W := match ds with
  | [.lst xs] => (ints? xs).bind f
  | _ => none
def bSum (ds : List D) : Option W := match ds with
  | [.lst xs] => (ints? xs).map fun ns => .d (.int ns.sum)
  | [.tup xs] => (ints? xs).map fun ns => .d (.int ns.sum)
  | _ => none
def mmI (f : Int → Int → Int) : List Int → Option W
  | [] => none
  | n :: ns => some (.d (.int (ns.foldl f n)))
def bMin (ds : List D) : Option W := match ds with
  | [.int i, .int j] => some (.d (.int (if j < i then j else i)))
  | [.lst xs] => (ints? xs).bind (mmI min)
  | [.tup xs] => (ints? xs).bind (mmI min)
  | _ => none
def bMax (ds : List D) : Option W := match ds with
  | [.int i, .int j] => some (.d (.int (if j > i then j else i)))
  | [.lst xs] => (ints? xs).bind (mmI max)
  | [.tup xs] => (ints? xs).bind (mmI max)
  | _ => none
def bAll (ds : List D) : Option W := match ds with
  | [.lst xs] => (bls? xs).map fun bs => .d (.bl (bs.all id))
  | _ => none
def bAny (ds : List D) : Option W := match ds with
  | [.lst xs] => (bls? xs).map fun bs => .d (.bl (bs.any id))
  | _ => none
def bTuple (ds : List D) : Option W := match ds with
  | [.lst xs] => some (.d (.tup xs))
  | [.tup xs] => some (.d (.tup xs))
  | _ => none
def bList (ds : List D) : Option W := match ds with
  | [.lst xs] => some (.fr (.lst xs))
  | [.tup xs] => some (.fr (.lst xs))
  | _ => none
/-- the name of a value's class -/
def cls : D → Option String
  | .non => some "NoneType"
  | .bl _ => some "bool"
  | .int _ => some "int"
  | .str _ => some "str"
  | .lst _ => some "list"
  | .tup _ => some "tuple"
  | _ => none
def isT (c t : String) : Bool := c == t || (c == "bool" && t == "int")
def bIsi (ds : List D) : Option W := match ds with
  | [x, .ty t] => (cls x).bind fun c => if t = "int" ∨ t = "bool" ∨ t = "tuple" ∨ t = "list" ∨ t = "str" then some (.d (.bl (isT c t))) else none
  | _ => none

/-! ### functions -/
inductive Arg where
  | a (d : D) | l (c : Cell)
/-- what a call gives: its value (data or a fresh cell), the cells that were lent -/
inductive FR where
  | ok (r : W) (cs : List Cell) | exc (x : Er) (cs : List Cell) | fail
abbrev Fn := List Arg → FR
/-- the arguments, as they are handed over: by data, or lent -/
def lend : List W → List Bool → Env → Option (List Arg)
  | [], _, _ => some []
  | .pl i :: ws, true :: ms, e => match e[i]? with
    | some (.own c) => (lend ws ms e).map (.l c :: ·)
    | some (.lent c) => (lend ws ms e).map (.l c :: ·)
    | _ => none
  | .d x :: ws, ms, e => (lend ws ms.tail e).map (.a x :: ·)
  | _ :: _, _, _ => none
/-- what was lent comes back -/
def pls : List W → List Nat
  | [] => []
  | .pl i :: ws => i :: pls ws
  | _ :: ws => pls ws
def recell (c : Cell) : Sl → Sl
  | .own _ => .own c
  | .lent _ => .lent c
  | s => s
def back : List Nat → List Cell → Env → Env
  | i :: is, c :: cs, e => match e[i]? with
    | some s => back is cs (e.set i (recell c s))
    | none => back is cs e
  | _, _, e => e
def aft (is : List Nat) (e : Env) : FR → R W
  | .ok r cs => .ok r (back is cs e)
  | .exc x cs => .exc x (back is cs e)
  | .fail => .fail
def eCall (g : Fn) (mask : List Bool) (a : M (List W)) : M W := bnd a fun ws => fun e => match lend ws mask e with
  | some as => if (pls ws).Nodup then aft (pls ws) e (g as) else .fail
  | none => .fail
inductive Ctl where
  | next | brk | cont | ret (w : W)
/-- the frame at the start: N names, the arguments first, the lent cells behind -/
def argSlots (N : Nat) : List Arg → Nat → List Sl
  | [], _ => []
  | .a d :: as, k => .val d :: argSlots N as k
  | .l _ :: as, k => .al (N + k) :: argSlots N as (k + 1)
def lentOf : List Arg → List Sl
  | [] => []
  | .a _ :: as => lentOf as
  | .l c :: as => .lent c :: lentOf as
def start (N : Nat) (as : List Arg) : Env := argSlots N as 0 ++ List.replicate (N - as.length) .un ++ lentOf as
def cellsOf : List Sl → Option (List Cell)
  | [] => some []
  | .lent c :: r => (cellsOf r).map (c :: ·)
  | _ :: _ => none
/-- what leaves a frame: a cell of its own goes with it -/
def leave (w : W) (e : Env) : Option W := match w with
  | .pl i => match e[i]? with
    | some (.own c) => some (.fr c)
    | some (.val d) => some (.d d)
    | _ => none
  | w => some w
def mkFn (N P : Nat) (body : M Ctl) : Fn := fun as => if as.length = P ∧ P ≤ N then match body (start N as) with
  | .ok (.ret w) e => match leave w e, cellsOf (e.drop N) with
    | some r, some cs => .ok r cs
    | _, _ => .fail
  | .ok .next e => match cellsOf (e.drop N) with
    | some cs => .ok (.d .non) cs
    | none => .fail
  | .exc x e => match cellsOf (e.drop N) with
    | some cs => .exc x cs
    | none => .fail
  | _ => .fail
  else .fail

/-! ### statements -/
def sNext : M Ctl := ret .next
def sSeq (a b : M Ctl) : M Ctl := bnd a fun c => match c with
  | .next => b
  | c => ret c
def sIf (t : M Bool) (a b : M Ctl) : M Ctl := bnd t fun x => if x then a else b
/-- a name is stored -/
def put (i : Nat) (w : W) : M Ctl := fun e => match w with
  | .d x => .ok .next (e.set i (.val x))
  | .fr c => .ok .next (e.set i (.own c))
  | .pl _ => match frz w e with
    | .ok d e' => .ok .next (e'.set i (.val d))
    | _ => .fail
def sSet (i : Nat) (a : M W) : M Ctl := bnd a (put i)
def sRet (a : M W) : M Ctl := bnd a fun w => ret (.ret w)
def sRetN : M Ctl := ret (.ret (.d .non))
def sDrop (a : M W) : M Ctl := bnd a fun _ => ret .next
/-- the cell of a place is changed -/
def upd (w : W) (f : Cell → Option Cell) : M Ctl := fun e => match w with
  | .pl i => match e[i]? with
    | some (.own c) => match f c with
      | some c' => .ok .next (e.set i (.own c'))
      | none => .fail
    | some (.lent c) => match f c with
      | some c' => .ok .next (e.set i (.lent c'))
      | none => .fail
    | _ => .fail
  | _ => .fail
def cApp (d : D) : Cell → Option Cell
  | .lst ds => if ds.length < lim then some (.lst (ds ++ [d])) else none
  | _ => none
def cSet (i : D) (d : D) (c : Cell) : Option Cell := match c, i with
  | .lst ds, .int k => (ixn ds.length k).map fun j => .lst (ds.set j d)
  | _, _ => none
def chkL (x : W) : M Unit := fun e => match vw x e with
  | some (.lst _) => .ok () e
  | _ => .fail
/-- xs.append(e) -/
def sApp (a b : M W) : M Ctl := bnd a fun x => bnd (chkL x) fun _ => bnd b fun w => bnd (frz w) fun d => upd x (cApp d)
/-- xs[i] = e -/
def sPut (v a b : M W) : M Ctl := bnd v fun w => bnd (frz w) fun d => bnd a fun x => bnd b fun i => fun e => match vw i e with
  | some k => upd x (cSet k d) e
  | none => .fail
/-- x op= e -/
def aAdd (x y : D) : Option W := match x, y with
  | .int i, .int j => some (.d (.int (i + j)))
  | _, _ => none
def sAug (i : Nat) (f : D → D → Option W) (a : M W) : M Ctl := fun e => match e[i]? with
  | some (.val u) => bnd a (fun w e => match vw w e with
    | some v => match f u v with
      | some r => put i r e
      | none => .fail
    | none => .fail) e
  | _ => .fail
/-- xs[i] op= e -/
def sAugS (f : D → D → Option W) (a b v : M W) : M Ctl := bnd a fun x => bnd b fun i => fun e => match vw x e, vw i e with
  | some (.lst us), some (.int k) => match (ixn us.length k).bind fun j => us[j]? with
    | some q => bnd v (fun w e => match vw w e with
      | some t => match f q t with
        | some (.d z) => upd x (cSet (.int k) z) e
        | _ => .fail
      | none => .fail) e
    | none => .fail
  | _, _ => .fail
/-- targets = e -/
def sTgt (g : D → M Unit) (a : M W) : M Ctl := bnd a fun w => bnd (frz w) fun d => bnd (g d) fun _ => ret .next

/-! ### what is walked: its items, as they stand at the start (a list of the frame's own is data from then on) -/
def big (i : Int) : Bool := decide (-(2 ^ 62) ≤ i) && decide (i < 2 ^ 62)
def rngD (lo : Int) (n : Nat) : List D := (List.range n).map fun (k : Nat) => D.int (lo + (k : Int))
def iRng1 (a : M W) : M (List D) := bnd a fun w => match w with
  | .d (.int j) => if big j then ret (rngD 0 j.toNat) else fun _ => .fail
  | _ => fun _ => .fail
def iRng2 (a b : M W) : M (List D) := bnd a fun x => bnd b fun y => match x, y with
  | .d (.int i), .d (.int j) => if big i && big j then ret (rngD i (j - i).toNat) else fun _ => .fail
  | _, _ => fun _ => .fail
def iSeq (a : M W) : M (List D) := bnd a fun w => bnd (frz w) fun d => match d with
  | .lst ds => ret ds
  | .tup ds => ret ds
  | _ => fun _ => .fail
/-- reversed(x) as it is walked -/
def iRevd (a : M W) : M (List D) := bnd a fun w => bnd (frz w) fun d => match d with
  | .lst ds => ret ds.reverse
  | .tup ds => ret ds.reverse
  | _ => fun _ => .fail
def enumD (ds : List D) : List D := (ds.zipIdx).map fun p => D.tup [.int (p.2 : Int), p.1]
def zipD (xs ys : List D) : List D := List.zipWith (fun x y => D.tup [x, y]) xs ys
def iEnum (a : M W) : M (List D) := bnd a fun w => bnd (frz w) fun d => match d with
  | .lst ds => ret (enumD ds)
  | _ => fun _ => .fail
def iZip (a : M (List W)) : M (List D) := bnd a fun ws => match ws with
  | [.d (.lst xs), .d (.lst ys)] => ret (zipD xs ys)
  | [.d (.tup xs), .d (.tup ys)] => ret (zipD xs ys)
  | _ => fun _ => .fail
/-- targets -/
def gName (i : Nat) (d : D) : M Unit := fun e => .ok () (e.set i (.val d))
def gNames : List Nat → List D → M Unit
  | [], [] => ret ()
  | i :: is, d :: ds => bnd (gName i d) fun _ => gNames is ds
  | _, _ => fun _ => .fail
def gTup (is : List Nat) (d : D) : M Unit := match d with
  | .tup ds => gNames is ds
  | _ => fun _ => .fail
def forL (g : D → M Unit) (b : M Ctl) : List D → M Ctl
  | [] => ret .next
  | d :: ds => bnd (g d) fun _ => bnd b fun c => match c with
      | .brk => ret .next
      | .ret w => ret (.ret w)
      | _ => forL g b ds
def sFor (i : M (List D)) (g : D → M Unit) (b : M Ctl) : M Ctl := bnd i fun ds => forL g b ds
def sBrk : M Ctl := ret .brk
def sCont : M Ctl := ret .cont
/-- while, so many turns at most -/
def sWhile (t : M Bool) (b : M Ctl) : Nat → M Ctl
  | 0 => fun _ => .fail
  | n + 1 => bnd t fun x => if x then bnd b fun c => match c with
      | .brk => ret .next
      | .ret w => ret (.ret w)
      | _ => sWhile t b n
    else ret .next

/-! ### comprehensions -/
def wipe (vs : List Nat) (e : Env) : Env := vs.foldr (fun i e => e.set i .un) e
/-- the slots of a comprehension's own names as they were -/
def unwipe (vs : List Nat) (e0 e : Env) : Env := vs.foldr (fun i e => match e0[i]? with
  | some s => e.set i s
  | none => e) e
def compL (g : D → M Unit) (t : M Bool) (b : M W) (vs : List Nat) : List D → List D → M (List D)
  | [], acc => ret acc
  | d :: ds, acc => bnd (g d) fun _ => bnd t fun x => if x then bnd b (fun w => bnd (frz w) fun z => fun e => compL g t b vs ds (acc ++ [z]) (wipe vs e)) else fun e => compL g t b vs ds acc (wipe vs e)
def tYes : M Bool := ret true
def eComp (i : M (List D)) (g : D → M Unit) (t : M Bool) (b : M W) (vs : List Nat) : M W := bnd i fun ds => fun e => if ds.length < lim then
  match compL g t b vs ds [] (wipe vs e) with
  | .ok xs e' => .ok (.fr (.lst xs)) (unwipe vs e e')
  | _ => .fail
  else .fail

/-! ### exceptions -/
/-- the exception classes, each with all classes that it is one of -/
abbrev CT := List (String × List String)
def isSub (T : CT) (c d : String) : Option Bool := (T.lookup c).map fun l => l.contains d
/-- raise C(..), C's __init__ storing its parameters one by one -/
def sRaise (c : String) (fs : List String) (a : M (List W)) : M Ctl := bnd a fun ws => fun e => match dats ws with
  | some ds => if ds.length = fs.length then .exc ⟨c, (fs.zip ds).reverse⟩ e else .fail
  | none => .fail
/-- except c as (slot n): f -/
structure Hn where
  c : String
  n : Option Nat
  f : M Ctl
def caught (x : Er) (n : Option Nat) (m : M Ctl) : M Ctl := match n with
  | none => fun e => match m e with
    | .ok c e' => .ok c e'
    | _ => .fail
  | some i => fun e => match m (e.set i (.val (.exn x.c x.fs))) with
    | .ok (.ret w) e' => .ok (.ret w) e'
    | .ok c e' => .ok c (e'.set i .un)
    | _ => .fail
def pick (T : CT) (x : Er) : List Hn → M Ctl
  | [] => fun e => .exc x e
  | h :: hs => match isSub T x.c h.c with
    | some true => caught x h.n h.f
    | some false => pick T x hs
    | none => fun _ => .fail
def sTry (T : CT) (b : M Ctl) (hs : List Hn) : M Ctl := fun e => match b e with
  | .exc x e' => pick T x hs e'
  | r => r
/-- x.n -/
def oAttr (T : CT) (n : String) : D → Option W
  | .exn c fs => (T.lookup c).bind fun _ => (fs.lookup n).map .d
  | _ => none
/-- isinstance(x, c), c one of the exception classes -/
def oIsC (T : CT) (c : String) : D → Option W
  | .exn k _ => (isSub T k c).map fun b => .d (.bl b)
  | _ => none
/-! ### a call that reads its arguments and gives nothing of them back -/
def flatD : D → Bool
  | .non => true
  | .bl _ => true
  | .int _ => true
  | .str _ => true
  | _ => false
def flatW : W → Bool
  | .d (.tup ds) => ds.all flatD
  | .d x => flatD x
  | .fr (.lst ds) => ds.all flatD
  | _ => false
def toA : List D → List Arg
  | [] => []
  | d :: ds => .a d :: toA ds
def aftV (e : Env) : FR → R W
  | .ok r [] => if flatW r then .ok r e else .fail
  | _ => .fail
def eCallV (g : Fn) (a : M (List W)) : M W := bnd a fun ws => fun e => match vws ws e with
  | some ds => aftV e (g (toA ds))
  | none => .fail
/-- [..] * n -/
def eRep (a b : M W) : M W := bnd a fun x => bnd b fun y => fun e => match x, y with
  | .fr (.lst ds), .d (.int k) => if -(2 ^ 62) ≤ k ∧ k < 2 ^ 62 ∧ ds.length * k.toNat ≤ lim then .ok (.fr (.lst (List.replicate k.toNat ds).flatten)) e else .fail
  | _, _ => .fail
end Py
end
section
set_option Elab.async false
set_option linter.all false
set_option maxRecDepth 100000
/-! Sim: the hand layer's readings keep the plain meaning of Sem. -/
namespace Py
open PySem PySem.Spec PyProof.Rows L2

/-! ### data in an abstract heap -/
/-- an exception that was caught: of the class at C, its fields at d -/
def exq (a C d : Addr) : HO := .ext fun h => ∃ (o : Obj) (vs : Array Value), h.get? a = some o ∧ o.cls = .ref C ∧ o.dict = some d ∧ o.data = .fields vs
mutual
inductive Den (K : PySem.W.Frag) (mg : Str → Option Value) (B : Hp) : V → D → Prop
  | non : Den K mg B .non .non
  | bl (b : Bool) : Den K mg B (.bl b) (.bl b)
  | int (i : Int) : Den K mg B (.int i) (.int i)
  | str (x : Str) : Den K mg B (.str x) (.str x)
  | ty (n : String) : Den K mg B (.ty n) (.ty n)
  | lst {a : Addr} {xs : List V} {ds : List D} : SqL K B a xs → DenAll K mg B xs ds → Den K mg B (.ref a) (.lst ds)
  | tup {a : Addr} {xs : List V} {ds : List D} : SqT K B a xs → DenAll K mg B xs ds → Den K mg B (.ref a) (.tup ds)
  | ins {a C dx : Addr} {c : String} {fs : List (Str × V)} {gs : List (String × D)} : B a = some (.ins C dx fs) → mg (Str.ofString c) = some (.ref C) → DenF K mg B fs gs → Den K mg B (.ref a) (.ins c gs)
  | exn {a C d : Addr} {c : String} {fs : List (Str × V)} {gs : List (String × D)} : B a = some (exq a C d) → B d = some (.xd fs) → mg (Str.ofString c) = some (.ref C) → DenF K mg B fs gs → Den K mg B (.ref a) (.exn c gs)
inductive DenAll (K : PySem.W.Frag) (mg : Str → Option Value) (B : Hp) : List V → List D → Prop
  | nil : DenAll K mg B [] []
  | cons {v : V} {vs : List V} {d : D} {ds : List D} : Den K mg B v d → DenAll K mg B vs ds → DenAll K mg B (v :: vs) (d :: ds)
inductive DenF (K : PySem.W.Frag) (mg : Str → Option Value) (B : Hp) : List (Str × V) → List (String × D) → Prop
  | nil : DenF K mg B [] []
  | cons {n : String} {v : V} {fs : List (Str × V)} {d : D} {gs : List (String × D)} : Den K mg B v d → DenF K mg B fs gs → DenF K mg B ((Str.ofString n, v) :: fs) ((n, d) :: gs)
end
section
variable {K : PySem.W.Frag} {mg : Str → Option Value} {B B' H H' : Hp}
theorem same_rd {a : Addr} {u : HO} (e : Same B B') (h : Rd B a u) : Rd B' a u := by
  rcases h with h | ⟨o, h⟩
  · exact .inl (e a _ h)
  · exact .inr ⟨o, e a _ h⟩
theorem same_l {a : Addr} {xs : List V} (e : Same B B') (h : SqL K B a xs) : SqL K B' a xs := by
  rcases h with h | h
  · exact .inl (same_rd e h)
  · exact .inr h
theorem same_t {a : Addr} {xs : List V} (e : Same B B') (h : SqT K B a xs) : SqT K B' a xs := by
  rcases h with h | h
  · exact .inl (same_rd e h)
  · exact .inr h
mutual
theorem Den.mono (e : Same B B') : ∀ {v : V} {d : D}, Den K mg B v d → Den K mg B' v d
  | _, _, .non => .non
  | _, _, .bl b => .bl b
  | _, _, .int i => .int i
  | _, _, .str x => .str x
  | _, _, .ty n => .ty n
  | _, _, .lst h r => .lst (same_l e h) (DenAll.mono e r)
  | _, _, .tup h r => .tup (same_t e h) (DenAll.mono e r)
  | _, _, .ins h g r => .ins (e _ _ h) g (DenF.mono e r)
  | _, _, .exn h k g r => .exn (e _ _ h) (e _ _ k) g (DenF.mono e r)
theorem DenAll.mono (e : Same B B') : ∀ {vs : List V} {ds : List D}, DenAll K mg B vs ds → DenAll K mg B' vs ds
  | _, _, .nil => .nil
  | _, _, .cons h r => .cons (Den.mono e h) (DenAll.mono e r)
theorem DenF.mono (e : Same B B') : ∀ {vs : List (Str × V)} {ds : List (String × D)}, DenF K mg B vs ds → DenF K mg B' vs ds
  | _, _, .nil => .nil
  | _, _, .cons h r => .cons (Den.mono e h) (DenF.mono e r)
end
theorem DenAll.length : ∀ {vs : List V} {ds : List D}, DenAll K mg B vs ds → vs.length = ds.length
  | _, _, .nil => rfl
  | _, _, .cons _ r => by rw [List.length_cons, List.length_cons, DenAll.length r]
theorem DenAll.get : ∀ {vs : List V} {ds : List D} {i : Nat} {d : D}, DenAll K mg B vs ds → ds[i]? = some d → ∃ v, vs[i]? = some v ∧ Den K mg B v d
  | _, _, _, _, .nil, h => by simp at h
  | _, _, 0, _, .cons h _, e => by
    simp only [List.getElem?_cons_zero, Option.some.injEq] at e
    subst e
    exact ⟨_, rfl, h⟩
  | _, _, i + 1, _, .cons _ r, e => by
    simp only [List.getElem?_cons_succ] at e
    obtain ⟨v, e1, h⟩ := DenAll.get r e
    exact ⟨v, by simpa using e1, h⟩
theorem DenAll.append : ∀ {xs ys : List V} {as bs : List D}, DenAll K mg B xs as → DenAll K mg B ys bs → DenAll K mg B (xs ++ ys) (as ++ bs)
  | _, _, _, _, .nil, s => s
  | _, _, _, _, .cons h r, s => .cons h (DenAll.append r s)
theorem DenAll.set {v : V} {d : D} (h : Den K mg B v d) : ∀ {xs : List V} {as : List D} (i : Nat), DenAll K mg B xs as → DenAll K mg B (xs.set i v) (as.set i d)
  | _, _, _, .nil => .nil
  | _, _, 0, .cons _ r => .cons h r
  | _, _, i + 1, .cons q r => .cons q (DenAll.set h i r)
theorem DenAll.take : ∀ {xs : List V} {as : List D} (n : Nat), DenAll K mg B xs as → DenAll K mg B (xs.take n) (as.take n)
  | _, _, 0, _ => .nil
  | _, _, _ + 1, .nil => .nil
  | _, _, n + 1, .cons h r => .cons h (DenAll.take n r)
theorem DenAll.drop : ∀ {xs : List V} {as : List D} (n : Nat), DenAll K mg B xs as → DenAll K mg B (xs.drop n) (as.drop n)
  | _, _, 0, r => r
  | _, _, _ + 1, .nil => .nil
  | _, _, n + 1, .cons _ r => DenAll.drop n r
theorem DenAll.reverse {xs : List V} {as : List D} (h : DenAll K mg B xs as) : DenAll K mg B xs.reverse as.reverse := by
  induction xs generalizing as with
  | nil => cases h; exact .nil
  | cons x xs ih =>
    cases h with
    | cons h1 h2 =>
      rw [List.reverse_cons, List.reverse_cons]
      exact (ih h2).append (.cons h1 .nil)
theorem DenAll.dropLast {xs : List V} {as : List D} (h : DenAll K mg B xs as) : DenAll K mg B xs.dropLast as.dropLast := by
  rw [List.dropLast_eq_take, List.dropLast_eq_take, h.length]
  exact h.take _
theorem DenAll.ints : ∀ {vs : List V} {ds : List D} {ns : List Int}, DenAll K mg B vs ds → ints? ds = some ns → vs = ns.map V.int
  | _, _, _, .nil, e => by cases e; rfl
  | _, _, _, .cons h r, e => by
    cases h <;> simp only [ints?] at e <;> first | (cases e; done) | skip
    rename_i ds i
    cases q : ints? ds with
    | none => rw [q] at e; cases e
    | some ms =>
      rw [q] at e
      cases e
      rw [DenAll.ints r q]
      rfl
theorem DenAll.bls : ∀ {vs : List V} {ds : List D} {ns : List Bool}, DenAll K mg B vs ds → bls? ds = some ns → vs = ns.map V.bl
  | _, _, _, .nil, e => by cases e; rfl
  | _, _, _, .cons h r, e => by
    cases h <;> simp only [bls?] at e <;> first | (cases e; done) | skip
    rename_i ds i
    cases q : bls? ds with
    | none => rw [q] at e; cases e
    | some ms =>
      rw [q] at e
      cases e
      rw [DenAll.bls r q]
      rfl
mutual
theorem Den.dp : ∀ {d : D} {v : V} {p : PyData}, Den K mg B v d → d.py = some p → Dp K B v p
  | .non, _, _, h, e => by cases h; cases e; exact .non
  | .bl b, _, _, h, e => by cases h; cases e; exact .bl _
  | .int b, _, _, h, e => by cases h; cases e; exact .int _
  | .str b, _, _, h, e => by cases h; cases e; exact .str _
  | .ty _, _, _, _, e => by cases e
  | .ins _ _, _, _, _, e => by cases e
  | .exn _ _, _, _, _, e => by cases e
  | .lst ds, _, _, h, e => by
    cases h with
    | lst hs ha =>
      rw [D.py] at e
      cases q : pys ds with
      | none => rw [q] at e; cases e
      | some ps =>
        rw [q] at e
        cases e
        exact .lst hs (DenAll.dp ha q)
  | .tup ds, _, _, h, e => by
    cases h with
    | tup hs ha =>
      rw [D.py] at e
      cases q : pys ds with
      | none => rw [q] at e; cases e
      | some ps =>
        rw [q] at e
        cases e
        exact .tup hs (DenAll.dp ha q)
theorem DenAll.dp : ∀ {ds : List D} {vs : List V} {ps : List PyData}, DenAll K mg B vs ds → pys ds = some ps → DpAll K B vs ps
  | [], _, _, h, e => by cases h; rw [pys] at e; cases e; exact .nil
  | d :: ds, _, _, h, e => by
    cases h with
    | cons h1 h2 =>
      rw [pys] at e
      cases q : d.py with
      | none => rw [q] at e; cases e
      | some x =>
        cases q2 : pys ds with
        | none => rw [q, q2] at e; cases e
        | some xs =>
          rw [q, q2] at e
          cases e
          exact .cons (Den.dp h1 q) (DenAll.dp h2 q2)
end
mutual
theorem dp_mono {H H' : Hp} (e : Same H H') : ∀ {v : V} {d : PyData}, Dp K H v d → Dp K H' v d
  | _, _, .non => .non
  | _, _, .bl b => .bl b
  | _, _, .int i => .int i
  | _, _, .str x => .str x
  | _, _, .lst h r => .lst (same_l e h) (dpAll_mono e r)
  | _, _, .tup h r => .tup (same_t e h) (dpAll_mono e r)
theorem dpAll_mono {H H' : Hp} (e : Same H H') : ∀ {vs : List V} {ds : List PyData}, DpAll K H vs ds → DpAll K H' vs ds
  | _, _, .nil => .nil
  | _, _, .cons h r => .cons (dp_mono e h) (dpAll_mono e r)
end
end
theorem same_new {H : Hp} {p : Addr} {o : HO} (h : H p = none) : Same H (L2.upd H p o) := fun a u e => by
  rw [upd_ne (ne_of_none e h)]
  exact e

/-! ### a frame's slots and its cells -/
/-- a cell at a -/
def CellAt (K : PySem.W.Frag) (mg : Str → Option Value) (B H : Hp) (a : Addr) : Cell → Prop
  | .lst ds => ∃ xs, H a = some (.lst xs) ∧ DenAll K mg B xs ds
  | .obj c gs => ∃ C dx fs, H a = some (.ins C dx fs) ∧ mg (Str.ofString c) = some (.ref C) ∧ DenF K mg B fs gs
/-- where the cells are -/
abbrev Mu := Nat → Option Addr
def SlAt (K : PySem.W.Frag) (mg : Str → Option Value) (B H : Hp) (μ : Mu) (i : Nat) : Sl → Prop
  | .own c => ∃ a, μ i = some a ∧ B a = none ∧ CellAt K mg B H a c
  | .lent c => ∃ a, μ i = some a ∧ B a = none ∧ CellAt K mg B H a c
  | _ => μ i = none
def NameAt (K : PySem.W.Frag) (mg : Str → Option Value) (B : Hp) (μ : Mu) (i : Nat) (o : Option (Option V)) : Sl → Prop
  | .un => True
  | .val d => ∃ v, o = some (some v) ∧ Den K mg B v d
  | .own _ => ∃ a, μ i = some a ∧ o = some (some (.ref a))
  | .al h => ∃ a, μ h = some a ∧ o = some (some (.ref a))
  | .lent _ => False
structure Rel (K : PySem.W.Frag) (mg : Str → Option Value) (N : Nat) (e : Env) (μ : Mu) (B H : Hp) (σ : L2.St) : Prop where
  len : σ.length = N
  le : N ≤ e.length
  ex : Same B H
  cell : ∀ (i : Nat) s, e[i]? = some s → SlAt K mg B H μ i s
  out : ∀ i, e.length ≤ i → μ i = none
  inj : ∀ i j a, μ i = some a → μ j = some a → i = j
  name : ∀ (i : Nat) s, i < N → e[i]? = some s → NameAt K mg B μ i σ[i]? s
  hid : ∀ (i : Nat) s, N ≤ i → e[i]? = some s → ∃ c, s = .lent c
  al : ∀ (i h : Nat), e[i]? = some (Sl.al h) → N ≤ h ∧ h < e.length
/-- what goes on from one state to another -/
structure Ext (N : Nat) (μ : Mu) (B H : Hp) (μ' : Mu) (B' H' : Hp) : Prop where
  b : Same B B'
  h : ∀ a o, H a = some o → (∀ i, μ i ≠ some a) → H' a = some o
  m : ∀ i a, μ' i = some a → (∃ j, μ j = some a) ∨ H a = none
  n : ∀ a o, B' a = some o → B a = some o ∨ H a = none ∨ ∃ j, μ j = some a
  l : ∀ i, N ≤ i → μ' i = μ i
  t : ∀ a o, H a = some o → ∃ o', H' a = some o'
theorem Ext.refl {N : Nat} {μ : Mu} {B H : Hp} : Ext N μ B H μ B H := ⟨Same.refl B, fun _ _ e _ => e, fun i a e => .inl ⟨i, e⟩, fun _ _ e => .inl e, fun _ _ => rfl, fun _ o e => ⟨o, e⟩⟩
theorem Ext.trans {N : Nat} {μ μ1 μ2 : Mu} {B H B1 H1 B2 H2 : Hp} (a : Ext N μ B H μ1 B1 H1) (c : Ext N μ1 B1 H1 μ2 B2 H2) : Ext N μ B H μ2 B2 H2 where
  b := a.b.trans c.b
  h := fun x o e nm => c.h x o (a.h x o e nm) fun i q => by
    rcases a.m i x q with ⟨j, z⟩ | z
    · exact nm j z
    · rw [e] at z; cases z
  m := fun i x q => by
    rcases c.m i x q with ⟨j, z⟩ | z
    · exact a.m j x z
    · cases e : H x with
      | none => exact .inr rfl
      | some o =>
        obtain ⟨o', q'⟩ := a.t x o e
        rw [q'] at z; cases z
  n := fun x o e => by
    rcases c.n x o e with z | z | ⟨j, z⟩
    · exact a.n x o z
    · cases e : H x with
      | none => exact .inr (.inl rfl)
      | some o =>
        obtain ⟨o', q'⟩ := a.t x o e
        rw [q'] at z; cases z
    · rcases a.m j x z with y | y
      · exact .inr (.inr y)
      · exact .inr (.inl y)
  l := fun i hi => (c.l i hi).trans (a.l i hi)
  t := fun x o e => by
    obtain ⟨o', q'⟩ := a.t x o e
    exact c.t x o' q'
/-- a value -/
def DenW (K : PySem.W.Frag) (mg : Str → Option Value) (N : Nat) (H0 : Hp) (μ : Mu) (B H : Hp) (σ : L2.St) (v : V) : W → Prop
  | .d x => Den K mg B v x
  | .fr c => ∃ a, v = .ref a ∧ H0 a = none ∧ B a = none ∧ (∀ i, μ i ≠ some a) ∧ CellAt K mg B H a c
  | .pl i => (i < N ∧ σ[i]? = some (some v)) ∨ (N ≤ i ∧ ∃ a, μ i = some a ∧ v = .ref a)
section
variable {K : PySem.W.Frag} {mg : Str → Option Value} {N : Nat} {μ μ' : Mu} {H0 B H B' H' : Hp} {σ : L2.St} {v : V} {w : W} {e e' : Env}
theorem CellAt.mono {a : Addr} {c : Cell} (eb : Same B B') (eh : ∀ o, H a = some o → H' a = some o) (h : CellAt K mg B H a c) : CellAt K mg B' H' a c := by
  cases c with
  | lst ds => obtain ⟨xs, h1, h2⟩ := h; exact ⟨xs, eh _ h1, h2.mono eb⟩
  | obj c gs => obtain ⟨C, dx, fs, h1, h2, h3⟩ := h; exact ⟨C, dx, fs, eh _ h1, h2, h3.mono eb⟩
theorem CellAt.there {a : Addr} {c : Cell} (h : CellAt K mg B H a c) : ∃ o, H a = some o := by
  cases c with
  | lst ds => obtain ⟨xs, h1, h2⟩ := h; exact ⟨_, h1⟩
  | obj c gs => obtain ⟨C, dx, fs, h1, h2, h3⟩ := h; exact ⟨_, h1⟩
theorem DenW.go (x : Ext N μ B H μ' B' H') (h : DenW K mg N H0 μ B H σ v w) : DenW K mg N H0 μ' B' H' σ v w := by
  cases w with
  | d y => exact Den.mono x.b h
  | fr c =>
    obtain ⟨a, rfl, h0, h1, h2, h3⟩ := h
    obtain ⟨o, ho⟩ := h3.there
    refine ⟨a, rfl, h0, ?_, fun i q => ?_, h3.mono x.b fun o' e => x.h a o' e h2⟩
    · cases q : B' a with
      | none => rfl
      | some u =>
        rcases x.n a u q with z | z | ⟨j, z⟩
        · rw [h1] at z; cases z
        · rw [ho] at z; cases z
        · exact absurd z (h2 j)
    · rcases x.m i a q with ⟨j, z⟩ | z
      · exact h2 j z
      · rw [ho] at z; cases z
  | pl i =>
    rcases h with h | ⟨h1, a, h2, h3⟩
    · exact .inl h
    · exact .inr ⟨h1, a, (x.l i h1).trans h2, h3⟩
theorem none_back {H0 H1 : Hp} (t : ∀ a o, H0 a = some o → ∃ o', H1 a = some o') {a : Addr} (h : H1 a = none) : H0 a = none := by
  cases q : H0 a with
  | none => rfl
  | some o =>
    obtain ⟨o', e⟩ := t a o q
    rw [e] at h; cases h
theorem DenW.back {H1 : Hp} (t : ∀ a o, H0 a = some o → ∃ o', H1 a = some o') (h : DenW K mg N H1 μ B H σ v w) : DenW K mg N H0 μ B H σ v w := by
  cases w with
  | d y => exact h
  | fr c =>
    obtain ⟨a, h1, h2, h3⟩ := h
    exact ⟨a, h1, none_back t h2, h3⟩
  | pl i => exact h
end
end Py
end
section
set_option Elab.async false
set_option linter.all false
set_option maxRecDepth 100000
namespace Py
open PySem PySem.Spec PyProof.Rows L2

/-! ### what is wanted of a result -/
/-- an exception in the air -/
def DenX (K : PySem.W.Frag) (mg : Str → Option Value) (H0 B H : Hp) (cls : Value) (d : Option Addr) (x : Er) : Prop :=
  ∃ (C dd : Addr) (fs : List (Str × V)), cls = .ref C ∧ d = some dd ∧ mg (Str.ofString x.c) = some (.ref C) ∧ H dd = some (.xd fs) ∧ DenF K mg B fs x.fs ∧ H0 dd = none
theorem DenX.back {K : PySem.W.Frag} {mg : Str → Option Value} {H0 H1 B H : Hp} {cls : Value} {d : Option Addr} {x : Er} (t : ∀ a o, H0 a = some o → ∃ o', H1 a = some o') (h : DenX K mg H1 B H cls d x) : DenX K mg H0 B H cls d x := by
  obtain ⟨C, dd, fs, h1, h2, h3, h4, h5, h6⟩ := h
  exact ⟨C, dd, fs, h1, h2, h3, h4, h5, none_back t h6⟩
/-- what a value is for a result: the heap at the start, then the state now -/
abbrev Dn (β α : Type) := Hp → Mu → Hp → Hp → L2.St → β → α → Prop
def BackD {β α : Type} (dn : Dn β α) : Prop := ∀ (H0 H1 : Hp), (∀ a o, H0 a = some o → ∃ o', H1 a = some o') → ∀ μ B H σ v a, dn H1 μ B H σ v a → dn H0 μ B H σ v a
section
variable (K : PySem.W.Frag) (mg : Str → Option Value) (N : Nat) (Wx : WX)
def Post {α β : Type} (dn : Dn β α) (μ : Mu) (B H : Hp) (σ : L2.St) (Q : β → Hp → Prop) : R α → Prop
  | .ok a e' => ∀ v μ' B' H', Ext N μ B H μ' B' H' → Rel K mg N e' μ' B' H' σ → dn H μ' B' H' σ v a → Q v H'
  | .exc x e' => ∀ cls d μ' B' H', Ext N μ B H μ' B' H' → Rel K mg N e' μ' B' H' σ → DenX K mg H B' H' cls d x → Wx cls d σ H'
  | .fail => False
def Snd {α β : Type} (dn : Dn β α) (t : L2.St → Hp → (β → Hp → Prop) → Prop) (m : M α) : Prop :=
  ∀ e μ B H σ Q, Rel K mg N e μ B H σ → Post K mg N Wx dn μ B H σ Q (m e) → t σ H Q
end
section
variable {K : PySem.W.Frag} {mg : Str → Option Value} {N : Nat} {Wx : WX} {α β γ δ : Type} {dn : Dn β α} {dn2 : Dn δ γ} {μ μ1 : Mu} {B H B1 H1 : Hp} {σ : L2.St}
theorem Post.go {Q : β → Hp → Prop} {r : R α} (bk : BackD dn) (x : Ext N μ B H μ1 B1 H1) (h : Post K mg N Wx dn μ B H σ Q r) : Post K mg N Wx dn μ1 B1 H1 σ Q r := by
  cases r with
  | ok a e => exact fun v μ' B' H' y r d => h v μ' B' H' (x.trans y) r (bk _ _ x.t _ _ _ _ _ _ d)
  | exc z e => exact fun c d μ' B' H' y r dx => h c d μ' B' H' (x.trans y) r (dx.back x.t)
  | fail => exact h
/-- m first, then f: what m's reading hands on. μ0 B0 H0: the state at the start of it all -/
theorem Snd.bnd {t : L2.St → Hp → (β → Hp → Prop) → Prop} {m : M α} {f : α → M γ} {e : Env} {Q : δ → Hp → Prop} {R' : β → Hp → Prop} {μ0 : Mu} {B0 H0 : Hp} (ht : Snd K mg N Wx dn t m) (x0 : Ext N μ0 B0 H0 μ B H) (hR : Rel K mg N e μ B H σ)
    (hp : Post K mg N Wx dn2 μ0 B0 H0 σ Q (bnd m f e))
    (k : ∀ a e1 x μ1 B1 H1, Ext N μ0 B0 H0 μ1 B1 H1 → Ext N μ B H μ1 B1 H1 → Rel K mg N e1 μ1 B1 H1 σ → dn H μ1 B1 H1 σ x a → Post K mg N Wx dn2 μ0 B0 H0 σ Q (f a e1) → R' x H1) : t σ H R' := by
  refine ht e μ B H σ R' hR ?_
  unfold Py.bnd at hp
  cases q : m e with
  | ok a e1 =>
    rw [q] at hp
    exact fun v μ' B' H' x r d => k a e1 v μ' B' H' (x0.trans x) x r d hp
  | exc z e1 =>
    rw [q] at hp
    exact fun c d μ' B' H' y r dx => hp c d μ' B' H' (x0.trans y) r (dx.back x0.t)
  | fail =>
    rw [q] at hp
    exact hp
theorem Post.ok {a : α} {e : Env} {Q : β → Hp → Prop} {v : β} (h : Post K mg N Wx dn μ B H σ Q (.ok a e)) (x : Ext N μ B H μ1 B1 H1) (r : Rel K mg N e μ1 B1 H1 σ) (d : dn H μ1 B1 H1 σ v a) : Q v H1 := h v μ1 B1 H1 x r d
end

/-! ### a new object -/
section
variable {K : PySem.W.Frag} {mg : Str → Option Value} {N : Nat} {μ : Mu} {B H : Hp} {σ : L2.St} {e : Env} {p : Addr} {o : HO}
theorem Rel.nomu (r : Rel K mg N e μ B H σ) (hp : H p = none) : ∀ i, μ i ≠ some p := fun i q => by
  by_cases hi : i < e.length
  · have c := r.cell i e[i] (List.getElem?_eq_getElem hi)
    cases hs : e[i] with
    | own c' =>
      rw [hs] at c
      obtain ⟨a, h1, _, h3⟩ := c
      rw [h1] at q; cases q
      obtain ⟨u, hu⟩ := h3.there
      rw [hp] at hu; cases hu
    | lent c' =>
      rw [hs] at c
      obtain ⟨a, h1, _, h3⟩ := c
      rw [h1] at q; cases q
      obtain ⟨u, hu⟩ := h3.there
      rw [hp] at hu; cases hu
    | un => rw [hs] at c; rw [show μ i = none from c] at q; cases q
    | val d => rw [hs] at c; rw [show μ i = none from c] at q; cases q
    | al h => rw [hs] at c; rw [show μ i = none from c] at q; cases q
  · rw [r.out i (by omega)] at q; cases q
theorem Rel.base (r : Rel K mg N e μ B H σ) (hp : H p = none) : B p = none := by
  cases q : B p with
  | none => rfl
  | some u => rw [r.ex p u q] at hp; cases hp
theorem SlAt.mono {B' H' : Hp} {i : Nat} {s : Sl} (eb : Same B B') (h : SlAt K mg B H μ i s) (hb : ∀ a, μ i = some a → B a = none → B' a = none) (hh : ∀ a o, μ i = some a → H a = some o → H' a = some o) : SlAt K mg B' H' μ i s := by
  cases s with
  | own c => obtain ⟨a, h1, h2, h3⟩ := h; exact ⟨a, h1, hb a h1 h2, h3.mono eb fun o' z => hh a o' h1 z⟩
  | lent c => obtain ⟨a, h1, h2, h3⟩ := h; exact ⟨a, h1, hb a h1 h2, h3.mono eb fun o' z => hh a o' h1 z⟩
  | un => exact h
  | val d => exact h
  | al k => exact h
theorem NameAt.mono {B' : Hp} {i : Nat} {o : Option (Option V)} {s : Sl} (eb : Same B B') (h : NameAt K mg B μ i o s) : NameAt K mg B' μ i o s := by
  cases s with
  | val d => obtain ⟨v, h1, h2⟩ := h; exact ⟨v, h1, h2.mono eb⟩
  | un => trivial
  | own c => exact h
  | al k => exact h
  | lent c => exact h
/-- more is there, and more is data: cells stay -/
theorem Rel.more {B' H' : Hp} (r : Rel K mg N e μ B H σ) (eb : Same B B') (ex : Same B' H') (hb : ∀ i a, μ i = some a → B a = none → B' a = none) (hh : ∀ i a o, μ i = some a → H a = some o → H' a = some o) : Rel K mg N e μ B' H' σ where
  len := r.len
  le := r.le
  ex := ex
  cell := fun i s q => (r.cell i s q).mono eb (hb i) (hh i)
  out := r.out
  inj := r.inj
  name := fun i s hi q => (r.name i s hi q).mono eb
  hid := r.hid
  al := r.al
/-- a new object, not data (yet) -/
theorem Rel.new (r : Rel K mg N e μ B H σ) (hp : H p = none) : Rel K mg N e μ B (L2.upd H p o) σ :=
  r.more (Same.refl B) (r.ex.trans (same_new hp)) (fun _ _ _ q => q) fun i a o' _ q => same_new hp a o' q
theorem ext_new (hp : H p = none) : Ext N μ B H μ B (L2.upd H p o) where
  b := Same.refl B
  h := fun a o' q _ => same_new hp a o' q
  m := fun i a q => .inl ⟨i, q⟩
  n := fun a o' q => .inl q
  l := fun _ _ => rfl
  t := fun a o' q => ⟨o', same_new hp a o' q⟩
/-- what stands at p, no cell, is data from now on -/
theorem Rel.add (r : Rel K mg N e μ B H σ) (hB : B p = none) (hH : H p = some o) (nm : ∀ i, μ i ≠ some p) : Rel K mg N e μ (L2.upd B p o) H σ :=
  r.more (same_new hB) (fun a u q => by
    by_cases hz : a = p
    · subst hz; rw [upd_same] at q; cases q; exact hH
    · rw [upd_ne hz] at q; exact r.ex a u q) (fun i a q n => by rw [upd_ne (fun z => nm i (by rw [← z]; exact q))]; exact n) fun _ _ _ _ q => q
theorem ext_add (hB : B p = none) {H0 : Hp} (hp : H0 p = none) (x : Ext N μ B H0 μ B H) : Ext N μ B H0 μ (L2.upd B p o) H where
  b := same_new hB
  h := x.h
  m := x.m
  n := fun a u q => by
    by_cases hz : a = p
    · subst hz; exact .inr (.inl hp)
    · rw [upd_ne hz] at q; exact .inl q
  l := x.l
  t := x.t
end

/-! ### the judgements -/
section
variable (X : Cx) (Wx : WX)
abbrev Cx.n (X : Cx) : Nat := X.N.length
def dW : Dn V W := fun H0 μ B H σ v w => DenW X.K X.mg X.N.length H0 μ B H σ v w
def dA : Dn (List V) (List W) := fun H0 μ B H σ vs ws => Paired (fun v w => DenW X.K X.mg X.N.length H0 μ B H σ v w) vs ws
def dB : Dn Bool Bool := fun _ _ _ _ _ v w => v = w
def dO : Dn (Option Int) (Option Int) := fun _ _ _ _ _ v w => v = w
abbrev SndX {α β : Type} (dn : Dn β α) (t : L2.St → Hp → (β → Hp → Prop) → Prop) (m : M α) : Prop := Snd X.K X.mg X.N.length Wx dn t m
/-- the reading that m's meaning gives: it hangs on the names and the written part alone -/
def rdOf (K : PySem.W.Frag) (mg : Str → Option Value) (N : Nat) (Wx : WX) {α β : Type} (dn : Dn β α) (m : M α) : L2.St → Hp → (β → Hp → Prop) → Prop := fun σ H Q => ∃ e μ B, Rel K mg N e μ B H σ ∧ Post K mg N Wx dn μ B H σ Q (m e)
theorem snd_rd {K : PySem.W.Frag} {mg : Str → Option Value} {N : Nat} {Wx : WX} {α β : Type} {dn : Dn β α} {m : M α} : Snd K mg N Wx dn (rdOf K mg N Wx dn m) m := fun e μ B H σ Q r p => ⟨e, μ, B, r, p⟩
abbrev rdX {α β : Type} (dn : Dn β α) (m : M α) : L2.St → Hp → (β → Hp → Prop) → Prop := rdOf X.K X.mg X.N.length Wx dn m
structure SE (e : Expr) (m : M W) : Prop where
  p : PE X e (rdX X Wx (dW X) m)
structure ST (e : Expr) (m : M Bool) : Prop where
  p : PT X e (rdX X Wx dB m)
structure SPW (e : Expr) (m : M Bool) : Prop where
  p : PW X e (rdX X Wx dB m)
structure STs (es : List Expr) (m : M Bool) : Prop where
  p : PTs X es (rdX X Wx dB m)
structure SA (es : List Expr) (m : M (List W)) : Prop where
  p : PA X es (rdX X Wx (dA X) m)
structure SO (e : Option Expr) (m : M (Option Int)) : Prop where
  p : PO X e (rdX X Wx dO m)
end
section
variable {X : Cx} {Wx : WX}
theorem SE.of {e : Expr} {m : M W} (h : ∃ te, PE X e te ∧ SndX X Wx (dW X) te m) : SE X Wx e m :=
  let ⟨te, p, s⟩ := h; ⟨⟨fun pins st σ H Q I ⟨e, μ, B, r, q⟩ => p.run pins st σ H Q I (s e μ B H σ Q r q)⟩⟩
theorem SE.ex {e : Expr} {m : M W} (h : SE X Wx e m) : ∃ te, PE X e te ∧ SndX X Wx (dW X) te m := ⟨_, h.p, snd_rd⟩
theorem ST.of {e : Expr} {m : M Bool} (h : ∃ te, PT X e te ∧ SndX X Wx dB te m) : ST X Wx e m :=
  let ⟨te, p, s⟩ := h; ⟨⟨fun pins st σ H Q I ⟨e, μ, B, r, q⟩ => p.run pins st σ H Q I (s e μ B H σ Q r q)⟩⟩
theorem ST.ex {e : Expr} {m : M Bool} (h : ST X Wx e m) : ∃ te, PT X e te ∧ SndX X Wx dB te m := ⟨_, h.p, snd_rd⟩
theorem SPW.of {e : Expr} {m : M Bool} (h : ∃ te, PW X e te ∧ SndX X Wx dB te m) : SPW X Wx e m :=
  let ⟨te, p, s⟩ := h; ⟨⟨fun whole pins st σ H Q I ⟨e, μ, B, r, q⟩ => p.run whole pins st σ H Q I (s e μ B H σ Q r q)⟩⟩
theorem SPW.ex {e : Expr} {m : M Bool} (h : SPW X Wx e m) : ∃ te, PW X e te ∧ SndX X Wx dB te m := ⟨_, h.p, snd_rd⟩
theorem STs.of {e : List Expr} {m : M Bool} (h : ∃ te, PTs X e te ∧ SndX X Wx dB te m) : STs X Wx e m :=
  let ⟨te, p, s⟩ := h; ⟨⟨fun pins st σ H Q I ⟨e, μ, B, r, q⟩ => p.run pins st σ H Q I (s e μ B H σ Q r q)⟩⟩
theorem STs.ex {e : List Expr} {m : M Bool} (h : STs X Wx e m) : ∃ te, PTs X e te ∧ SndX X Wx dB te m := ⟨_, h.p, snd_rd⟩
theorem SA.of {e : List Expr} {m : M (List W)} (h : ∃ te, PA X e te ∧ SndX X Wx (dA X) te m) : SA X Wx e m :=
  let ⟨te, p, s⟩ := h; ⟨⟨fun pos pins st σ H Q I ⟨e, μ, B, r, q⟩ => p.run pos pins st σ H Q I (s e μ B H σ Q r q)⟩⟩
theorem SA.ex {e : List Expr} {m : M (List W)} (h : SA X Wx e m) : ∃ te, PA X e te ∧ SndX X Wx (dA X) te m := ⟨_, h.p, snd_rd⟩
theorem SO.of {e : Option Expr} {m : M (Option Int)} (h : ∃ te, PO X e te ∧ SndX X Wx dO te m) : SO X Wx e m :=
  let ⟨te, p, s⟩ := h; ⟨⟨fun pins st σ H Q I ⟨e, μ, B, r, q⟩ => p.run pins st σ H Q I (s e μ B H σ Q r q)⟩⟩
theorem SO.ex {e : Option Expr} {m : M (Option Int)} (h : SO X Wx e m) : ∃ te, PO X e te ∧ SndX X Wx dO te m := ⟨_, h.p, snd_rd⟩
end

section
variable {X : Cx} {Wx : WX} {e a b c : Expr} {es : List Expr} {ma mb mc : M W} {pos : Pos} {μ : Mu} {B H : Hp} {σ : L2.St} {env : Env}
theorem dA.go {μ' : Mu} {H0 B' H' : Hp} (x : Ext X.N.length μ B H μ' B' H') : ∀ {vs : List V} {ws : List W}, dA X H0 μ B H σ vs ws → dA X H0 μ' B' H' σ vs ws
  | _, _, .nil => .nil
  | _, _, .cons h r => .cons (DenW.go x h) (dA.go x r)
theorem back_W : BackD (dW X) := fun H0 H1 t μ B H σ v a h => DenW.back t h
theorem dA.back {H0 H1 : Hp} (t : ∀ a o, H0 a = some o → ∃ o', H1 a = some o') : ∀ {vs : List V} {ws : List W}, dA X H1 μ B H σ vs ws → dA X H0 μ B H σ vs ws
  | _, _, .nil => .nil
  | _, _, .cons h r => .cons (DenW.back t h) (dA.back t r)
theorem back_A : BackD (dA X) := fun H0 H1 t μ B H σ v a h => dA.back t h
theorem back_B : BackD dB := fun H0 H1 t μ B H σ v a h => h
theorem back_O : BackD dO := fun H0 H1 t μ B H σ v a h => h

/-! ### names, constants -/
theorem snd_var (i : Nat) (hi : i < X.N.length) : SndX X Wx (dW X) (tVar i) (eVar i) := by
  intro e μ B H σ Q r h
  have he : i < e.length := Nat.lt_of_lt_of_le hi r.le
  have g := List.getElem?_eq_getElem he
  have nm := r.name i _ hi g
  unfold eVar at h
  rw [g] at h
  cases hs : e[i] with
  | un => rw [hs] at h; exact h.elim
  | lent c => rw [hs] at h; exact h.elim
  | val d =>
    rw [hs] at h nm
    obtain ⟨v, h1, h2⟩ := nm
    exact ⟨v, h1, h.ok Ext.refl r h2⟩
  | own c =>
    rw [hs] at h nm
    obtain ⟨a, h1, h2⟩ := nm
    exact ⟨_, h2, h.ok Ext.refl r (.inl ⟨hi, h2⟩)⟩
  | al k =>
    rw [hs] at h nm
    obtain ⟨a, h1, h2⟩ := nm
    exact ⟨_, h2, h.ok Ext.refl r (.inr ⟨(r.al i k (by rw [g, hs])).1, a, h1, rfl⟩)⟩
theorem se_var (i : Nat) {x : Str} (hN : X.N[i]? = some x := by rfl) (hv : Vis X.env.scope x := by first | exact Or.inl rfl | exact Or.inr (Or.inl rfl) | exact Or.inr (Or.inr rfl)) (hd : (x == ("__debug__" : Str)) = false := by decide)
    (hcd : (x == ("__classdict__" : Str)) = false := by decide) : SE X Wx (.Name x pos) (eVar i) :=
  .of ⟨_, pe_var hN hv hd hcd, snd_var i (List.getElem?_eq_some_iff.mp hN).1⟩
theorem snd_c {v : V} {d : D} (h : ∀ B, Den X.K X.mg B v d) : SndX X Wx (dW X) (tC v) (eC d) := fun e μ B H σ Q r p => p.ok Ext.refl r (h B)
theorem se_int {i : Int} {j : Nat} : SE X Wx (.Constant (.int i) j pos) (eC (.int i)) := .of ⟨_, pe_int, snd_c fun _ => .int i⟩
theorem se_bl {i : Bool} {j : Nat} : SE X Wx (.Constant (.bool i) j pos) (eC (.bl i)) := .of ⟨_, pe_bl, snd_c fun _ => .bl i⟩
theorem se_non {j : Nat} : SE X Wx (.Constant .none j pos) (eC .non) := .of ⟨_, pe_non, snd_c fun _ => .non⟩
theorem se_str {x : Str} {j : Nat} : SE X Wx (.Constant (.str x) j pos) (eC (.str x)) := .of ⟨_, pe_str, snd_c fun _ => .str x⟩
/-- a module's constant -/
theorem se_glob {x : Str} {v : V} {u : Value} {d : D} (hg : Gl X x) (hm : X.mg x = some u) (r : RelV v u) (hd : ∀ B, Den X.K X.mg B v d) (hdb : (x == ("__debug__" : Str)) = false := by decide) : SE X Wx (.Name x pos) (eC d) :=
  .of ⟨_, pe_glob hg hm r hdb, snd_c hd⟩
/-- a built-in class as a value -/
theorem se_ty {x : Str} {n : String} (hg : Gl X x) (hm : X.mg x = none) (hv : bootBuiltins x = some (.type n)) (hn : x ≠ "__name__" := by decide) (hd : (x == ("__debug__" : Str)) = false := by decide) : SE X Wx (.Name x pos) (eC (.ty n)) :=
  .of ⟨_, pe_bltn (v := .ty n) hg hm hv rfl hn hd, snd_c fun _ => .ty n⟩

/-! ### what a value shows -/
/-- v shows d: data, or a cell as it stands -/
def View (K : PySem.W.Frag) (mg : Str → Option Value) (B H : Hp) (v : V) (d : D) : Prop :=
  Den K mg B v d ∨ ∃ a c, v = .ref a ∧ d = c.toD ∧ CellAt K mg B H a c
theorem view_of {v : V} {w : W} {d : D} {H0 : Hp} (r : Rel X.K X.mg X.N.length env μ B H σ) (h : DenW X.K X.mg X.N.length H0 μ B H σ v w) (q : vw w env = some d) : View X.K X.mg B H v d := by
  cases w with
  | d x => cases q; exact .inl h
  | fr c =>
    cases q
    obtain ⟨a, h1, _, _, _, h2⟩ := h
    exact .inr ⟨a, c, h1, rfl, h2⟩
  | pl i =>
    simp only [vw] at q
    have lt : ∀ s, env[i]? = some s → i < env.length := fun s z => (List.getElem?_eq_some_iff.mp z).1
    split at q
    · rename_i c z
      cases q
      have hi : i < X.N.length := by
        rcases Nat.lt_or_ge i X.N.length with y | y
        · exact y
        · obtain ⟨c', e⟩ := r.hid i _ y z; cases e
      obtain ⟨a, h1, h2⟩ := r.name i _ hi z
      obtain ⟨a', h3, h4, h5⟩ := r.cell i _ z
      rw [h1] at h3; cases h3
      rcases h with ⟨_, y⟩ | ⟨y, _⟩
      · rw [h2] at y; cases y
        exact .inr ⟨a, c, rfl, rfl, h5⟩
      · omega
    · rename_i c z
      cases q
      have hi : X.N.length ≤ i := by
        rcases Nat.lt_or_ge i X.N.length with y | y
        · exact (r.name i _ y z).elim
        · exact y
      obtain ⟨a', h3, h4, h5⟩ := r.cell i _ z
      rcases h with ⟨y, _⟩ | ⟨_, a, y, y2⟩
      · omega
      · rw [h3] at y; cases y
        exact .inr ⟨a', c, y2, rfl, h5⟩
    · rename_i d' z
      cases q
      have hi : i < X.N.length := by
        rcases Nat.lt_or_ge i X.N.length with y | y
        · exact y
        · obtain ⟨c', e⟩ := r.hid i _ y z; cases e
      obtain ⟨v', h1, h2⟩ := r.name i _ hi z
      rcases h with ⟨_, y⟩ | ⟨y, _⟩
      · rw [h1] at y; cases y; exact .inl h2
      · omega
    · cases q
theorem View.seqL {K : PySem.W.Frag} {mg : Str → Option Value} {v : V} {ds : List D} (ex : Same B H) (h : View K mg B H v (.lst ds)) : ∃ a xs, v = .ref a ∧ SqL K H a xs ∧ DenAll K mg B xs ds := by
  rcases h with h | ⟨a, c, h1, h2, h3⟩
  · cases h with
    | lst s r => exact ⟨_, _, rfl, same_l ex s, r⟩
  · cases c with
    | lst es =>
      cases h2
      obtain ⟨xs, h4, h5⟩ := h3
      exact ⟨a, xs, h1, .of h4, h5⟩
    | obj => cases h2
theorem View.seqT {K : PySem.W.Frag} {mg : Str → Option Value} {v : V} {ds : List D} (ex : Same B H) (h : View K mg B H v (.tup ds)) : ∃ a xs, v = .ref a ∧ SqT K H a xs ∧ DenAll K mg B xs ds := by
  rcases h with h | ⟨a, c, h1, h2, h3⟩
  · cases h with
    | tup s r => exact ⟨_, _, rfl, same_t ex s, r⟩
  · cases c <;> cases h2
theorem View.int {K : PySem.W.Frag} {mg : Str → Option Value} {v : V} {i : Int} (h : View K mg B H v (.int i)) : v = .int i := by
  rcases h with h | ⟨a, c, h1, h2, h3⟩
  · cases h; rfl
  · cases c <;> cases h2
theorem View.bl {K : PySem.W.Frag} {mg : Str → Option Value} {v : V} {i : Bool} (h : View K mg B H v (.bl i)) : v = .bl i := by
  rcases h with h | ⟨a, c, h1, h2, h3⟩
  · cases h; rfl
  · cases c <;> cases h2
theorem View.str {K : PySem.W.Frag} {mg : Str → Option Value} {v : V} {i : Str} (h : View K mg B H v (.str i)) : v = .str i := by
  rcases h with h | ⟨a, c, h1, h2, h3⟩
  · cases h; rfl
  · cases c <;> cases h2
theorem View.ty {K : PySem.W.Frag} {mg : Str → Option Value} {v : V} {i : String} (h : View K mg B H v (.ty i)) : v = .ty i := by
  rcases h with h | ⟨a, c, h1, h2, h3⟩
  · cases h; rfl
  · cases c <;> cases h2
theorem View.non {K : PySem.W.Frag} {mg : Str → Option Value} {v : V} {d : D} (h : View K mg B H v d) : decide (v = .non) = isNon d := by
  rcases h with h | ⟨a, c, rfl, rfl, h3⟩
  · cases h <;> rfl
  · cases c <;> rfl
theorem View.dp {K : PySem.W.Frag} {mg : Str → Option Value} {v : V} {d : D} {p : PyData} (ex : Same B H) (h : View K mg B H v d) (q : d.py = some p) : Dp K H v p := by
  rcases h with h | ⟨a, c, rfl, rfl, h3⟩
  · exact dp_mono ex (h.dp q)
  · cases c with
    | lst es =>
      obtain ⟨xs, h4, h5⟩ := h3
      rw [Cell.toD, D.py] at q
      cases z : pys es with
      | none => rw [z] at q; cases q
      | some ps =>
        rw [z] at q; cases q
        exact .lst (.of h4) (dpAll_mono ex (h5.dp z))
    | obj => cases q

/-- what a pure step gives: data at once, new data, a new cell -/
def Res (K : PySem.W.Frag) (mg : Str → Option Value) (B H : Hp) (v : V) (H' : Hp) : W → Prop
  | .d x => (H' = H ∧ Den K mg B v x) ∨ ∃ p o, H p = none ∧ H' = L2.upd H p o ∧ Den K mg (L2.upd B p o) v x
  | .fr c => ∃ p o, H p = none ∧ H' = L2.upd H p o ∧ v = .ref p ∧ CellAt K mg B H' p c
  | .pl _ => False
theorem Res.fin {v : V} {H' : Hp} {w : W} {Q : V → Hp → Prop} {μ0 : Mu} {B0 H0 : Hp} (h : Res X.K X.mg B H v H' w) (x : Ext X.N.length μ0 B0 H0 μ B H) (r : Rel X.K X.mg X.N.length env μ B H σ) (p : Post X.K X.mg X.N.length Wx (dW X) μ0 B0 H0 σ Q (.ok w env)) : Q v H' := by
  cases w with
  | d y =>
    rcases h with ⟨rfl, h⟩ | ⟨q, o, h1, rfl, h2⟩
    · exact p.ok x r h
    · have x1 : Ext X.N.length μ B H μ B (L2.upd H q o) := ext_new h1
      exact p.ok (x.trans (ext_add (r.base h1) h1 x1)) ((r.new h1).add (r.base h1) upd_same (r.nomu h1)) h2
  | fr c =>
    obtain ⟨q, o, h1, rfl, rfl, h2⟩ := h
    exact p.ok (x.trans (ext_new h1)) (r.new h1) ⟨q, rfl, none_back x.t h1, r.base h1, r.nomu h1, h2⟩
  | pl i => exact h.elim

/-! ### operators -/
/-- a reading of an operator by values keeps f -/
def OpS (X : Cx) (r : R2) (f : D → D → Option W) : Prop := ∀ (B H : Hp) (x y : V) (d d' : D) (w : W) (Q : VK), Same B H → View X.K X.mg B H x d → View X.K X.mg B H y d' → f d d' = some w →
  (∀ v H', Res X.K X.mg B H v H' w → Q v H') → r x y H Q
theorem snd_op {r : R2} {f : D → D → Option W} {ta tb : TE} (hr : OpS X r f) (ha : SndX X Wx (dW X) ta ma) (hb : SndX X Wx (dW X) tb mb) : SndX X Wx (dW X) (tOp r ta tb) (eOp f ma mb) := by
  intro e μ B H σ Q rl h
  refine Snd.bnd (R' := fun x H1 => tb σ H1 fun y H2 => r x y H2 Q) ha Ext.refl rl h fun wa e1 x μ1 B1 H1 x1 _ r1 d1 p1 => ?_
  refine Snd.bnd hb x1 r1 p1 fun wb e2 y μ2 B2 H2 x2 y2 r2 d2 p2 => ?_
  have d1' := DenW.go y2 d1
  cases q1 : vw wa e2 with
  | none => rw [q1] at p2; exact p2.elim
  | some u =>
    cases q2 : vw wb e2 with
    | none => rw [q1, q2] at p2; exact p2.elim
    | some u' =>
      rw [q1, q2] at p2
      simp only at p2
      cases q3 : f u u' with
      | none => rw [q3] at p2; exact p2.elim
      | some w =>
        rw [q3] at p2
        exact hr B2 H2 x y u u' w Q r2.ex (view_of r2 d1' q1) (view_of r2 d2 q2) q3 fun v H' z => z.fin x2 r2 p2
theorem snd_un {r : V → Hp → VK → Prop} {f : D → Option W} {ta : TE} (hr : ∀ (B H : Hp) (x : V) (d : D) (w : W) (Q : VK), Same B H → View X.K X.mg B H x d → f d = some w → (∀ v H', Res X.K X.mg B H v H' w → Q v H') → r x H Q)
    (ha : SndX X Wx (dW X) ta ma) : SndX X Wx (dW X) (fun σ H Q => ta σ H fun x H1 => r x H1 Q) (eUn f ma) := by
  intro e μ B H σ Q rl h
  refine Snd.bnd ha Ext.refl rl h fun wa e1 x μ1 B1 H1 x1 _ r1 d1 p1 => ?_
  cases q1 : vw wa e1 with
  | none => rw [q1] at p1; exact p1.elim
  | some u =>
    rw [q1] at p1
    simp only at p1
    cases q3 : f u with
    | none => rw [q3] at p1; exact p1.elim
    | some w =>
      rw [q3] at p1
      exact hr B1 H1 x u w Q r1.ex (view_of r1 d1 q1) q3 fun v H' z => z.fin x1 r1 p1
theorem se_op {op : Operator} {r : R2} {f : D → D → Option W} (ho : OpR X (binaryOp op) r) (hr : OpS X r f) (ha : SE X Wx a ma) (hb : SE X Wx b mb) : SE X Wx (.BinOp a op b pos) (eOp f ma mb) := by
  obtain ⟨ta, pa, sa⟩ := ha.ex
  obtain ⟨tb, pb, sb⟩ := hb.ex
  exact .of ⟨_, pe_op ho pa pb, snd_op hr sa sb⟩
theorem ops_i0 {g : Int → Int → V} {f : Int → Int → D} (h : ∀ i j B, Den X.K X.mg B (g i j) (f i j)) : OpS X (rI0 g) (iOp fun i j => some (f i j)) := by
  intro B H x y d d' w Q ex vx vy q k
  cases d <;> cases d' <;> simp only [iOp] at q <;> try cases q
  rename_i i j
  exact ⟨i, j, vx.int, vy.int, k _ _ (.inl ⟨rfl, h i j B⟩)⟩
theorem ops_i {C : Int → Int → Prop} {g : Int → Int → V} {f : Int → Int → Option D} (h : ∀ i j t, f i j = some t → C i j ∧ ∀ B, Den X.K X.mg B (g i j) t) : OpS X (rI C g) (iOp f) := by
  intro B H x y d d' w Q ex vx vy q k
  cases d <;> cases d' <;> simp only [iOp] at q <;> try cases q
  rename_i i j
  cases z : f i j with
  | none => rw [z] at q; cases q
  | some t =>
    rw [z] at q
    cases q
    obtain ⟨h1, h2⟩ := h i j t z
    exact ⟨i, j, vx.int, vy.int, h1, k _ _ (.inl ⟨rfl, h2 B⟩)⟩
theorem some_if {c : Prop} [Decidable c] {α : Type} {x t : α} (h : (if c then some x else none) = some t) : c ∧ x = t := by
  by_cases z : c
  · rw [if_pos z] at h; cases h; exact ⟨z, rfl⟩
  · rw [if_neg z] at h; cases h
theorem lim_line {n : Nat} (h : n ≤ lim) : n ≤ sizeLine := Nat.le_trans h (by decide)
theorem lim_lt {n : Nat} (h : n < lim) : n < sizeLine := Nat.lt_of_lt_of_le h (by decide)
theorem ops_or {r r' : R2} {f : D → D → Option W} (h : ∀ (B H : Hp) (x y : V) (d d' : D) (w : W) (Q : VK), Same B H → View X.K X.mg B H x d → View X.K X.mg B H y d' → f d d' = some w → (∀ v H', Res X.K X.mg B H v H' w → Q v H') → r x y H Q ∨ r' x y H Q) :
    OpS X (fun x y H Q => r x y H Q ∨ r' x y H Q) f := h
theorem se_sub (ha : SE X Wx a ma) (hb : SE X Wx b mb) : SE X Wx (.BinOp a .Sub b pos) (eOp oSub ma mb) := se_op op_sub (ops_i0 fun i j B => .int (i - j)) ha hb
theorem se_and2 (ha : SE X Wx a ma) (hb : SE X Wx b mb) : SE X Wx (.BinOp a .BitAnd b pos) (eOp oAnd ma mb) := se_op op_and (ops_i0 fun i j B => .int _) ha hb
theorem se_or2 (ha : SE X Wx a ma) (hb : SE X Wx b mb) : SE X Wx (.BinOp a .BitOr b pos) (eOp oOr ma mb) := se_op op_or (ops_i0 fun i j B => .int _) ha hb
theorem se_xor2 (ha : SE X Wx a ma) (hb : SE X Wx b mb) : SE X Wx (.BinOp a .BitXor b pos) (eOp oXor ma mb) := se_op op_xor (ops_i0 fun i j B => .int _) ha hb
theorem se_mod (ha : SE X Wx a ma) (hb : SE X Wx b mb) : SE X Wx (.BinOp a .Mod b pos) (eOp oMod ma mb) := se_op op_mod (ops_i fun i j t z => by obtain ⟨h1, rfl⟩ := some_if z; exact ⟨h1, fun _ => .int _⟩) ha hb
theorem se_div (ha : SE X Wx a ma) (hb : SE X Wx b mb) : SE X Wx (.BinOp a .FloorDiv b pos) (eOp oDiv ma mb) := se_op op_fdiv (ops_i fun i j t z => by obtain ⟨h1, rfl⟩ := some_if z; exact ⟨h1, fun _ => .int _⟩) ha hb
theorem small64_ok {i : Int} (h : small64 i = true) : -(2 ^ 64) < i ∧ i < 2 ^ 64 := by
  unfold small64 at h
  simp only [Bool.and_eq_true, decide_eq_true_eq] at h
  exact h
theorem c_mul {i j : Int} (h : (small64 i || small64 j) = true) : CMul i j := by
  rcases Bool.or_eq_true_iff.mp h with z | z
  · exact .inl (small64_ok z)
  · exact .inr (small64_ok z)
theorem c_pow {i j : Int} (h : okPow i j = true) : CPow i j := by
  unfold okPow at h
  simp only [Bool.and_eq_true, decide_eq_true_eq] at h
  exact ⟨h.1.1, h.1.2, h.2⟩
theorem se_mul (ha : SE X Wx a ma) (hb : SE X Wx b mb) : SE X Wx (.BinOp a .Mult b pos) (eOp oMul ma mb) := se_op op_mul (ops_i fun i j t z => by obtain ⟨h1, rfl⟩ := some_if z; exact ⟨c_mul h1, fun _ => .int _⟩) ha hb
theorem se_pow (ha : SE X Wx a ma) (hb : SE X Wx b mb) : SE X Wx (.BinOp a .Pow b pos) (eOp oPow ma mb) := se_op op_pow (ops_i fun i j t z => by obtain ⟨h1, rfl⟩ := some_if z; exact ⟨c_pow h1, fun _ => .int _⟩) ha hb
theorem se_shl (ha : SE X Wx a ma) (hb : SE X Wx b mb) : SE X Wx (.BinOp a .LShift b pos) (eOp oShl ma mb) := se_op op_shl (ops_i fun i j t z => by obtain ⟨h1, rfl⟩ := some_if z; exact ⟨c_pow h1, fun _ => .int _⟩) ha hb
theorem se_shr (ha : SE X Wx a ma) (hb : SE X Wx b mb) : SE X Wx (.BinOp a .RShift b pos) (eOp oShr ma mb) := se_op op_shr (ops_i fun i j t z => by obtain ⟨h1, rfl⟩ := some_if z; exact ⟨h1, fun _ => .int _⟩) ha hb
theorem se_neg (ha : SE X Wx a ma) : SE X Wx (.UnaryOp .USub a pos) (eUn oNeg ma) := by
  obtain ⟨ta, pa, sa⟩ := ha.ex
  refine .of ⟨_, pe_un un_neg pa, snd_un (r := rU fun i => .int (-i)) (fun B H x d w Q ex vx q k => ?_) sa⟩
  cases d <;> simp only [oNeg] at q <;> cases q
  rename_i i
  exact ⟨i, vx.int, k _ _ (.inl ⟨rfl, .int _⟩)⟩

/-! ### comparisons -/
theorem se_cmp {op : CmpOp} {r : R2} {f : D → D → Option W} (ho : OpR X (compareOp op) r) (hr : OpS X r f) (ha : SE X Wx a ma) (hb : SE X Wx b mb) (hm : behindInMarks op b = false) : SE X Wx (.Compare a [op] [b] pos) (eOp f ma mb) := by
  obtain ⟨ta, pa, sa⟩ := ha.ex
  obtain ⟨tb, pb, sb⟩ := hb.ex
  exact .of ⟨_, pe_cmpR ho pa pb hm, snd_op hr sa sb⟩
theorem snd_tBl {te : TE} (h : SndX X Wx (dW X) te ma) : SndX X Wx dB (tTest te) (tBl ma) := by
  intro e μ B H σ Q rl p
  refine Snd.bnd (t := te) (R' := fun x H' => ∃ k, x = .bl k ∧ Q k H') h Ext.refl rl p fun wa e1 x μ1 B1 H1 x1 _ r1 d1 p1 => ?_
  cases wa with
  | d y =>
    cases y with
    | bl c =>
      cases (show Den X.K X.mg B1 x (.bl c) from d1)
      exact ⟨c, rfl, p1.ok x1 r1 rfl⟩
    | _ => exact p1.elim
  | _ => exact p1.elim
theorem st_cmp {op : CmpOp} {r : R2} {f : D → D → Option W} (ho : OpR X (compareOp op) r) (hr : OpS X r f) (ha : SE X Wx a ma) (hb : SE X Wx b mb) (hm : behindInMarks op b = false) : ST X Wx (.Compare a [op] [b] pos) (tBl (eOp f ma mb)) := by
  obtain ⟨ta, pa, sa⟩ := ha.ex
  obtain ⟨tb, pb, sb⟩ := hb.ex
  exact .of ⟨_, pt_cmpR ho pa pb hm, snd_tBl (snd_op hr sa sb)⟩
theorem ops_cmp {f : Int → Int → Bool} : OpS X (rI0 fun i j => .bl (f i j)) (iCmp f) := by
  intro B H x y d d' w Q ex vx vy q k
  cases d <;> cases d' <;> simp only [iCmp, bW] at q <;> cases q
  rename_i i j
  exact ⟨i, j, vx.int, vy.int, k _ _ (.inl ⟨rfl, .bl _⟩)⟩
theorem ops_lt : OpS X (rI0 fun i j => .bl (decide (i < j))) oLt := ops_cmp
theorem ops_le : OpS X (rI0 fun i j => .bl (decide (i ≤ j))) oLe := ops_cmp
theorem ops_gt : OpS X (rI0 fun i j => .bl (decide (j < i))) oGt := ops_cmp
theorem ops_ge : OpS X (rI0 fun i j => .bl (decide (j ≤ i))) oGe := ops_cmp
theorem eqP_some {d d' : D} {k : Bool} (h : eqP d d' = some k) : ∃ p q, d.py = some p ∧ d'.py = some q ∧ SeqAt.shaped p = true ∧ SeqAt.shaped q = true ∧ k = PyData.eqv p q := by
  unfold eqP at h
  cases h1 : d.py with
  | none => rw [h1] at h; cases h
  | some p =>
    cases h2 : d'.py with
    | none => rw [h1, h2] at h; cases h
    | some q =>
      rw [h1, h2] at h
      simp only at h
      obtain ⟨h3, h4⟩ := some_if h
      simp only [Bool.and_eq_true] at h3
      exact ⟨p, q, rfl, rfl, h3.1, h3.2, h4.symm⟩
theorem den_nonE {K : PySem.W.Frag} {mg : Str → Option Value} {y : V} (h : View K mg B H y .non) : y = .non := by
  rcases h with h | ⟨a, c, rfl, h2, h3⟩
  · cases h; rfl
  · cases c <;> cases h2
theorem eqS_some {K : PySem.W.Frag} {mg : Str → Option Value} {x y : V} : ∀ {d d' : D} {k : Bool}, eqS d d' = some k → View K mg B H x d → View K mg B H y d' → scal x y = true ∧ k = decide (x = y) := by
  intro d d' k h vx vy
  unfold eqS at h
  split at h <;> (try cases h) <;>
    first
    | (cases den_nonE vx; cases den_nonE vy; exact ⟨rfl, by simp⟩)
    | (cases den_nonE vx; cases vy.int; exact ⟨rfl, by simp⟩)
    | (cases den_nonE vx; cases vy.bl; exact ⟨rfl, by simp⟩)
    | (cases den_nonE vx; cases vy.str; exact ⟨rfl, by simp⟩)
    | (cases den_nonE vy; cases vx.int; exact ⟨rfl, by simp⟩)
    | (cases den_nonE vy; cases vx.bl; exact ⟨rfl, by simp⟩)
    | (cases den_nonE vy; cases vx.str; exact ⟨rfl, by simp⟩)
    | (cases vx.int; cases vy.int; exact ⟨rfl, by simp⟩)
    | (cases vx.bl; cases vy.bl; exact ⟨rfl, by simp⟩)
    | (cases vx.str; cases vy.str; exact ⟨rfl, by simp⟩)
    | (cases vx.int; cases vy.str; exact ⟨rfl, by simp⟩)
    | (cases vx.str; cases vy.int; exact ⟨rfl, by simp⟩)
    | (cases vx.bl; cases vy.str; exact ⟨rfl, by simp⟩)
    | (cases vx.str; cases vy.bl; exact ⟨rfl, by simp⟩)
theorem ops_eq : OpS X (fun x y H Q => rEq x y H Q ∨ rEqD X.K x y H Q) oEq := by
  intro B H x y d d' w Q ex vx vy q k
  unfold oEq eqD at q
  cases z : eqS d d' with
  | some c =>
    rw [z] at q
    cases q
    obtain ⟨h1, rfl⟩ := eqS_some z vx vy
    exact .inl ⟨h1, k _ _ (.inl ⟨rfl, .bl _⟩)⟩
  | none =>
    rw [z] at q
    cases z2 : eqP d d' with
    | none => simp only [z2] at q; cases q
    | some c =>
      simp only [z2] at q
      cases q
      obtain ⟨p, p', h1, h2, h3, h4, rfl⟩ := eqP_some z2
      exact .inr ⟨p, p', vx.dp ex h1, vy.dp ex h2, h3, h4, k _ _ (.inl ⟨rfl, .bl _⟩)⟩
theorem ops_ne : OpS X (fun x y H Q => rNe x y H Q ∨ rNeD X.K x y H Q) oNe := by
  intro B H x y d d' w Q ex vx vy q k
  unfold oNe eqD at q
  cases z : eqS d d' with
  | some c =>
    rw [z] at q
    cases q
    obtain ⟨h1, rfl⟩ := eqS_some z vx vy
    exact .inl ⟨h1, k _ _ (.inl ⟨rfl, .bl _⟩)⟩
  | none =>
    rw [z] at q
    cases z2 : eqP d d' with
    | none => simp only [z2] at q; cases q
    | some c =>
      simp only [z2] at q
      cases q
      obtain ⟨p, p', h1, h2, h3, h4, rfl⟩ := eqP_some z2
      exact .inr ⟨p, p', vx.dp ex h1, vy.dp ex h2, h3, h4, k _ _ (.inl ⟨rfl, .bl _⟩)⟩
theorem den_non {K : PySem.W.Frag} {mg : Str → Option Value} {y : V} (h : View K mg B H y .non) : y = .non := by
  rcases h with h | ⟨a, c, rfl, h2, h3⟩
  · cases h; rfl
  · cases c <;> cases h2
theorem ops_isN : OpS X (fun x y H Q => y = .non ∧ Q (.bl (decide (x = .non))) H) oIsN := by
  intro B H x y d d' w Q ex vx vy q k
  cases d' <;> simp only [oIsN, bW] at q <;> cases q
  rw [vx.non]
  exact ⟨den_non vy, k _ _ (.inl ⟨rfl, .bl _⟩)⟩
theorem ops_notN : OpS X (fun x y H Q => y = .non ∧ Q (.bl (!decide (x = .non))) H) oNotN := by
  intro B H x y d d' w Q ex vx vy q k
  cases d' <;> simp only [oNotN, bW] at q <;> cases q
  rw [vx.non]
  exact ⟨den_non vy, k _ _ (.inl ⟨rfl, .bl _⟩)⟩
end
end Py
end
section
set_option Elab.async false
set_option linter.all false
set_option maxRecDepth 100000
namespace Py
open PySem PySem.Spec PyProof.Rows L2
section
variable {X : Cx} {Wx : WX} {e a b c : Expr} {es : List Expr} {ma mb mc : M W} {pos : Pos} {μ : Mu} {B H : Hp} {σ : L2.St} {env : Env}
/-! ### a + b -/
/-- list + list, however they are held -/
def rCatS (K : PySem.W.Frag) : R2 := fun x y H Q => ∃ l b xs zs, x = .ref l ∧ y = .ref b ∧ SqL K H l xs ∧ SqL K H b zs ∧ xs.length + zs.length ≤ sizeLine ∧ ∀ p, H p = none → Q (.ref p) (L2.upd H p (.lst (xs ++ zs)))
theorem op_catS : OpR X (binaryOp .Add) (rCatS X.K) := by
  intro pins s σ H x y v u Q I rx ry h
  obtain ⟨l, b, xs, zs, rfl, rfl, hH, hB, hz, q⟩ := h
  cases rx
  cases ry
  obtain ⟨its, r, ⟨⟨cls, dd, data, sl⟩, n, e, hc, _, hd⟩, _⟩ := I.list hH
  obtain ⟨its2, r2, ⟨⟨cls2, dd2, data2, sl2⟩, n2, e2, hc2, _, hd2⟩, _⟩ := I.list hB
  simp only at hc hd hc2 hd2
  subst hc hd hc2 hd2
  have h1 := r.length
  have h2 := r2.length
  refine concat_meets ⟨_, e, rfl⟩ ⟨_, e2, rfl⟩ noFill_list_add seq_list_add F.slot_list_add F.entry_list_add (F.args_list_add_2 _ _) (list_addW l b its.toArray its2.toArray n n2 dd dd2 sl sl2 (by rw [List.size_toArray, List.size_toArray]; omega)) ⟨e, e2, ?_⟩
  have ea : its.toArray ++ its2.toArray = (its ++ its2).toArray := by simp
  rw [ea]
  exact ⟨.ref _, _, I.lnew (t' := s.toks) (r.append r2) (by rw [List.length_append]; omega), rfl, q _ I.fresh⟩
def rAddS (K : PySem.W.Frag) : R2 := fun x y H Q => (rI0 fun i j => .int (i + j)) x y H Q ∨ (rCatS K x y H Q ∨ (rCatA K x y H Q ∨ ∃ i j, x = .str i ∧ y = .str j ∧ i.length + j.length ≤ sizeLine ∧ Q (.str (i ++ j)) H))
theorem op_addS : OpR X (binaryOp .Add) (rAddS X.K) := op_add.or (op_catS.or (op_catA.or op_add_str))
theorem ops_add : OpS X (rAddS X.K) oAdd := by
  intro B H x y d d' w Q ex vx vy q k
  unfold oAdd at q
  split at q
  · cases q
    rename_i i j
    exact .inl ⟨i, j, vx.int, vy.int, k _ _ (.inl ⟨rfl, .int _⟩)⟩
  · rename_i ds es
    obtain ⟨h1, rfl⟩ := some_if q
    obtain ⟨l, xs, rfl, h2, h3⟩ := vx.seqL ex
    obtain ⟨m, ys, rfl, h4, h5⟩ := vy.seqL ex
    exact .inr (.inl ⟨l, m, xs, ys, rfl, rfl, h2, h4, by rw [h3.length, h5.length]; exact lim_line h1, fun p hp => k _ _ ⟨p, _, hp, rfl, rfl, _, upd_same, h3.append h5⟩⟩)
  · rename_i ds es
    obtain ⟨h1, rfl⟩ := some_if q
    obtain ⟨l, xs, e1, h2, h3⟩ := vx.seqT ex
    obtain ⟨m, ys, e2, h4, h5⟩ := vy.seqT ex
    subst e1
    subst e2
    refine .inr (.inr (.inl ⟨l, m, xs, ys, rfl, rfl, h2, h4, by rw [h3.length, h5.length]; exact lim_line h1, fun z => ?_, fun _ z => ?_, fun _ z p hp => ?_⟩))
    · subst z
      cases h3
      simp only [List.nil_append] at k
      refine k _ _ (.inl ⟨rfl, ?_⟩)
      rcases vy with h | ⟨a, c, h6, h7, h8⟩
      · exact h
      · cases c <;> cases h7
    · subst z
      cases h5
      simp only [List.append_nil] at k
      refine k _ _ (.inl ⟨rfl, ?_⟩)
      rcases vx with h | ⟨a, c, h6, h7, h8⟩
      · exact h
      · cases c <;> cases h7
    · have hB : B p = none := by
        cases z : B p with
        | none => rfl
        | some u => rw [ex p u z] at hp; cases hp
      exact k _ _ (.inr ⟨p, _, hp, rfl, .tup (.of upd_same) ((h3.append h5).mono (same_new hB))⟩)
  · rename_i i j
    obtain ⟨h1, rfl⟩ := some_if q
    exact .inr (.inr (.inr ⟨i, j, vx.str, vy.str, lim_line h1, k _ _ (.inl ⟨rfl, .str _⟩)⟩))
  · cases q
theorem se_add (ha : SE X Wx a ma) (hb : SE X Wx b mb) : SE X Wx (.BinOp a .Add b pos) (eOp oAdd ma mb) := se_op op_addS ops_add ha hb

/-! ### x[i] -/
theorem atI_of {n : Nat} {i : Int} {j : Nat} (h : ixn n i = some j) : L2.ixN n i = some j := h
theorem ops_ix : OpS X (rIx X.K) oIx := by
  intro B H x y d d' w Q ex vx vy q k
  unfold oIx at q
  split at q
  · rename_i ds i
    cases z : ixn ds.length i with
    | none => rw [z] at q; cases q
    | some j =>
      rw [z] at q
      cases z2 : ds[j]? with
      | none => simp only [Option.bind_some, z2] at q; cases q
      | some t =>
        simp only [Option.bind_some, z2] at q
        cases q
        obtain ⟨l, xs, rfl, h2, h3⟩ := vx.seqL ex
        obtain ⟨v, h4, h5⟩ := h3.get z2
        refine .inl ⟨l, xs, i, v, rfl, vy.int, h2, ?_, k _ _ (.inl ⟨rfl, h5⟩)⟩
        unfold L2.atI
        rw [h3.length]
        show ((ixn ds.length i).bind fun j => xs[j]?) = some v
        rw [z]
        exact h4
  · rename_i ds i
    cases z : ixn ds.length i with
    | none => rw [z] at q; cases q
    | some j =>
      rw [z] at q
      cases z2 : ds[j]? with
      | none => simp only [Option.bind_some, z2] at q; cases q
      | some t =>
        simp only [Option.bind_some, z2] at q
        cases q
        obtain ⟨l, xs, rfl, h2, h3⟩ := vx.seqT ex
        obtain ⟨v, h4, h5⟩ := h3.get z2
        refine .inr (.inl ⟨l, xs, i, v, rfl, vy.int, h2, ?_, k _ _ (.inl ⟨rfl, h5⟩)⟩)
        unfold L2.atI
        rw [h3.length]
        show ((ixn ds.length i).bind fun j => xs[j]?) = some v
        rw [z]
        exact h4
  · cases q
theorem se_ix (ha : SE X Wx a ma) (hb : SE X Wx b mb) (hs : PlainIx b := by exact fun _ _ => rfl) : SE X Wx (.Subscript a b pos) (eOp oIx ma mb) := by
  obtain ⟨ta, pa, sa⟩ := ha.ex
  obtain ⟨tb, pb, sb⟩ := hb.ex
  exact .of ⟨_, pe_ix ix_seq pa pb hs, snd_op ops_ix sa sb⟩

/-! ### tests -/
theorem nat_ne_zero (n : Nat) : (n != 0) = ((n : Int) != 0) := by
  cases n with
  | zero => rfl
  | succ n =>
    have h : ((n + 1 : Nat) : Int) ≠ 0 := by omega
    rw [bne_iff_ne.mpr h]
    rfl
theorem st_val (ha : SE X Wx a ma) (he : ∀ whole, isTrue a X.env whole = (do let v ← whole; standAt a.pos; holding [v] (truthy v)) := by intro _; rfl) : ST X Wx a (tTru ma) := by
  obtain ⟨ta, pa, sa⟩ := ha.ex
  refine .of ⟨_, pt_truth pa he, fun e μ B H σ Q rl p => ?_⟩
  refine Snd.bnd sa Ext.refl rl p fun wa e1 x μ1 B1 H1 x1 _ r1 d1 p1 => ?_
  cases q1 : vw wa e1 with
  | none => rw [q1] at p1; exact p1.elim
  | some u =>
    rw [q1] at p1
    simp only at p1
    have vx := view_of r1 d1 q1
    cases q3 : tru u with
    | none => rw [q3] at p1; exact p1.elim
    | some k =>
      rw [q3] at p1
      refine ⟨k, ?_, p1.ok x1 r1 rfl⟩
      unfold TruV
      cases u <;> simp only [tru] at q3
      · cases q3; cases (den_non vx); rfl
      · cases q3; cases vx.bl; rfl
      · cases q3; cases vx.int; rfl
      · obtain ⟨h1, rfl⟩ := some_if q3
        cases vx.str
        exact ⟨lim_line h1, nat_ne_zero _⟩
      · cases q3
      · cases q3
        obtain ⟨l, xs, rfl, h2, h3⟩ := vx.seqL r1.ex
        refine .inl ⟨xs, h2, ?_⟩
        cases h3 <;> rfl
      · cases q3
        obtain ⟨l, xs, rfl, h2, h3⟩ := vx.seqT r1.ex
        refine .inr (.inl ⟨xs, h2, ?_⟩)
        cases h3 <;> rfl
      all_goals (cases q3)
theorem st_not {ta : M Bool} (ha : ST X Wx a ta) : ST X Wx (.UnaryOp .Not a pos) (tNot ta) := by
  obtain ⟨t, pa, sa⟩ := ha.ex
  refine .of ⟨_, pt_not pa, fun e μ B H σ Q rl p => ?_⟩
  refine Snd.bnd (t := t) (R' := fun c H1 => Q (!c) H1) sa Ext.refl rl p fun wa e1 x μ1 B1 H1 x1 _ r1 d1 p1 => ?_
  cases (show x = wa from d1)
  exact p1.ok x1 r1 rfl
theorem spw_and1 {ta : M Bool} (ha : ST X Wx a ta) : SPW X Wx (.BoolOp .And [a] pos) ta := by
  obtain ⟨t, pa, sa⟩ := ha.ex
  exact .of ⟨_, pw_and1 pa, sa⟩
theorem spw_or1 {ta : M Bool} (ha : ST X Wx a ta) : SPW X Wx (.BoolOp .Or [a] pos) ta := by
  obtain ⟨t, pa, sa⟩ := ha.ex
  exact .of ⟨_, pw_or1 pa, sa⟩
theorem snd_and {t u : TT} {ta tb : M Bool} (sa : SndX X Wx dB t ta) (sb : SndX X Wx dB u tb) : SndX X Wx dB (L2.tAnd t u) (tAnd ta tb) := by
  intro e μ B H σ Q rl p
  refine Snd.bnd (t := t) (R' := fun c H1 => if c = true then u σ H1 Q else Q false H1) sa Ext.refl rl p fun wa e1 x μ1 B1 H1 x1 _ r1 d1 p1 => ?_
  cases (show x = wa from d1)
  cases wa with
  | true =>
    rw [if_pos rfl]
    exact sb e1 μ1 B1 H1 σ Q r1 (p1.go back_B x1)
  | false =>
    rw [if_neg Bool.false_ne_true]
    exact p1.ok x1 r1 rfl
theorem snd_or {t u : TT} {ta tb : M Bool} (sa : SndX X Wx dB t ta) (sb : SndX X Wx dB u tb) : SndX X Wx dB (L2.tOr t u) (tOr ta tb) := by
  intro e μ B H σ Q rl p
  refine Snd.bnd (t := t) (R' := fun c H1 => if c = true then Q true H1 else u σ H1 Q) sa Ext.refl rl p fun wa e1 x μ1 B1 H1 x1 _ r1 d1 p1 => ?_
  cases (show x = wa from d1)
  cases wa with
  | true =>
    rw [if_pos rfl]
    exact p1.ok x1 r1 rfl
  | false =>
    rw [if_neg Bool.false_ne_true]
    exact sb e1 μ1 B1 H1 σ Q r1 (p1.go back_B x1)
theorem spw_and {rest : List Expr} {ta tb : M Bool} (ha : ST X Wx a ta) (hb : SPW X Wx (.BoolOp .And (b :: rest) pos) tb) : SPW X Wx (.BoolOp .And (a :: b :: rest) pos) (tAnd ta tb) := by
  obtain ⟨t, pa, sa⟩ := ha.ex
  obtain ⟨u, pb, sb⟩ := hb.ex
  exact .of ⟨_, pw_and pa pb, snd_and sa sb⟩
theorem spw_or {rest : List Expr} {ta tb : M Bool} (ha : ST X Wx a ta) (hb : SPW X Wx (.BoolOp .Or (b :: rest) pos) tb) : SPW X Wx (.BoolOp .Or (a :: b :: rest) pos) (tOr ta tb) := by
  obtain ⟨t, pa, sa⟩ := ha.ex
  obtain ⟨u, pb, sb⟩ := hb.ex
  exact .of ⟨_, pw_or pa pb, snd_or sa sb⟩
theorem st_pw {ta : M Bool} (h : SPW X Wx a ta) : ST X Wx a ta := by
  obtain ⟨t, pa, sa⟩ := h.ex
  exact .of ⟨_, pa.pt, sa⟩
/-! as values -/
theorem snd_B {te : TE} (h : SndX X Wx (dW X) te ma) : SndX X Wx dB (tB te) (tBl ma) := snd_tBl h
theorem se_one {op : BoolOp} (ha : SE X Wx a ma) : SE X Wx (.BoolOp op [a] pos) ma := by
  obtain ⟨ta, pa, sa⟩ := ha.ex
  exact .of ⟨_, pe_one pa, sa⟩
theorem se_and {rest : List Expr} (ha : SE X Wx a ma) (hb : SE X Wx (.BoolOp .And (b :: rest) pos) mb) : SE X Wx (.BoolOp .And (a :: b :: rest) pos) (eAnd ma mb) := by
  obtain ⟨ta, pa, sa⟩ := ha.ex
  obtain ⟨tb, pb, sb⟩ := hb.ex
  refine .of ⟨_, pe_and pa pb, fun e μ B H σ Q rl p => ?_⟩
  refine Snd.bnd (t := tB ta) (R' := fun c H1 => if c = true then tb σ H1 Q else Q (.bl false) H1) (snd_B sa) Ext.refl rl p fun wa e1 x μ1 B1 H1 x1 _ r1 d1 p1 => ?_
  cases (show x = wa from d1)
  cases wa with
  | true =>
    rw [if_pos rfl]
    exact sb e1 μ1 B1 H1 σ Q r1 (p1.go back_W x1)
  | false =>
    rw [if_neg Bool.false_ne_true]
    exact p1.ok x1 r1 (.bl false)
theorem se_or {rest : List Expr} (ha : SE X Wx a ma) (hb : SE X Wx (.BoolOp .Or (b :: rest) pos) mb) : SE X Wx (.BoolOp .Or (a :: b :: rest) pos) (eOr ma mb) := by
  obtain ⟨ta, pa, sa⟩ := ha.ex
  obtain ⟨tb, pb, sb⟩ := hb.ex
  refine .of ⟨_, pe_or pa pb, fun e μ B H σ Q rl p => ?_⟩
  refine Snd.bnd (t := tB ta) (R' := fun c H1 => if c = true then Q (.bl true) H1 else tb σ H1 Q) (snd_B sa) Ext.refl rl p fun wa e1 x μ1 B1 H1 x1 _ r1 d1 p1 => ?_
  cases (show x = wa from d1)
  cases wa with
  | true =>
    rw [if_pos rfl]
    exact p1.ok x1 r1 (.bl true)
  | false =>
    rw [if_neg Bool.false_ne_true]
    exact sb e1 μ1 B1 H1 σ Q r1 (p1.go back_W x1)
theorem se_not (ha : SE X Wx a ma) : SE X Wx (.UnaryOp .Not a pos) (eNot ma) := by
  obtain ⟨ta, pa, sa⟩ := ha.ex
  refine .of ⟨_, pe_not pa, fun e μ B H σ Q rl p => ?_⟩
  refine Snd.bnd (t := tB ta) (R' := fun c H1 => Q (.bl (!c)) H1) (snd_B sa) Ext.refl rl p fun wa e1 x μ1 B1 H1 x1 _ r1 d1 p1 => ?_
  cases (show x = wa from d1)
  exact p1.ok x1 r1 (.bl _)
theorem se_if {ta : M Bool} {t : Expr} (ht : ST X Wx t ta) (ha : SE X Wx a ma) (hb : SE X Wx b mb) : SE X Wx (.IfExp t a b pos) (eIf ta ma mb) := by
  obtain ⟨tt, pt, st⟩ := ht.ex
  obtain ⟨ta, pa, sa⟩ := ha.ex
  obtain ⟨tb, pb, sb⟩ := hb.ex
  refine .of ⟨_, pe_ifExp pt pa pb, fun e μ B H σ Q rl p => ?_⟩
  refine Snd.bnd (t := tt) (R' := fun c H1 => if c = true then ta σ H1 Q else tb σ H1 Q) st Ext.refl rl p fun wa e1 x μ1 B1 H1 x1 _ r1 d1 p1 => ?_
  cases (show x = wa from d1)
  cases wa with
  | true =>
    rw [if_pos rfl]
    exact sa e1 μ1 B1 H1 σ Q r1 (p1.go back_W x1)
  | false =>
    rw [if_neg Bool.false_ne_true]
    exact sb e1 μ1 B1 H1 σ Q r1 (p1.go back_W x1)

/-! ### slots are set -/
abbrev cutMu (μ : Mu) (i : Nat) : Mu := fun j => if j = i then none else μ j
theorem Rel.un {K : PySem.W.Frag} {mg : Str → Option Value} {N : Nat} {i : Nat} (r : Rel K mg N env μ B H σ) (hi : i < N) : Rel K mg N (env.set i .un) (cutMu μ i) B H σ := by
  have li : i < env.length := Nat.lt_of_lt_of_le hi r.le
  refine ⟨r.len, by rw [List.length_set]; exact r.le, r.ex, fun j s q => ?_, fun j hj => ?_, fun j k a h1 h2 => ?_, fun j s hj q => ?_, fun j s hj q => ?_, fun j h q => ?_⟩
  · by_cases hji : j = i
    · subst hji
      rw [List.getElem?_set_self li] at q
      cases q
      show (if j = j then none else μ j) = none
      rw [if_pos rfl]
    · rw [List.getElem?_set_ne (Ne.symm hji)] at q
      have z := r.cell j s q
      cases s <;> simp only [SlAt, cutMu, if_neg hji] at z ⊢ <;> exact z
  · rw [List.length_set] at hj
    show (if j = i then none else μ j) = none
    rw [if_neg (by omega)]
    exact r.out j hj
  · by_cases hji : j = i
    · simp only [cutMu, if_pos hji] at h1; cases h1
    · by_cases hki : k = i
      · simp only [cutMu, if_pos hki] at h2; cases h2
      · simp only [cutMu, if_neg hji] at h1
        simp only [cutMu, if_neg hki] at h2
        exact r.inj j k a h1 h2
  · by_cases hji : j = i
    · subst hji
      rw [List.getElem?_set_self li] at q
      cases q
      trivial
    · rw [List.getElem?_set_ne (Ne.symm hji)] at q
      have z := r.name j s hj q
      cases s with
      | al h =>
        have hh := r.al j h q
        have : h ≠ i := by omega
        simp only [NameAt, cutMu, if_neg this] at z ⊢
        exact z
      | own c => simp only [NameAt, cutMu, if_neg hji] at z ⊢; exact z
      | un => trivial
      | val d => exact z
      | lent c => exact z
  · rw [List.getElem?_set_ne (by omega)] at q
    exact r.hid j s hj q
  · by_cases hji : j = i
    · subst hji
      rw [List.getElem?_set_self li] at q
      cases q
    · rw [List.getElem?_set_ne (Ne.symm hji)] at q
      rw [List.length_set]
      exact r.al j h q
theorem ext_cut {N : Nat} {i : Nat} (hi : i < N) : Ext N μ B H (cutMu μ i) B H where
  b := Same.refl B
  h := fun _ _ e _ => e
  m := fun j a e => by
    by_cases hji : j = i
    · simp only [cutMu, if_pos hji] at e; cases e
    · simp only [cutMu, if_neg hji] at e; exact .inl ⟨j, e⟩
  n := fun _ _ e => .inl e
  l := fun j hj => by simp only [cutMu, if_neg (show j ≠ i by omega)]
  t := fun _ o e => ⟨o, e⟩
/-- a slot without a value gets data -/
theorem Rel.val {K : PySem.W.Frag} {mg : Str → Option Value} {N : Nat} {i : Nat} {v : V} {d : D} (r : Rel K mg N env μ B H σ) (hi : i < N) (hs : env[i]? = some .un) (hv : σ[i]? = some (some v)) (hd : Den K mg B v d) : Rel K mg N (env.set i (.val d)) μ B H σ := by
  have li : i < env.length := Nat.lt_of_lt_of_le hi r.le
  refine ⟨r.len, by rw [List.length_set]; exact r.le, r.ex, fun j s q => ?_, fun j hj => ?_, r.inj, fun j s hj q => ?_, fun j s hj q => ?_, fun j h q => ?_⟩
  · by_cases hji : j = i
    · subst hji
      rw [List.getElem?_set_self li] at q
      cases q
      exact r.cell j .un hs
    · rw [List.getElem?_set_ne (Ne.symm hji)] at q
      exact r.cell j s q
  · rw [List.length_set] at hj
    exact r.out j hj
  · by_cases hji : j = i
    · subst hji
      rw [List.getElem?_set_self li] at q
      cases q
      exact ⟨v, hv, hd⟩
    · rw [List.getElem?_set_ne (Ne.symm hji)] at q
      exact r.name j s hj q
  · rw [List.getElem?_set_ne (by omega)] at q
    exact r.hid j s hj q
  · by_cases hji : j = i
    · subst hji
      rw [List.getElem?_set_self li] at q
      cases q
    · rw [List.getElem?_set_ne (Ne.symm hji)] at q
      rw [List.length_set]
      exact r.al j h q
abbrev addMu (μ : Mu) (i : Nat) (a : Addr) : Mu := fun j => if j = i then some a else μ j
/-- a slot without a value gets a cell -/
theorem Rel.own {K : PySem.W.Frag} {mg : Str → Option Value} {N : Nat} {i : Nat} {a : Addr} {c : Cell} (r : Rel K mg N env μ B H σ) (hi : i < N) (hs : env[i]? = some .un) (hv : σ[i]? = some (some (.ref a))) (hB : B a = none) (hm : ∀ j, μ j ≠ some a) (hc : CellAt K mg B H a c) :
    Rel K mg N (env.set i (.own c)) (addMu μ i a) B H σ := by
  have li : i < env.length := Nat.lt_of_lt_of_le hi r.le
  refine ⟨r.len, by rw [List.length_set]; exact r.le, r.ex, fun j s q => ?_, fun j hj => ?_, fun j k b h1 h2 => ?_, fun j s hj q => ?_, fun j s hj q => ?_, fun j h q => ?_⟩
  · by_cases hji : j = i
    · subst hji
      rw [List.getElem?_set_self li] at q
      cases q
      exact ⟨a, (by show (if j = j then some a else μ j) = some a; rw [if_pos rfl]), hB, hc⟩
    · rw [List.getElem?_set_ne (Ne.symm hji)] at q
      have z := r.cell j s q
      cases s <;> simp only [SlAt, addMu, if_neg hji] at z ⊢ <;> exact z
  · rw [List.length_set] at hj
    show (if j = i then some a else μ j) = none
    rw [if_neg (by omega)]
    exact r.out j hj
  · by_cases hji : j = i
    · by_cases hki : k = i
      · rw [hji, hki]
      · simp only [addMu, if_pos hji] at h1
        simp only [addMu, if_neg hki] at h2
        cases h1
        exact absurd h2 (hm k)
    · by_cases hki : k = i
      · simp only [addMu, if_pos hki] at h2
        simp only [addMu, if_neg hji] at h1
        cases h2
        exact absurd h1 (hm j)
      · simp only [addMu, if_neg hji] at h1
        simp only [addMu, if_neg hki] at h2
        exact r.inj j k b h1 h2
  · by_cases hji : j = i
    · subst hji
      rw [List.getElem?_set_self li] at q
      cases q
      exact ⟨a, (by show (if j = j then some a else μ j) = some a; rw [if_pos rfl]), hv⟩
    · rw [List.getElem?_set_ne (Ne.symm hji)] at q
      have z := r.name j s hj q
      cases s with
      | al h =>
        have hh := r.al j h q
        have : h ≠ i := by omega
        simp only [NameAt, addMu, if_neg this] at z ⊢
        exact z
      | own c => simp only [NameAt, addMu, if_neg hji] at z ⊢; exact z
      | un => trivial
      | val d => exact z
      | lent c => exact z
  · rw [List.getElem?_set_ne (by omega)] at q
    exact r.hid j s hj q
  · by_cases hji : j = i
    · subst hji
      rw [List.getElem?_set_self li] at q
      cases q
    · rw [List.getElem?_set_ne (Ne.symm hji)] at q
      rw [List.length_set]
      exact r.al j h q
/-- a slot that is not known may hold anything -/
theorem Rel.sig {K : PySem.W.Frag} {mg : Str → Option Value} {N : Nat} {i : Nat} {o : Option V} (r : Rel K mg N env μ B H σ) (hs : env[i]? = some .un) : Rel K mg N env μ B H (σ.set i o) := by
  refine ⟨by rw [List.length_set]; exact r.len, r.le, r.ex, r.cell, r.out, r.inj, fun j s hj q => ?_, r.hid, r.al⟩
  by_cases hji : j = i
  · subst hji
    rw [hs] at q
    cases q
    trivial
  · rw [List.getElem?_set_ne (Ne.symm hji)]
    exact r.name j s hj q
theorem set_set_un {i : Nat} {s t : Sl} : (env.set i s).set i t = env.set i t := by rw [List.set_set]

/-! ### a value that is stored: data from then on -/
theorem frz_ok {α γ : Type} {dn2 : Dn γ α} {μ0 : Mu} {B0 H0 : Hp} {v : V} {w : W} {f : D → M α} {Q : γ → Hp → Prop} {G : Prop} (x0 : Ext X.N.length μ0 B0 H0 μ B H) (rl : Rel X.K X.mg X.N.length env μ B H σ) (d : DenW X.K X.mg X.N.length H0 μ B H σ v w)
    (hp : Post X.K X.mg X.N.length Wx dn2 μ0 B0 H0 σ Q (bnd (frz w) f env))
    (k : ∀ t env' μ' B', Ext X.N.length μ0 B0 H0 μ' B' H → Rel X.K X.mg X.N.length env' μ' B' H σ → Den X.K X.mg B' v t → Same B B' → Post X.K X.mg X.N.length Wx dn2 μ0 B0 H0 σ Q (f t env') → frz w env = .ok t env' → G) : G := by
  cases w with
  | d y => exact k y env μ B x0 rl d (Same.refl B) hp rfl
  | fr c =>
    obtain ⟨a, rfl, h0, h1, h2, h3⟩ := d
    obtain ⟨o, ho⟩ := h3.there
    have x1 : Ext X.N.length μ0 B0 H0 μ (L2.upd B a o) H := ⟨x0.b.trans (same_new h1), x0.h, x0.m, fun b u q => by
      by_cases hz : b = a
      · subst hz; exact .inr (.inl h0)
      · rw [upd_ne hz] at q; exact x0.n b u q, x0.l, x0.t⟩
    refine k c.toD env μ (L2.upd B a o) x1 (rl.add h1 ho h2) ?_ (same_new h1) hp rfl
    cases c with
    | lst ds =>
      obtain ⟨xs, h4, h5⟩ := h3
      rw [ho] at h4; cases h4
      exact .lst (.of upd_same) (h5.mono (same_new h1))
    | obj c gs =>
      obtain ⟨C, dx, fs, h4, h5, h6⟩ := h3
      rw [ho] at h4; cases h4
      exact .ins upd_same h5 (h6.mono (same_new h1))
  | pl i =>
    have hp' := hp
    simp only [bnd, frz] at hp'
    split at hp'
    · rename_i t e' z
      split at z
      · rename_i c hs
        cases z
        have hi : i < X.N.length := by
          rcases Nat.lt_or_ge i X.N.length with y | y
          · exact y
          · obtain ⟨c', e⟩ := rl.hid i _ y hs; cases e
        obtain ⟨a, h1, h2⟩ := rl.name i _ hi hs
        obtain ⟨a', h3, h4, h5⟩ := rl.cell i _ hs
        rw [h1] at h3; cases h3
        obtain ⟨o, ho⟩ := h5.there
        have li : i < env.length := Nat.lt_of_lt_of_le hi rl.le
        have hv : v = .ref a := by
          rcases d with ⟨_, y⟩ | ⟨y, _⟩
          · rw [h2] at y; cases y; rfl
          · omega
        subst hv
        have r1 := rl.un hi
        have nm : ∀ j, cutMu μ i j ≠ some a := fun j q => by
          by_cases hji : j = i
          · simp only [cutMu, if_pos hji] at q; cases q
          · simp only [cutMu, if_neg hji] at q; exact hji (rl.inj j i a q h1)
        have r2 := r1.add h4 ho nm
        have hd : Den X.K X.mg (L2.upd B a o) (.ref a) c.toD := by
          cases c with
          | lst ds =>
            obtain ⟨xs, h6, h7⟩ := h5
            rw [ho] at h6; cases h6
            exact .lst (.of upd_same) (h7.mono (same_new h4))
          | obj c gs =>
            obtain ⟨C, dx, fs, h6, h7, h8⟩ := h5
            rw [ho] at h6; cases h6
            exact .ins upd_same h7 (h8.mono (same_new h4))
        have r3 := r2.val hi (List.getElem?_set_self li) h2 hd
        rw [List.set_set] at r3
        have xc := x0.trans (ext_cut (N := X.N.length) (μ := μ) (B := B) (H := H) hi)
        have x1 : Ext X.N.length μ0 B0 H0 (cutMu μ i) (L2.upd B a o) H := ⟨xc.b.trans (same_new h4), xc.h, xc.m, fun b u q => by
          by_cases hz : b = a
          · subst hz
            rcases x0.m i b h1 with y | y
            · exact .inr (.inr y)
            · exact .inr (.inl y)
          · rw [upd_ne hz] at q; exact x0.n b u q, xc.l, xc.t⟩
        exact k c.toD _ _ _ x1 r3 hd (same_new h4) hp' (by simp only [frz, hs])
      · rename_i d' hs
        cases z
        have hi : i < X.N.length := by
          rcases Nat.lt_or_ge i X.N.length with y | y
          · exact y
          · obtain ⟨c', e⟩ := rl.hid i _ y hs; cases e
        obtain ⟨v', h1, h2⟩ := rl.name i _ hi hs
        have hv : v = v' := by
          rcases d with ⟨_, y⟩ | ⟨y, _⟩
          · rw [h1] at y; cases y; rfl
          · omega
        subst hv
        exact k _ env μ B x0 rl h2 (Same.refl B) hp' (by simp only [frz, hs])
      · cases z
    · rename_i x e' z
      split at z <;> cases z
    · exact hp'.elim

/-! ### arguments, displays -/
theorem sa_nil : SA X Wx [] aNil := .of ⟨_, pa_nil, fun e μ B H σ Q rl p => p.ok Ext.refl rl .nil⟩
theorem sa_cons {ms : M (List W)} (ha : SE X Wx a ma) (hr : SA X Wx es ms) (hs : starEach (a :: es) X.env = (false, eval a X.env) :: starEach es X.env := by rfl) : SA X Wx (a :: es) (aCons ma ms) := by
  obtain ⟨ta, pa, sa⟩ := ha.ex
  obtain ⟨tr, pr, sr⟩ := hr.ex
  refine .of ⟨_, pa_cons pa pr hs, fun e μ B H σ Q rl p => ?_⟩
  refine Snd.bnd (t := ta) (R' := fun x H1 => tr σ H1 fun xs H2 => Q (x :: xs) H2) sa Ext.refl rl p fun wa e1 x μ1 B1 H1 x1 _ r1 d1 p1 => ?_
  refine Snd.bnd sr x1 r1 p1 fun ws e2 xs μ2 B2 H2 x2 y2 r2 d2 p2 => ?_
  exact p2.ok x2 r2 (.cons (DenW.go y2 d1) (dA.back x1.t d2))
theorem sa_consF {ms : M (List W)} (ha : SE X Wx a ma) (hr : SA X Wx es ms) (hs : starEach (a :: es) X.env = (false, eval a X.env) :: starEach es X.env := by rfl) : SA X Wx (a :: es) (aConsF ma ms) := by
  obtain ⟨ta, pa, sa⟩ := ha.ex
  obtain ⟨tr, pr, sr⟩ := hr.ex
  refine .of ⟨_, pa_cons pa pr hs, fun e μ B H σ Q rl p => ?_⟩
  refine Snd.bnd (t := ta) (R' := fun x H1 => tr σ H1 fun xs H2 => Q (x :: xs) H2) sa Ext.refl rl p fun wa e1 x μ1 B1 H1 x1 _ r1 d1 p1 => ?_
  refine frz_ok x1 r1 d1 p1 fun t e1' μ1' B1' x1' r1' dt _ p1' _ => ?_
  refine Snd.bnd sr x1' r1' p1' fun ws e2 xs μ2 B2 H2 x2 y2 r2 d2 p2 => ?_
  exact p2.ok x2 r2 (.cons (show DenW X.K X.mg X.N.length H μ2 B2 H2 σ x (.d t) from dt.mono y2.b) (dA.back x1'.t d2))
theorem dats_den {H0 : Hp} : ∀ {vs : List V} {ws : List W} {ds : List D}, dA X H0 μ B H σ vs ws → dats ws = some ds → DenAll X.K X.mg B vs ds
  | _, _, _, .nil, q => by cases q; exact .nil
  | _, _, _, .cons (b := w) (l₂ := ws) h r, q => by
    cases w with
    | d x =>
      rw [dats] at q
      cases z : dats ws with
      | none => rw [z] at q; cases q
      | some es =>
        rw [z] at q
        cases q
        exact .cons h (dats_den r z)
    | fr c => cases q
    | pl i => cases q
theorem se_lst {ms : M (List W)} (h : SA X Wx es ms) : SE X Wx (.List es pos) (eLst ms) := by
  obtain ⟨ta, pa, sa⟩ := h.ex
  refine .of ⟨_, pe_lst pa, fun e μ B H σ Q rl p => ?_⟩
  refine Snd.bnd (t := ta) sa Ext.refl rl p fun ws e1 vs μ1 B1 H1 x1 _ r1 d1 p1 => ?_
  cases z : dats ws with
  | none => rw [z] at p1; exact p1.elim
  | some ds =>
    rw [z] at p1
    simp only [Option.bind_some] at p1
    by_cases hl : ds.length ≤ lim
    · rw [if_pos hl] at p1
      have dd := dats_den d1 z
      refine ⟨by rw [dd.length]; exact lim_line hl, fun q hq => ?_⟩
      exact Res.fin (w := .fr (.lst ds)) ⟨q, _, hq, rfl, rfl, vs, upd_same, dd⟩ x1 r1 p1
    · rw [if_neg hl] at p1; exact p1.elim
theorem se_tup {ms : M (List W)} {k : Nat} (h : SA X Wx es ms) : SE X Wx (.Tuple es k pos) (eTup ms) := by
  obtain ⟨ta, pa, sa⟩ := h.ex
  refine .of ⟨_, pe_tup pa, fun e μ B H σ Q rl p => ?_⟩
  refine Snd.bnd (t := ta) sa Ext.refl rl p fun ws e1 vs μ1 B1 H1 x1 _ r1 d1 p1 => ?_
  cases z : dats ws with
  | none => rw [z] at p1; exact p1.elim
  | some ds =>
    rw [z] at p1
    simp only [Option.bind_some] at p1
    by_cases hl : ds.length ≤ lim
    · rw [if_pos hl] at p1
      have dd := dats_den d1 z
      refine ⟨by rw [dd.length]; exact lim_line hl, fun q hq => ?_⟩
      exact Res.fin (w := .d (.tup ds)) (.inr ⟨q, _, hq, rfl, .tup (.of upd_same) (dd.mono (same_new (r1.base hq)))⟩) x1 r1 p1
    · rw [if_neg hl] at p1; exact p1.elim

/-! ### built-ins -/
theorem views_of {H0 : Hp} (r : Rel X.K X.mg X.N.length env μ B H σ) : ∀ {vs : List V} {ws : List W} {ds : List D}, dA X H0 μ B H σ vs ws → vws ws env = some ds → Paired (View X.K X.mg B H) vs ds
  | _, _, _, .nil, q => by cases q; exact .nil
  | _, _, _, .cons (b := w) (l₁ := vs) (l₂ := ws) h t, q => by
    rw [vws] at q
    cases z : vw w env with
    | none => rw [z] at q; cases q
    | some d =>
      cases z2 : vws ws env with
      | none => rw [z, z2] at q; cases q
      | some es =>
        rw [z, z2] at q
        cases q
        exact .cons (view_of r h z) (views_of r t z2)
def CallS (X : Cx) (r : List V → Hp → VK → Prop) (f : List D → Option W) : Prop := ∀ (B H : Hp) (vs : List V) (ds : List D) (w : W) (Q : VK), Same B H → Paired (View X.K X.mg B H) vs ds → f ds = some w →
  (∀ v H', Res X.K X.mg B H v H' w → Q v H') → r vs H Q
theorem snd_B1 {ms : M (List W)} {ta : TA} {r : List V → Hp → VK → Prop} {f : List D → Option W} (hr : CallS X r f) (sa : SndX X Wx (dA X) ta ms) : SndX X Wx (dW X) (tCB r ta) (eB f ms) := by
  intro e μ B H σ Q rl p
  refine Snd.bnd (t := ta) sa Ext.refl rl p fun ws e1 vs μ1 B1 H1 x1 _ r1 d1 p1 => ?_
  cases z : vws ws e1 with
  | none => rw [z] at p1; exact p1.elim
  | some ds =>
    rw [z] at p1
    simp only at p1
    cases z2 : f ds with
    | none => rw [z2] at p1; exact p1.elim
    | some w =>
      rw [z2] at p1
      exact hr B1 H1 vs ds w Q r1.ex (views_of r1 d1 z) z2 fun v H' y => y.fin x1 r1 p1
theorem se_callB {x : Str} {id : String} {ms : M (List W)} {r : List V → Hp → VK → Prop} {f : List D → Option W} {p0 : Pos} (hc : CallR X (.builtin id) r) (hr : CallS X r f) (hm : X.mg x = none) (ha : SA X Wx (a :: es) ms) (hg : Gl X x := by rfl) (hv : bootBuiltins x = some (.builtin id) := by decide +kernel)
    (hn : x ≠ "__name__" := by decide) (hdb : (x == ("__debug__" : Str)) = false := by decide) (he : starEach (a :: es) X.env = (false, eval a X.env) :: starEach es X.env := by rfl) (hpl : (backTo pos (starEach es X.env)).any (·.1) = false := by rfl) :
    SE X Wx (.Call (.Name x p0) (a :: es) [] pos) (eB f ms) := by
  obtain ⟨ta, pa, sa⟩ := ha.ex
  exact .of ⟨_, pe_callB hc hg hm hv pa hn hdb he hpl, snd_B1 hr sa⟩
theorem se_callTy {x : Str} {T : String} {ms : M (List W)} {r : List V → Hp → VK → Prop} {f : List D → Option W} {p0 : Pos} (hc : CallR X (.type T) r) (hr : CallS X r f) (hm : X.mg x = none) (ha : SA X Wx (a :: es) ms) (hg : Gl X x := by rfl) (hv : bootBuiltins x = some (.type T) := by decide +kernel)
    (hn : x ≠ "__name__" := by decide) (hdb : (x == ("__debug__" : Str)) = false := by decide) (he : starEach (a :: es) X.env = (false, eval a X.env) :: starEach es X.env := by rfl) (hpl : (backTo pos (starEach es X.env)).any (·.1) = false := by rfl) :
    SE X Wx (.Call (.Name x p0) (a :: es) [] pos) (eB f ms) := by
  obtain ⟨ta, pa, sa⟩ := ha.ex
  exact .of ⟨_, pe_callTy hc hg hm hv pa hn hdb he hpl, snd_B1 hr sa⟩
theorem pr1 {α β : Type} {F : α → β → Prop} {vs : List α} {d : β} (h : Paired F vs [d]) : ∃ v, vs = [v] ∧ F v d := by
  cases h with
  | cons h r => cases r; exact ⟨_, rfl, h⟩
theorem pr2 {α β : Type} {F : α → β → Prop} {vs : List α} {d d' : β} (h : Paired F vs [d, d']) : ∃ v v', vs = [v, v'] ∧ F v d ∧ F v' d' := by
  cases h with
  | cons h r => obtain ⟨v', rfl, h'⟩ := pr1 r; exact ⟨_, _, rfl, h, h'⟩
theorem cs_len : CallS X (fun xs H Q => ∃ p ys, xs = [.ref p] ∧ (SqL X.K H p ys ∨ SqT X.K H p ys) ∧ Q (.int ys.length) H) bLen := by
  intro B H vs ds w Q ex hv q k
  unfold bLen at q
  split at q
  · cases q
    obtain ⟨v, rfl, h⟩ := pr1 hv
    obtain ⟨a, xs, rfl, h2, h3⟩ := h.seqL ex
    refine ⟨a, xs, rfl, .inl h2, ?_⟩
    rw [h3.length]
    exact k _ _ (.inl ⟨rfl, .int _⟩)
  · cases q
    obtain ⟨v, rfl, h⟩ := pr1 hv
    obtain ⟨a, xs, rfl, h2, h3⟩ := h.seqT ex
    refine ⟨a, xs, rfl, .inr h2, ?_⟩
    rw [h3.length]
    exact k _ _ (.inl ⟨rfl, .int _⟩)
  · cases q
theorem cs_int : CallS X (fun xs H Q => (∃ i, xs = [.int i] ∧ Q (.int i) H) ∨ ∃ k, xs = [.bl k] ∧ Q (.int (if k then 1 else 0)) H) bInt := by
  intro B H vs ds w Q ex hv q k
  unfold bInt at q
  split at q
  · cases q
    obtain ⟨v, rfl, h⟩ := pr1 hv
    cases h.int
    exact .inl ⟨_, rfl, k _ _ (.inl ⟨rfl, .int _⟩)⟩
  · cases q
    obtain ⟨v, rfl, h⟩ := pr1 hv
    cases h.bl
    exact .inr ⟨_, rfl, k _ _ (.inl ⟨rfl, .int _⟩)⟩
  · cases q
theorem cs_abs : CallS X (fun xs H Q => ∃ i, xs = [.int i] ∧ Q (.int (if i < 0 then -i else i)) H) bAbs := by
  intro B H vs ds w Q ex hv q k
  unfold bAbs at q
  split at q
  · cases q
    obtain ⟨v, rfl, h⟩ := pr1 hv
    cases h.int
    exact ⟨_, rfl, k _ _ (.inl ⟨rfl, .int _⟩)⟩
  · cases q
/-- min, max: of two ints, of a list or a tuple of ints -/
theorem dpAll_ints {K : PySem.W.Frag} {H : Hp} : ∀ ns : List Int, DpAll K H (ns.map V.int) (ns.map PyData.int)
  | [] => .nil
  | n :: ns => .cons (.int n) (dpAll_ints ns)
theorem alike_ints (ns : List Int) : PySem.W.AlikeAll (ns.map PyData.int) := by
  constructor
  · intro x hx y hy
    obtain ⟨a, _, rfl⟩ := List.mem_map.mp hx
    obtain ⟨b, _, rfl⟩ := List.mem_map.mp hy
    simp only [PySem.W.alike]
  · intro x hx
    obtain ⟨a, _, rfl⟩ := List.mem_map.mp hx
    exact fun z => nomatch z
theorem depthAll_ints : ∀ ns : List Int, PyData.depthAll (ns.map PyData.int) = 0
  | [] => rfl
  | n :: ns => by
    show max (PyData.depth (.int n)) (PyData.depthAll (ns.map PyData.int)) = 0
    rw [depthAll_ints ns]
    rfl
def rMm (K : PySem.W.Frag) (f : Int → Int → Int) : List V → Hp → VK → Prop := fun vs H Q => ∃ (a : Addr) (n : Int) (ns : List Int), vs = [V.ref a] ∧ (SqL K H a ((n :: ns).map V.int) ∨ SqT K H a ((n :: ns).map V.int)) ∧ Q (.int (ns.foldl f n)) H
theorem reads_i {h : Heap} {v : Value} {i : Int} {as : List Addr} (r : Reads h v (.int i) as) : ∃ t, v = .int i t := by
  cases r
  exact ⟨_, rfl⟩
theorem cr_maxM (hc : X.calm = true) (hu : X.A.units + 64 < cLine) : CallR X (.builtin "max") (rMm X.K max) := by
  intro pins s σ H vs us Q I r h
  obtain ⟨a, n, ns, rfl, hs, q⟩ := h
  rw [Vals.ref1 r]
  have al := alike_ints (n :: ns)
  have dp := depthAll_ints (n :: ns)
  have fin : ∀ (v : Value) h' tk bs, Reads h' v (PySem.W.maxD (.int n) (ns.map PyData.int)) bs → (∀ b o, s.heap.get? b = some o → h'.get? b = some o) → EP X pins σ Q v { s with heap := h', toks := tk } := fun v h' tk bs rd k => by
    rw [PySem.W.maxD_ints] at rd
    obtain ⟨t, rfl⟩ := reads_i rd
    exact ⟨.int _, H, I.kept k, ⟨_, rfl⟩, q⟩
  rcases hs with hs | hs
  · obtain ⟨its, rv, hl, _⟩ := I.list hs
    obtain ⟨as, ra⟩ := Dp.readsAll I _ _ _ (dpAll_ints (n :: ns)) rv
    exact PySem.W.max_list_data (I.ok.hd hc) hl.isList (x := .int n) (xs := ns.map .int) ra al (by rw [show PyData.depthAll (PyData.int n :: List.map PyData.int ns) = 0 from dp]; omega) fun i v h' tk bs _ rd k => fin v h' tk bs rd k
  · obtain ⟨its, rv, hl, _⟩ := I.tuple hs
    obtain ⟨as, ra⟩ := Dp.readsAll I _ _ _ (dpAll_ints (n :: ns)) rv
    exact PySem.W.max_tuple_data (I.ok.hd hc) hl (x := .int n) (xs := ns.map .int) ra al (by rw [show PyData.depthAll (PyData.int n :: List.map PyData.int ns) = 0 from dp]; omega) fun i v h' tk bs _ rd k => fin v h' tk bs rd k
theorem cr_minM (hc : X.calm = true) (hu : X.A.units + 64 < cLine) : CallR X (.builtin "min") (rMm X.K min) := by
  intro pins s σ H vs us Q I r h
  obtain ⟨a, n, ns, rfl, hs, q⟩ := h
  rw [Vals.ref1 r]
  have al := alike_ints (n :: ns)
  have dp := depthAll_ints (n :: ns)
  have fin : ∀ (v : Value) h' tk bs, Reads h' v (PySem.W.minD (.int n) (ns.map PyData.int)) bs → (∀ b o, s.heap.get? b = some o → h'.get? b = some o) → EP X pins σ Q v { s with heap := h', toks := tk } := fun v h' tk bs rd k => by
    rw [PySem.W.minD_ints] at rd
    obtain ⟨t, rfl⟩ := reads_i rd
    exact ⟨.int _, H, I.kept k, ⟨_, rfl⟩, q⟩
  rcases hs with hs | hs
  · obtain ⟨its, rv, hl, _⟩ := I.list hs
    obtain ⟨as, ra⟩ := Dp.readsAll I _ _ _ (dpAll_ints (n :: ns)) rv
    exact PySem.W.min_list_data (I.ok.hd hc) hl.isList (x := .int n) (xs := ns.map .int) ra al (by rw [show PyData.depthAll (PyData.int n :: List.map PyData.int ns) = 0 from dp]; omega) fun i v h' tk bs _ rd k => fin v h' tk bs rd k
  · obtain ⟨its, rv, hl, _⟩ := I.tuple hs
    obtain ⟨as, ra⟩ := Dp.readsAll I _ _ _ (dpAll_ints (n :: ns)) rv
    exact PySem.W.min_tuple_data (I.ok.hd hc) hl (x := .int n) (xs := ns.map .int) ra al (by rw [show PyData.depthAll (PyData.int n :: List.map PyData.int ns) = 0 from dp]; omega) fun i v h' tk bs _ rd k => fin v h' tk bs rd k
theorem cr_max2 (hc : X.calm = true) (hu : X.A.units + 64 < cLine) : CallR X (.builtin "max") (fun xs H Q => (∃ i j, xs = [.int i, .int j] ∧ Q (.int (if j > i then j else i)) H) ∨ rMm X.K max xs H Q) := CallR.or (call_max2 hc) (cr_maxM hc hu)
theorem cr_min2 (hc : X.calm = true) (hu : X.A.units + 64 < cLine) : CallR X (.builtin "min") (fun xs H Q => (∃ i j, xs = [.int i, .int j] ∧ Q (.int (if j < i then j else i)) H) ∨ rMm X.K min xs H Q) := CallR.or (call_min2 hc) (cr_minM hc hu)
theorem cs_mm {B H : Hp} {vs : List V} {ds : List D} {f : Int → Int → Int} {w : W} {Q : VK} {xs : List D} (ex : Same B H) (hv : Paired (View X.K X.mg B H) vs ds) (hd : ds = [.lst xs] ∨ ds = [.tup xs]) (q : (ints? xs).bind (mmI f) = some w) (k : ∀ v H', Res X.K X.mg B H v H' w → Q v H') : rMm X.K f vs H Q := by
  cases z : ints? xs with
  | none => rw [z] at q; cases q
  | some ms =>
    rw [z] at q
    cases ms with
    | nil => cases q
    | cons n ns =>
      cases q
      rcases hd with rfl | rfl
      · obtain ⟨v, rfl, h⟩ := pr1 hv
        obtain ⟨a, ys, rfl, h2, h3⟩ := h.seqL ex
        have e := h3.ints z
        subst e
        exact ⟨a, n, ns, rfl, .inl h2, k _ _ (.inl ⟨rfl, .int _⟩)⟩
      · obtain ⟨v, rfl, h⟩ := pr1 hv
        obtain ⟨a, ys, rfl, h2, h3⟩ := h.seqT ex
        have e := h3.ints z
        subst e
        exact ⟨a, n, ns, rfl, .inr h2, k _ _ (.inl ⟨rfl, .int _⟩)⟩
theorem cs_min : CallS X (fun xs H Q => (∃ i j, xs = [.int i, .int j] ∧ Q (.int (if j < i then j else i)) H) ∨ rMm X.K min xs H Q) bMin := by
  intro B H vs ds w Q ex hv q k
  unfold bMin at q
  split at q
  · cases q
    obtain ⟨v, v', rfl, h, h'⟩ := pr2 hv
    cases h.int
    cases h'.int
    exact .inl ⟨_, _, rfl, k _ _ (.inl ⟨rfl, .int _⟩)⟩
  · exact .inr (cs_mm ex hv (.inl rfl) q k)
  · exact .inr (cs_mm ex hv (.inr rfl) q k)
  · cases q
theorem cs_max : CallS X (fun xs H Q => (∃ i j, xs = [.int i, .int j] ∧ Q (.int (if j > i then j else i)) H) ∨ rMm X.K max xs H Q) bMax := by
  intro B H vs ds w Q ex hv q k
  unfold bMax at q
  split at q
  · cases q
    obtain ⟨v, v', rfl, h, h'⟩ := pr2 hv
    cases h.int
    cases h'.int
    exact .inl ⟨_, _, rfl, k _ _ (.inl ⟨rfl, .int _⟩)⟩
  · exact .inr (cs_mm ex hv (.inl rfl) q k)
  · exact .inr (cs_mm ex hv (.inr rfl) q k)
  · cases q
theorem sum_tupRaw {prog : Program} {w : World} {A : Around} {E : Value → Shared → Prop} {s : Shared} {l : Addr} {its : List Value} {ns : List Int} {Q : Value → Shared → Prop} (hh : A.handled = none) (hl : IsTup s.heap l its.toArray) (hi : IntsAre its ns)
    (h : ∀ h' tk t', (∀ b o, s.heap.get? b = some o → h'.get? b = some o) → Q (.int ns.sum t') { s with heap := h', toks := tk }) : wpAny (model prog w) A (call (.builtin "sum") [.ref l]) Q E s := by
  obtain ⟨xs, e⟩ := hi.allInts.items
  have hn : numsOf (intItems xs).toList = ns := by rw [← e]; exact hi.numsOf
  rw [nums_intItems] at hn
  rw [e] at hl
  have hl' : s.heap.IsTuple l (intItems xs) := hl
  have hlt : l < s.heap.objs.size := by obtain ⟨_, z, _⟩ := hl; exact Heap.lt_size z
  refine call_sum_walkG (wpAny_pyIter_tuple hl' ?_)
  refine ⟨_, _, _, _, _, _, numAt xs, rfl, Walks.tuple (A := A.in1) hh s.heap.objs.size l (Nat.ne_of_lt hlt) (intItems xs), ⟨⟨_, Heap.get?_push_size _ rfl, rfl, rfl⟩, ?_⟩, ?_, (fun _ _ => intItems_at), fun h' tk t' hk => ?_⟩
  · obtain ⟨o, h1, h2⟩ := hl'
    exact ⟨o, Heap.get?_push_of_some _ h1, h2⟩
  · intro b hb
    show b < (s.heap.push _).objs.size
    rw [Heap.size_push]
    simp only [List.mem_cons, List.not_mem_nil, or_false] at hb
    rcases hb with rfl | rfl
    · exact Nat.lt_succ_self _
    · exact Nat.lt_succ_of_lt hlt
  · have := h h' tk t' (fun b o z => hk b o (fun hm => by
      simp only [List.mem_cons, List.not_mem_nil, or_false] at hm
      subst hm
      exact absurd (Heap.lt_size z) (Nat.lt_irrefl _)) (Heap.get?_push_of_some _ z))
    rw [preSum_eq, List.take_of_length_le (by simp [intItems]), hn]
    exact this
theorem cr_sum2 (hc : X.calm = true) : CallR X (.builtin "sum") (fun xs H Q => rSum X.K xs H Q ∨ ∃ (a : Addr) (ns : List Int), xs = [V.ref a] ∧ SqT X.K H a (ns.map V.int) ∧ Q (.int ns.sum) H) := by
  refine CallR.or (cr_sum hc) ?_
  intro pins s σ H vs us Q I r h
  obtain ⟨a, ns, rfl, hs, q⟩ := h
  obtain ⟨its, rv, hl, _⟩ := I.tuple hs
  rw [Vals.ref1 r]
  exact sum_tupRaw (I.ok.hd hc) hl rv.ints fun h' tk t' hk => ⟨.int _, H, I.kept hk, ⟨_, rfl⟩, q⟩
theorem cs_sum : CallS X (fun xs H Q => rSum X.K xs H Q ∨ ∃ (a : Addr) (ns : List Int), xs = [V.ref a] ∧ SqT X.K H a (ns.map V.int) ∧ Q (.int ns.sum) H) bSum := by
  intro B H vs ds w Q ex hv q k
  unfold bSum at q
  split at q
  · rename_i xs
    obtain ⟨v, rfl, h⟩ := pr1 hv
    obtain ⟨a, ys, rfl, h2, h3⟩ := h.seqL ex
    cases z : ints? xs with
    | none => rw [z] at q; cases q
    | some ns =>
      rw [z] at q
      cases q
      have e := h3.ints z
      subst e
      exact .inl ⟨a, ns, rfl, h2, k _ _ (.inl ⟨rfl, .int _⟩)⟩
  · rename_i xs
    obtain ⟨v, rfl, h⟩ := pr1 hv
    obtain ⟨a, ys, rfl, h2, h3⟩ := h.seqT ex
    cases z : ints? xs with
    | none => rw [z] at q; cases q
    | some ns =>
      rw [z] at q
      cases q
      have e := h3.ints z
      subst e
      exact .inr ⟨a, ns, rfl, h2, k _ _ (.inl ⟨rfl, .int _⟩)⟩
  · cases q
theorem cs_all : CallS X (rAll X.K) bAll := by
  intro B H vs ds w Q ex hv q k
  unfold bAll at q
  split at q
  · rename_i xs
    obtain ⟨v, rfl, h⟩ := pr1 hv
    obtain ⟨a, ys, rfl, h2, h3⟩ := h.seqL ex
    cases z : bls? xs with
    | none => rw [z] at q; cases q
    | some ns =>
      rw [z] at q
      cases q
      have e := h3.bls z
      subst e
      exact ⟨a, ns, rfl, h2, k _ _ (.inl ⟨rfl, .bl _⟩)⟩
  · cases q
theorem cs_any : CallS X (rAny X.K) bAny := by
  intro B H vs ds w Q ex hv q k
  unfold bAny at q
  split at q
  · rename_i xs
    obtain ⟨v, rfl, h⟩ := pr1 hv
    obtain ⟨a, ys, rfl, h2, h3⟩ := h.seqL ex
    cases z : bls? xs with
    | none => rw [z] at q; cases q
    | some ns =>
      rw [z] at q
      cases q
      have e := h3.bls z
      subst e
      exact ⟨a, ns, rfl, h2, k _ _ (.inl ⟨rfl, .bl _⟩)⟩
  · cases q
theorem base_of {B H : Hp} {p : Addr} (ex : Same B H) (hp : H p = none) : B p = none := none_back (fun a o e => ⟨o, ex a o e⟩) hp
theorem cs_tuple : CallS X (fun xs H Q => ∃ p ys, xs = [.ref p] ∧ ((SqL X.K H p ys ∧ ∀ l, H l = none → Q (.ref l) (L2.upd H l (.tup ys))) ∨ (SqT X.K H p ys ∧ Q (.ref p) H))) bTuple := by
  intro B H vs ds w Q ex hv q k
  unfold bTuple at q
  split at q
  · cases q
    obtain ⟨v, rfl, h⟩ := pr1 hv
    obtain ⟨a, ys, rfl, h2, h3⟩ := h.seqL ex
    exact ⟨a, ys, rfl, .inl ⟨h2, fun l hl => k _ _ (.inr ⟨l, _, hl, rfl, .tup (.of upd_same) (h3.mono (same_new (base_of ex hl)))⟩)⟩⟩
  · cases q
    obtain ⟨v, rfl, h⟩ := pr1 hv
    obtain ⟨a, ys, rfl, h2, h3⟩ := h.seqT ex
    refine ⟨a, ys, rfl, .inr ⟨h2, k _ _ (.inl ⟨rfl, ?_⟩)⟩⟩
    rcases h with h | ⟨a, c, h6, h7, h8⟩
    · exact h
    · cases c <;> cases h7
  · cases q
theorem cs_list : CallS X (fun xs H Q => ∃ p ys, xs = [.ref p] ∧ (SqL X.K H p ys ∨ SqT X.K H p ys) ∧ ∀ l, H l = none → Q (.ref l) (L2.upd H l (.lst ys))) bList := by
  intro B H vs ds w Q ex hv q k
  unfold bList at q
  split at q
  · cases q
    obtain ⟨v, rfl, h⟩ := pr1 hv
    obtain ⟨a, ys, rfl, h2, h3⟩ := h.seqL ex
    exact ⟨a, ys, rfl, .inl h2, fun l hl => k _ _ ⟨l, _, hl, rfl, rfl, ys, upd_same, h3⟩⟩
  · cases q
    obtain ⟨v, rfl, h⟩ := pr1 hv
    obtain ⟨a, ys, rfl, h2, h3⟩ := h.seqT ex
    exact ⟨a, ys, rfl, .inr h2, fun l hl => k _ _ ⟨l, _, hl, rfl, rfl, ys, upd_same, h3⟩⟩
  · cases q
end
end Py
end
section
set_option Elab.async false
set_option linter.all false
set_option maxRecDepth 100000
namespace Py
open PySem PySem.Spec PyProof.Rows L2
section
variable {X : Cx} {Wx : WX} {e a b c : Expr} {es : List Expr} {ma mb mc : M W} {pos : Pos} {μ : Mu} {B H : Hp} {σ : L2.St} {env : Env}
/-! ### isinstance -/
theorem View.ty4 {v : V} {d : D} {t : String} (ex : Same B H) (h : View X.K X.mg B H v d) (q : cls d = some t) : TyX X.K H v (.type t) := by
  cases d with
  | non => cases q; cases den_non h; exact .base .non
  | bl b => cases q; cases h.bl; exact .base (.bl _)
  | int b => cases q; cases h.int; exact .base (.int _)
  | str b => cases q; cases h.str; exact .base (.str _)
  | ty n => cases q
  | ins c fs => cases q
  | exn c fs => cases q
  | lst ds =>
    cases q
    obtain ⟨a, xs, rfl, h1, _⟩ := h.seqL ex
    rcases h1 with (h1 | ⟨o, h1⟩) | ⟨o, its, n, h1, h2, _⟩
    · exact .base (.lst h1)
    · exact .base (.frz h1)
    · exact .kList h1 h2
  | tup ds =>
    cases q
    obtain ⟨a, xs, rfl, h1, _⟩ := h.seqT ex
    rcases h1 with (h1 | ⟨o, h1⟩) | ⟨o, its, n, h1, h2, _⟩
    · exact .base (.tup h1)
    · exact .fTuple h1
    · exact .kTuple h1 h2
theorem cs_isi : CallS X (rIsi X.K) bIsi := by
  intro B H vs ds w Q ex hv q k
  unfold bIsi at q
  split at q
  · rename_i x t
    cases z : cls x with
    | none => rw [z] at q; cases q
    | some c =>
      rw [z] at q
      simp only [Option.bind_some] at q
      obtain ⟨h1, rfl⟩ := some_if q
      obtain ⟨v, v', rfl, h, h'⟩ := pr2 hv
      cases h'.ty
      refine ⟨v, .ty t, .type c, .type t, isT c t, rfl, .ty t, h.ty4 ex z, ?_, k _ _ (.inl ⟨rfl, .bl _⟩)⟩
      refine kit_ty ?_
      have hc : c = "NoneType" ∨ c = "bool" ∨ c = "int" ∨ c = "str" ∨ c = "list" ∨ c = "tuple" := by
        cases x <;> simp only [cls] at z <;> cases z <;> simp
      rcases hc with rfl | rfl | rfl | rfl | rfl | rfl <;> rcases h1 with rfl | rfl | rfl | rfl | rfl <;> decide +kernel
  · cases q

/-! ### a < b < c -/
theorem Res.step {v : V} {H' : Hp} {t : D} {μ0 : Mu} {B0 H0 : Hp} (h : Res X.K X.mg B H v H' (.d t)) (x : Ext X.N.length μ0 B0 H0 μ B H) (r : Rel X.K X.mg X.N.length env μ B H σ) :
    ∃ B', Ext X.N.length μ0 B0 H0 μ B' H' ∧ Ext X.N.length μ B H μ B' H' ∧ Rel X.K X.mg X.N.length env μ B' H' σ ∧ Den X.K X.mg B' v t := by
  rcases h with ⟨rfl, h⟩ | ⟨q, o, h1, rfl, h2⟩
  · exact ⟨B, x, Ext.refl, r, h⟩
  · have x1 : Ext X.N.length μ B H μ B (L2.upd H q o) := ext_new h1
    have x2 := ext_add (o := o) (r.base h1) h1 x1
    exact ⟨_, x.trans x2, x2, (r.new h1).add (r.base h1) upd_same (r.nomu h1), h2⟩
theorem snd_chain {r r' : R2} {f g : D → D → Option W} {ta tb tc : TE} (hr : OpS X r f) (hr' : OpS X r' g) (ha : SndX X Wx (dW X) ta ma) (hb : SndX X Wx (dW X) tb mb) (hc : SndX X Wx (dW X) tc mc) :
    SndX X Wx (dW X) (tChain r r' ta tb tc) (eChain f g ma mb mc) := by
  intro e μ B H σ Q rl h
  refine Snd.bnd (t := ta) (R' := fun x H1 => tb σ H1 fun y H2 => r x y H2 fun z H3 => ∃ k, z = .bl k ∧ (if k = true then tc σ H3 fun w' H4 => r' y w' H4 Q else Q (.bl false) H3)) ha Ext.refl rl h fun wa e1 x μ1 B1 H1 x1 _ r1 d1 p1 => ?_
  refine Snd.bnd hb x1 r1 p1 fun wb e2 y μ2 B2 H2 x2 y2 r2 d2 p2 => ?_
  have d1' := DenW.go y2 d1
  cases q1 : vw wa e2 with
  | none => rw [q1] at p2; exact p2.elim
  | some u =>
    cases q2 : vw wb e2 with
    | none => rw [q1, q2] at p2; exact p2.elim
    | some u' =>
      rw [q1, q2] at p2
      simp only at p2
      cases q3 : f u u' with
      | none => rw [q3] at p2; exact p2.elim
      | some w =>
        rw [q3] at p2
        refine hr B2 H2 x y u u' w _ r2.ex (view_of r2 d1' q1) (view_of r2 d2 q2) q3 fun v H' z => ?_
        cases w with
        | d t =>
          cases t with
          | bl k =>
            obtain ⟨B3, x3, y3, r3, d3⟩ := z.step x2 r2
            cases d3
            refine ⟨k, rfl, ?_⟩
            cases k with
            | false =>
              rw [if_neg Bool.false_ne_true]
              exact p2.ok x3 r3 (.bl false)
            | true =>
              rw [if_pos rfl]
              simp only at p2
              refine Snd.bnd hc x3 r3 p2 fun wc e4 w4 μ4 B4 H4 x4 y4 r4 d4 p4 => ?_
              have d2' := DenW.go y4 (DenW.go y3 d2)
              cases q4 : vw wb e4 with
              | none => rw [q4] at p4; exact p4.elim
              | some s =>
                cases q5 : vw wc e4 with
                | none => rw [q4, q5] at p4; exact p4.elim
                | some s' =>
                  rw [q4, q5] at p4
                  simp only at p4
                  cases q6 : g s s' with
                  | none => rw [q6] at p4; exact p4.elim
                  | some w =>
                    rw [q6] at p4
                    exact hr' B4 H4 y w4 s s' w Q r4.ex (view_of r4 d2' q4) (view_of r4 d4 q5) q6 fun v H' z => z.fin x4 r4 p4
          | _ => exact p2.elim
        | _ => exact p2.elim
theorem se_chain {op op' : CmpOp} {r r' : R2} {f g : D → D → Option W} (ho : OpR X (compareOp op) r) (hr : OpS X r f) (ho' : OpR X (compareOp op') r') (hr' : OpS X r' g) (ha : SE X Wx a ma) (hb : SE X Wx b mb) (hc : SE X Wx c mc)
    (hm : lastMarks [op, op'] [b, c] = false := by with_unfolding_all rfl) : SE X Wx (.Compare a [op, op'] [b, c] pos) (eChain f g ma mb mc) := by
  obtain ⟨ta, pa, sa⟩ := ha.ex
  obtain ⟨tb, pb, sb⟩ := hb.ex
  obtain ⟨tc, pc, sc⟩ := hc.ex
  exact .of ⟨_, pe_chain ho ho' pa pb pc hm, snd_chain hr hr' sa sb sc⟩
theorem st_chain {op op' : CmpOp} {r r' : R2} {f g : D → D → Option W} (ho : OpR X (compareOp op) r) (hr : OpS X r f) (ho' : OpR X (compareOp op') r') (hr' : OpS X r' g) (ha : SE X Wx a ma) (hb : SE X Wx b mb) (hc : SE X Wx c mc)
    (hm : lastMarks [op, op'] [b, c] = false := by with_unfolding_all rfl) : ST X Wx (.Compare a [op, op'] [b, c] pos) (tBl (eChain f g ma mb mc)) := by
  obtain ⟨ta, pa, sa⟩ := ha.ex
  obtain ⟨tb, pb, sb⟩ := hb.ex
  obtain ⟨tc, pc, sc⟩ := hc.ex
  exact .of ⟨_, pt_chain ho ho' pa pb pc hm, snd_tBl (snd_chain hr hr' sa sb sc)⟩

/-! ### slices -/
theorem so_none : SO X Wx none (oPart none) := .of ⟨_, po_none, fun e μ B H σ Q rl p => p.ok Ext.refl rl rfl⟩
theorem so_some (ha : SE X Wx a ma) : SO X Wx (some a) (oPart (some ma)) := by
  obtain ⟨ta, pa, sa⟩ := ha.ex
  refine .of ⟨_, po_some pa, fun e μ B H σ Q rl p => ?_⟩
  refine Snd.bnd (t := ta) (R' := fun x H1 => ∃ i, x = .int i ∧ Q (some i) H1) sa Ext.refl rl p fun wa e1 x μ1 B1 H1 x1 _ r1 d1 p1 => ?_
  cases wa with
  | d y =>
    cases y with
    | int i =>
      cases (show Den X.K X.mg B1 x (.int i) from d1)
      exact ⟨i, rfl, p1.ok x1 r1 rfl⟩
    | _ => exact p1.elim
  | _ => exact p1.elim
def rSlS (K : PySem.W.Frag) : V → Option Int → Option Int → Hp → VK → Prop := fun x lo hi H Q => rSlL K x lo hi H Q ∨ rSlA K x lo hi H Q
theorem clip_sIx (n d : Nat) (o : Option Int) : clipN n d o = HT.sIx n d o := by
  cases o with
  | none => rfl
  | some i =>
    show (if i < 0 then (max (i + n) 0).toNat else min i.toNat n) = (if i < 0 then (i + (n : Int)).toNat else min i.toNat n)
    by_cases h : i < 0
    · rw [if_pos h, if_pos h]; omega
    · rw [if_neg h, if_neg h]
theorem cut_den {K : PySem.W.Frag} {mg : Str → Option Value} {xs : List V} {ds : List D} {lo hi : Option Int} (h : DenAll K mg B xs ds) : DenAll K mg B (cutV xs lo hi) (cut ds lo hi) := by
  unfold cutV cut
  rw [clip_sIx, clip_sIx, ← h.length]
  exact (h.drop _).take _
theorem se_sl {lo hi : Option Expr} {ml mh : Option (M W)} {p2 : Pos} (ha : SE X Wx a ma) (hl : SO X Wx lo (oPart ml)) (hh : SO X Wx hi (oPart mh)) : SE X Wx (.Subscript a (.Slice lo hi none p2) pos) (eSl ma ml mh) := by
  obtain ⟨ta, pa, sa⟩ := ha.ex
  obtain ⟨tl, pl, sl⟩ := hl.ex
  obtain ⟨th, ph, sh⟩ := hh.ex
  refine .of ⟨_, pe_slice (SlR.or sl_list sl_tupA) pa pl ph, fun e μ B H σ Q rl h => ?_⟩
  refine Snd.bnd (t := ta) (R' := fun x H1 => tl σ H1 fun l H2 => th σ H2 fun u H3 => rSlS X.K x l u H3 Q) sa Ext.refl rl h fun wa e1 x μ1 B1 H1 x1 _ r1 d1 p1 => ?_
  refine Snd.bnd (t := tl) (R' := fun l H2 => th σ H2 fun u H3 => rSlS X.K x l u H3 Q) sl x1 r1 p1 fun l e2 l' μ2 B2 H2 x2 y2 r2 d2 p2 => ?_
  cases (show l' = l from d2)
  refine Snd.bnd sh x2 r2 p2 fun u e3 u' μ3 B3 H3 x3 y3 r3 d3 p3 => ?_
  cases (show u' = u from d3)
  have d1' := DenW.go y3 (DenW.go y2 d1)
  cases q1 : vw wa e3 with
  | none => rw [q1] at p3; exact p3.elim
  | some t =>
    rw [q1] at p3
    have vx := view_of r3 d1' q1
    cases t with
    | lst ds =>
      obtain ⟨la, xs, rfl, h2, h3⟩ := vx.seqL r3.ex
      exact .inl ⟨la, xs, rfl, h2, fun q hq => Res.fin (w := .fr (.lst (cut ds l u))) ⟨q, _, hq, rfl, rfl, _, upd_same, cut_den h3⟩ x3 r3 p3⟩
    | tup ds =>
      obtain ⟨la, xs, rfl, h2, h3⟩ := vx.seqT r3.ex
      refine .inr ⟨la, xs, rfl, h2, fun z => Res.fin (w := .d (.tup (cut ds l u))) (.inl ⟨rfl, ?_⟩) x3 r3 p3, fun z q hq => Res.fin (w := .d (.tup (cut ds l u))) (.inr ⟨q, _, hq, rfl, .tup (.of upd_same) ((cut_den h3).mono (same_new (r3.base hq)))⟩) x3 r3 p3⟩
      have e : cut ds l u = ds := by
        unfold cut
        rw [clip_sIx, clip_sIx, ← h3.length, z.1, z.2, List.drop_zero, Nat.sub_zero, h3.length, List.take_length]
      rw [e]
      rcases vx with h | ⟨a, c, h6, h7, h8⟩
      · exact h
      · cases c <;> cases h7
    | _ => exact p3.elim

/-! ### x[::-1] -/
theorem sliceApplied_rev {prog : Program} {w : World} {A : Around} {E : Value → Shared → Prop} {s : Shared} {sl : Addr} {vs : Value} {n : Nat} {Q : Int × Int × Nat → Shared → Prop} (hs : s.heap.IsSliceOf sl .none .none vs) (ps : IsPart vs (some (-1)))
    (h : Q ((n : Int) - 1, -1, n) s) : wpAny (model prog w) A (Builtin.Slice.sliceApplied (.ref sl) (pure (n : Int))) Q E s := by
  obtain ⟨os, hos, hcs, hds⟩ := id hs
  unfold Builtin.Slice.sliceApplied Builtin.Slice.sliceFields
  refine wpAny_bind (wpAny_bind (wpAny_field hos hds (x := .none) rfl (wpAny_bind (wpAny_field hos hds (x := .none) rfl (wpAny_bind (wpAny_field hos hds (x := vs) rfl (wpAny_pure ?_)))))))
  refine wpAny_bind (HT.slicePart_ ps ?_)
  show wpAny _ _ (if ((-1 : Int) == 0) = true then _ else _) _ _ s
  rw [if_neg (by decide)]
  refine wpAny_bind (HT.slicePart_ .none (wpAny_bind (HT.slicePart_ .none (wpAny_bind (wpAny_pure ?_)))))
  show wpAny _ _ (match Builtin.Slice.sliceAdjust none none (-1) (n : Int) with | (lo, hi) => pure (lo, (-1 : Int), Builtin.Slice.slicePlaces lo hi (-1))) _ _ s
  have e1 : Builtin.Slice.sliceAdjust none none (-1) (n : Int) = ((n : Int) - 1, -1) := by
    unfold Builtin.Slice.sliceAdjust
    simp
  rw [e1]
  show wpAny _ _ (pure ((n : Int) - 1, (-1 : Int), Builtin.Slice.slicePlaces ((n : Int) - 1) (-1) (-1))) _ _ s
  have e2 : Builtin.Slice.slicePlaces ((n : Int) - 1) (-1) (-1) = n := by
    unfold Builtin.Slice.slicePlaces
    simp
    omega
  rw [e2]
  exact wpAny_pure h
theorem fm_congr {α β : Type} {f g : α → Option β} : ∀ l : List α, (∀ x ∈ l, f x = g x) → l.filterMap f = l.filterMap g
  | [], _ => rfl
  | x :: l, h => by
    rw [List.filterMap_cons, List.filterMap_cons, h x (List.mem_cons_self), fm_congr l fun y hy => h y (List.mem_cons_of_mem _ hy)]
theorem rev_pick (xs : Array Value) : ((List.range xs.size).filterMap fun (m : Nat) => xs[((xs.size : Int) - 1 + (m : Int) * (-1)).toNat]?).toArray = xs.toList.reverse.toArray := by
  congr 1
  have e : (List.range xs.size).filterMap (fun (m : Nat) => xs[((xs.size : Int) - 1 + (m : Int) * (-1)).toNat]?) = ((List.range xs.size).map (fun k => xs.size - 1 - k)).filterMap (xs[·]?) := by
    rw [List.filterMap_map]
    refine fm_congr _ fun m hm => ?_
    have := List.mem_range.mp hm
    have e : ((xs.size : Int) - 1 + (m : Int) * (-1)).toNat = xs.size - 1 - m := by omega
    show xs[((xs.size : Int) - 1 + (m : Int) * (-1)).toNat]? = xs[xs.size - 1 - m]?
    rw [e]
  rw [e, PySem.W.krv_range, List.filterMap_reverse, PySem.W.krv_all]
theorem getItem_tuple_rev {prog : Program} {w : World} {A : Around} {E : Value → Shared → Prop} {s : Shared} {t sl : Addr} {items : Array Value} {vs : Value} {Q : Value → Shared → Prop} (ht : IsTup s.heap t items) (hs : s.heap.IsSliceOf sl .none .none vs) (ps : IsPart vs (some (-1)))
    (h : Q (.ref s.heap.objs.size) { s with heap := s.heap.push { cls := .type "tuple", data := .seq items.toList.reverse.toArray } }) (hsz : items.size ≤ sizeLine) : wpAny (model prog w) A (getItem (.ref t) (.ref sl)) Q E s := by
  have htake : sizeOk (.seq items.toList.reverse.toArray) := by
    show items.toList.reverse.toArray.size ≤ sizeLine
    rw [List.size_toArray, List.length_reverse, Array.length_toList]
    omega
  obtain ⟨os, hos, hcs, hds⟩ := id hs
  have hTs : s.TypeIs (.ref sl) "slice" := ⟨os, hos, hcs⟩
  unfold getItem
  try with_reducible refine wpAny_holding ?_
  first | refine wpAny_bind (wpAny_pure ?_) | skip
  refine wpAny_bind (wpAny_sequenceKey ht.typeIs (by decide) ?_)
  refine wpAny_bind (wpAny_callSpecial?_slot (name := Str.ofString "__getitem__") ht.typeIs PyProof.Rows.slot_tuple_getitem
    (wpAny_call_entry PyProof.Rows.slot_tuple_getitem ht.typeIs entry_tuple_getitem ?_ (args_tuple_getitem _ _)))
  show wpAny _ _ (Builtin.Tuple.tupleItemsOf (.ref t) >>= _) _ _ s
  refine wpAny_bind (tupleItemsOf_ ht ?_)
  refine wpAny_bind (wpAny_typeOf hTs ?_)
  rw [if_pos (by decide)]
  refine wpAny_bind (sliceApplied_rev hs ps ?_)
  have hno : ¬ ((((items.size : Int) - 1) == 0 && (-1 : Int) == 1 && items.size == items.size) = true) := by
    intro q
    rw [Bool.and_eq_true, Bool.and_eq_true] at q
    exact absurd q.1.2 (by decide)
  show wpAny _ _ (if ((((items.size : Int) - 1) == 0 && (-1 : Int) == 1 && items.size == items.size)) = true then _ else _) _ _ s
  rw [if_neg hno, rev_pick]
  first
    | exact wpAny_bind (m := Builtin.Tuple.tupleExact _) (wpAny_newObj_type (wpAny_pure ⟨_, rfl, wpAny_pure h⟩) htake)
    | exact wpAny_bind (m := Builtin.Tuple.tupleExact _) (wpAny_newObj_type (wpAny_bind (wpAny_pure (wpAny_pure ⟨_, rfl, wpAny_pure h⟩))) htake)
    | exact wpAny_bind (wpAny_bind (m := Builtin.Tuple.tupleExact _) (wpAny_newObj_type (wpAny_pure (wpAny_pure ⟨_, rfl, wpAny_pure h⟩)) htake))
    | exact wpAny_bind (wpAny_bind (m := Builtin.Tuple.tupleExact _) (wpAny_newObj_type (wpAny_pure ⟨_, rfl, wpAny_pure h⟩) htake))
def tRevA (K : PySem.W.Frag) (te : TE) : TE := fun σ H Q => te σ H fun x H1 => ∃ a xs, x = .ref a ∧ ((SqL K H1 a xs ∧ ∀ p, H1 p = none → Q (.ref p) (L2.upd H1 p (.lst xs.reverse))) ∨ (SqT K H1 a xs ∧ ∀ p, H1 p = none → Q (.ref p) (L2.upd H1 p (.tup xs.reverse))))
theorem pe_revA {e : Expr} {te : TE} {k : Nat} {p1 p2 p3 pos : Pos} (he : PE X e te) : PE X (.Subscript e (.Slice none none (some (.UnaryOp .USub (.Constant (.int 1) k p1) p2)) p3) pos) (tRevA X.K te) := by
  refine ⟨fun pins s σ H Q I h => ?_⟩
  refine Subscript_ (thn (he.run pins s σ H _ I h) fun v s1 ⟨x, H1, I1, r1, q1⟩ => ?_)
  obtain ⟨a, xs, ex, q⟩ := q1
  subst ex
  cases r1
  have hst : PO X (some (.UnaryOp .USub (.Constant (.int 1) k p1) p2)) (tPart (tUn (rU fun i => .int (-i)) (tC (.int 1)))) := po_some (pe_un un_neg pe_int)
  refine wpAny_Slice (thn (po_none.run pins s1 σ H1 (fun o H2 => o = none ∧ H2 = H1) I1 ⟨rfl, rfl⟩) fun vl s2 ⟨l, H2, I2, pl, el, e2⟩ => ?_)
  subst el e2
  refine thn (po_none.run pins s2 σ H2 (fun o H3 => o = none ∧ H3 = H2) I2 ⟨rfl, rfl⟩) fun vu s3 ⟨u, H3, I3, pu, eu, e3⟩ => ?_
  subst eu e3
  refine thn (hst.run pins s3 σ H3 (fun o H4 => o = some (-1) ∧ H4 = H3) I3 ⟨1, rfl, -1, rfl, rfl, rfl⟩) fun vs s4 ⟨o, H4, I4, ps, eo, e4⟩ => ?_
  subst eo e4
  have I5 : Inv X pins σ H4 { s4 with heap := s4.heap.push { cls := .type "slice", data := .fields #[vl, vu, vs] } } := I4.kept (t' := s4.toks) fun b ob q => Heap.get?_push_of_some _ q
  show wpAny (model X.prog X.w) X.A (subscriptTail e (.Slice none none (some (.UnaryOp .USub (.Constant (.int 1) k p1) p2)) p3) (.ref a) (.ref s4.heap.objs.size)) (EP X pins σ Q) X.xe { s4 with heap := s4.heap.push { cls := .type "slice", data := .fields #[vl, vu, vs] } }
  rcases q with ⟨hx, q⟩ | ⟨hx, q⟩
  · obtain ⟨its, r, ht, hz⟩ := I5.list hx
    have hlen := r.length
    refine tail_any (ops := [.ref a, .ref s4.heap.objs.size]) ht.isList.typeIs (PySem.slot_list_getitem.lookup) ?_ (by with_unfolding_all rfl)
    refine wpAny_getItem_list_slice ht.isList (Heap.IsSliceOf.new _ vl vu vs) pl pu ps (by decide) ?_ (by rw [List.size_toArray]; omega)
    rw [PySem.W.krv_pick]
    refine ⟨.ref _, _, I5.laid (t' := s4.toks) (o := .lst xs.reverse) (fun b ob q => Heap.get?_push_of_some _ q) (Nat.le_refl _) ?_, rfl, q _ (I5.hok.fresh (Nat.le_refl _))⟩
    exact ⟨by rw [List.length_reverse]; exact hz, _, 0, r.reverse, Heap.get?_push_size _ rfl⟩
  · obtain ⟨its, r, ht, hz⟩ := I5.tuple hx
    have hlen := r.length
    cases pl
    cases pu
    refine tail_any (ops := [.ref a, .ref s4.heap.objs.size]) ht.typeIs (PyProof.Rows.slot_tuple_getitem.lookup) ?_ (by with_unfolding_all rfl)
    refine getItem_tuple_rev ht (Heap.IsSliceOf.new _ _ _ vs) ps ?_ (by rw [List.size_toArray]; omega)
    refine ⟨.ref _, _, I5.laid (t' := s4.toks) (o := .tup xs.reverse) (fun b ob q => Heap.get?_push_of_some _ q) (Nat.le_refl _) ?_, rfl, q _ (I5.hok.fresh (Nat.le_refl _))⟩
    exact ⟨by rw [List.length_reverse]; exact hz, _, r.reverse, IsTup.new _ _⟩
theorem se_rev {k : Nat} {p1 p2 p3 : Pos} (ha : SE X Wx a ma) : SE X Wx (.Subscript a (.Slice none none (some (.UnaryOp .USub (.Constant (.int 1) k p1) p2)) p3) pos) (eUn oRev ma) := by
  obtain ⟨ta, pa, sa⟩ := ha.ex
  refine .of ⟨_, pe_revA pa, snd_un (r := fun x H1 Q => ∃ a xs, x = .ref a ∧ ((SqL X.K H1 a xs ∧ ∀ p, H1 p = none → Q (.ref p) (L2.upd H1 p (.lst xs.reverse))) ∨ (SqT X.K H1 a xs ∧ ∀ p, H1 p = none → Q (.ref p) (L2.upd H1 p (.tup xs.reverse))))) (fun B H x d w Q ex vx q k => ?_) sa⟩
  unfold oRev at q
  split at q
  · cases q
    obtain ⟨l, xs, rfl, h2, h3⟩ := vx.seqL ex
    exact ⟨l, xs, rfl, .inl ⟨h2, fun p hp => k _ _ ⟨p, _, hp, rfl, rfl, _, upd_same, h3.reverse⟩⟩⟩
  · cases q
    obtain ⟨l, xs, rfl, h2, h3⟩ := vx.seqT ex
    exact ⟨l, xs, rfl, .inr ⟨h2, fun p hp => k _ _ (.inr ⟨p, _, hp, rfl, .tup (.of upd_same) (h3.reverse.mono (same_new (base_of ex hp)))⟩)⟩⟩
  · cases q
end
end Py
end
section
set_option Elab.async false
set_option linter.all false
set_option maxRecDepth 100000
namespace Py
open PySem PySem.Spec PyProof.Rows L2
/-! ### what is walked -/
def Yl (K : PySem.W.Frag) (mg : Str → Option Value) (B H : Hp) (x : V) (H' : Hp) (d : D) : Prop := (H' = H ∧ Den K mg B x d) ∨ ∃ p o, H p = none ∧ H' = L2.upd H p o ∧ Den K mg (L2.upd B p o) x d
structure ItOk (K : PySem.W.Frag) (mg : Str → Option Value) (B : Hp) (J : It) (ds : List D) : Prop where
  go : ∀ B' H', Same B B' → Same B' H' → ∀ k d, ds[k]? = some d → J.go k H'
  yld : ∀ B' H', Same B B' → Same B' H' → ∀ k d, ds[k]? = some d → ∀ x H'', J.yld k H' x H'' → Yl K mg B' H' x H'' d
  stop : ∀ B' H', Same B B' → Same B' H' → ∀ k, ds.length ≤ k → J.stop k H'
section
variable (X : Cx) (Wx : WX)
def dI : Dn It (List D) := fun _ _ B _ _ J ds => ItOk X.K X.mg B J ds
structure SI (tg iter : Expr) (m : M (List D)) : Prop where
  p : PI X tg iter (rdX X Wx (dI X) m)
end
section
variable {X : Cx} {Wx : WX} {e a b c tg : Expr} {es : List Expr} {ma mb mc : M W} {pos : Pos} {μ : Mu} {B H : Hp} {σ : L2.St} {env : Env}
theorem SI.of {m : M (List D)} (h : ∃ wi, PI X tg e wi ∧ SndX X Wx (dI X) wi m) : SI X Wx tg e m :=
  let ⟨te, p, s⟩ := h; ⟨⟨fun pins st σ H Q I ⟨e, μ, B, r, q⟩ => p.run pins st σ H Q I (s e μ B H σ Q r q)⟩⟩
theorem SI.ex {m : M (List D)} (h : SI X Wx tg e m) : ∃ wi, PI X tg e wi ∧ SndX X Wx (dI X) wi m := ⟨_, h.p, snd_rd⟩
theorem back_I : BackD (dI X) := fun H0 H1 t μ B H σ v a h => h
theorem rngD_get {lo : Int} {n k : Nat} {d : D} (h : (rngD lo n)[k]? = some d) : k < n ∧ d = .int (lo + (k : Int)) := by
  unfold rngD at h
  rw [List.getElem?_map] at h
  by_cases hk : k < n
  · rw [List.getElem?_range hk] at h
    cases h
    exact ⟨hk, rfl⟩
  · rw [List.getElem?_eq_none (by rw [List.length_range]; omega)] at h
    cases h
theorem rngD_len (lo : Int) (n : Nat) : (rngD lo n).length = n := by unfold rngD; rw [List.length_map, List.length_range]
theorem it_range {lo : Int} {n : Nat} : ItOk X.K X.mg B (Itr lo n) (rngD lo n) where
  go := fun B' H' _ _ k d q => (rngD_get q).1
  yld := fun B' H' _ _ k d q x H'' y => by
    obtain ⟨e1, e2⟩ := y
    subst e1 e2
    obtain ⟨_, rfl⟩ := rngD_get q
    exact .inl ⟨rfl, .int _⟩
  stop := fun B' H' _ _ k q => by rw [rngD_len] at q; exact q
theorem big_ok {i : Int} (h : big i = true) : -(2 ^ 62) ≤ i ∧ i < 2 ^ 62 := by
  unfold big at h
  simp only [Bool.and_eq_true, decide_eq_true_eq] at h
  exact h
theorem si_range1 {p0 : Pos} (hm : X.mg "range" = none) (ha : SE X Wx a ma) (hg : Gl X "range" := by rfl) (hs : starEach [a] X.env = [(false, eval a X.env)] := by rfl) : SI X Wx tg (.Call (.Name "range" p0) [a] [] pos) (iRng1 ma) := by
  obtain ⟨ta, pa, sa⟩ := ha.ex
  refine .of ⟨_, pi_range1 hg hm (pa_cons pa pa_nil (by exact hs)) hs, fun e μ B H σ Q rl p => ?_⟩
  refine Snd.bnd (t := ta) (R' := fun x H1 => ∃ j : Int, [x] = [.int j] ∧ -(2 ^ 62) ≤ j ∧ j < 2 ^ 62 ∧ Q (Itr 0 j.toNat) H1) sa Ext.refl rl p fun wa e1 x μ1 B1 H1 x1 _ r1 d1 p1 => ?_
  cases wa with
  | d y =>
    cases y with
    | int j =>
      cases (show Den X.K X.mg B1 x (.int j) from d1)
      simp only at p1
      by_cases hb : big j = true
      · rw [if_pos hb] at p1
        exact ⟨j, rfl, (big_ok hb).1, (big_ok hb).2, p1.ok x1 r1 it_range⟩
      · rw [if_neg hb] at p1; exact p1.elim
    | _ => exact p1.elim
  | _ => exact p1.elim
theorem si_range2 {p0 : Pos} (hm : X.mg "range" = none) (ha : SE X Wx a ma) (hb : SE X Wx b mb) (hg : Gl X "range" := by rfl) (hs : starEach [a, b] X.env = [(false, eval a X.env), (false, eval b X.env)] := by rfl) (hs2 : starEach [b] X.env = [(false, eval b X.env)] := by rfl) :
    SI X Wx tg (.Call (.Name "range" p0) [a, b] [] pos) (iRng2 ma mb) := by
  obtain ⟨ta, pa, sa⟩ := ha.ex
  obtain ⟨tb, pb, sb⟩ := hb.ex
  refine .of ⟨_, pi_range2 hg hm (pa_cons pa (pa_cons pb pa_nil (by exact hs2)) (by rw [hs, hs2])) hs hs2, fun e μ B H σ Q rl p => ?_⟩
  refine Snd.bnd (t := ta) (R' := fun x H1 => tb σ H1 fun y H2 => ∃ i j : Int, [x, y] = [.int i, .int j] ∧ (-(2 ^ 62) ≤ i ∧ i < 2 ^ 62 ∧ -(2 ^ 62) ≤ j ∧ j < 2 ^ 62) ∧ Q (Itr i (j - i).toNat) H2) sa Ext.refl rl p fun wa e1 x μ1 B1 H1 x1 _ r1 d1 p1 => ?_
  refine Snd.bnd sb x1 r1 p1 fun wb e2 y μ2 B2 H2 x2 y2 r2 d2 p2 => ?_
  have d1' := DenW.go y2 d1
  cases wa with
  | d s =>
    cases s with
    | int i =>
      cases wb with
      | d t =>
        cases t with
        | int j =>
          cases (show Den X.K X.mg B2 x (.int i) from d1')
          cases (show Den X.K X.mg B2 y (.int j) from d2)
          simp only at p2
          by_cases hb : (big i && big j) = true
          · rw [if_pos hb] at p2
            obtain ⟨h1, h2⟩ := Bool.and_eq_true_iff.mp hb
            exact ⟨i, j, rfl, ⟨(big_ok h1).1, (big_ok h1).2, (big_ok h2).1, (big_ok h2).2⟩, p2.ok x2 r2 it_range⟩
          · rw [if_neg hb] at p2; exact p2.elim
        | _ => exact p2.elim
      | _ => exact p2.elim
    | _ => exact p2.elim
  | _ => exact p2.elim
/-- over a list or a tuple -/
theorem pi_seq {l : Expr} {tl : TE} (hl : PE X l tl) : PI X tg l (fun σ H R => tl σ H fun x H1 => ∃ a, x = .ref a ∧ (((∃ xs, SqL X.K H1 a xs) ∧ R (Itl X.K a) H1) ∨ ((∃ xs, SqT X.K H1 a xs) ∧ R (Itt X.K a) H1))) := by
  refine ⟨fun pins s σ H R I h => ?_⟩
  refine thn (hl.run pins s σ H _ I h) fun v s1 ⟨x, H1, I1, r1, q1⟩ => ?_
  obtain ⟨a, e, q⟩ := q1
  subst e
  cases r1
  rcases q with ⟨⟨xs, hq⟩, q⟩ | ⟨⟨xs, hq⟩, q⟩
  · obtain ⟨its, rv, p, hz⟩ := I1.list hq
    refine wpAny_pyIter_list p.isList ?_
    refine ⟨s1.heap.objs.size, [s1.heap.objs.size], _, _, H1, rfl, I1.kept (t' := s1.toks) fun b o e => Heap.get?_push_of_some _ e, turn_list a _, ⟨_, Heap.get?_push_size _ rfl, rfl, rfl⟩, fun b hb => ?_, q⟩
    have e : b = s1.heap.objs.size := by simpa using hb
    subst e
    exact I1.fpOk (Nat.le_refl _) (I1.hok.fresh (Nat.le_refl _))
  · obtain ⟨its, rv, p, hz⟩ := I1.tuple hq
    refine wpAny_pyIter_tuple (show s1.heap.IsTuple a its.toArray from p) ?_
    refine ⟨s1.heap.objs.size, [s1.heap.objs.size], _, _, H1, rfl, I1.kept (t' := s1.toks) fun b o e => Heap.get?_push_of_some _ e, turn_tuple a _, ⟨_, Heap.get?_push_size _ rfl, rfl, rfl⟩, fun b hb => ?_, q⟩
    have e : b = s1.heap.objs.size := by simpa using hb
    subst e
    exact I1.fpOk (Nat.le_refl _) (I1.hok.fresh (Nat.le_refl _))
theorem it_list {l : Addr} {xs : List V} {ds : List D} (h : SqL X.K B l xs) (hd : DenAll X.K X.mg B xs ds) : ItOk X.K X.mg B (Itl X.K l) ds where
  go := fun B' H' e1 e2 k d q => by
    obtain ⟨v, h1, _⟩ := hd.get q
    exact ⟨xs, v, same_l (e1.trans e2) h, h1⟩
  yld := fun B' H' e1 e2 k d q x H'' y => by
    obtain ⟨v, h1, h2⟩ := hd.get q
    obtain ⟨rfl, y2⟩ := y
    have h3 := y2 xs (same_l (e1.trans e2) h)
    rw [h1] at h3
    cases h3
    exact .inl ⟨rfl, h2.mono e1⟩
  stop := fun B' H' e1 e2 k q => ⟨xs, same_l (e1.trans e2) h, by rw [hd.length]; exact q⟩
theorem it_tup {l : Addr} {xs : List V} {ds : List D} (h : SqT X.K B l xs) (hd : DenAll X.K X.mg B xs ds) : ItOk X.K X.mg B (Itt X.K l) ds where
  go := fun B' H' e1 e2 k d q => by
    obtain ⟨v, h1, _⟩ := hd.get q
    exact ⟨xs, v, same_t (e1.trans e2) h, h1⟩
  yld := fun B' H' e1 e2 k d q x H'' y => by
    obtain ⟨v, h1, h2⟩ := hd.get q
    obtain ⟨rfl, y2⟩ := y
    have h3 := y2 xs (same_t (e1.trans e2) h)
    rw [h1] at h3
    cases h3
    exact .inl ⟨rfl, h2.mono e1⟩
  stop := fun B' H' e1 e2 k q => ⟨xs, same_t (e1.trans e2) h, by rw [hd.length]; exact q⟩
theorem si_seq (ha : SE X Wx a ma) : SI X Wx tg a (iSeq ma) := by
  obtain ⟨ta, pa, sa⟩ := ha.ex
  refine .of ⟨_, pi_seq pa, fun e μ B H σ Q rl p => ?_⟩
  refine Snd.bnd (t := ta) (R' := fun x H1 => ∃ a, x = .ref a ∧ (((∃ xs, SqL X.K H1 a xs) ∧ Q (Itl X.K a) H1) ∨ ((∃ xs, SqT X.K H1 a xs) ∧ Q (Itt X.K a) H1))) sa Ext.refl rl p fun wa e1 x μ1 B1 H1 x1 _ r1 d1 p1 => ?_
  refine frz_ok x1 r1 d1 p1 fun t e2 μ2 B2 x2 r2 dt _ p2 _ => ?_
  cases t with
  | lst ds =>
    cases dt with
    | lst h1 h2 => exact ⟨_, rfl, .inl ⟨⟨_, same_l r2.ex h1⟩, p2.ok x2 r2 (it_list h1 h2)⟩⟩
  | tup ds =>
    cases dt with
    | tup h1 h2 => exact ⟨_, rfl, .inr ⟨⟨_, same_t r2.ex h1⟩, p2.ok x2 r2 (it_tup h1 h2)⟩⟩
  | _ => exact p2.elim
theorem enumD_get {ds : List D} {k : Nat} {d : D} (h : (enumD ds)[k]? = some d) : ∃ t, ds[k]? = some t ∧ d = .tup [.int (k : Int), t] := by
  unfold enumD at h
  rw [List.getElem?_map, List.getElem?_zipIdx] at h
  cases q : ds[k]? with
  | none => rw [q] at h; cases h
  | some t =>
    rw [q] at h
    simp only [Option.map_some, Option.some.injEq, Nat.zero_add] at h
    exact ⟨t, rfl, h.symm⟩
theorem enumD_len (ds : List D) : (enumD ds).length = ds.length := by unfold enumD; rw [List.length_map, List.length_zipIdx]
theorem new_base {p : Addr} (e : Same B H) (h : H p = none) : B p = none := base_of e h
theorem it_enum {l : Addr} {xs : List V} {ds : List D} (h : SqL X.K B l xs) (hd : DenAll X.K X.mg B xs ds) : ItOk X.K X.mg B (Ite X.K l) (enumD ds) where
  go := fun B' H' e1 e2 k d q => by
    obtain ⟨t, h0, _⟩ := enumD_get q
    obtain ⟨v, h1, _⟩ := hd.get h0
    exact ⟨xs, v, same_l (e1.trans e2) h, h1⟩
  yld := fun B' H' e1 e2 k d q x H'' y => by
    obtain ⟨t, h0, rfl⟩ := enumD_get q
    obtain ⟨v, h1, h2⟩ := hd.get h0
    obtain ⟨T, x', rfl, hT, rfl, y2⟩ := y
    have h3 := y2 xs (same_l (e1.trans e2) h)
    rw [h1] at h3
    cases h3
    refine .inr ⟨T, _, hT, rfl, .tup (.of upd_same) (.cons (.int _) (.cons ?_ .nil))⟩
    exact (h2.mono e1).mono (same_new (new_base e2 hT))
  stop := fun B' H' e1 e2 k q => ⟨xs, same_l (e1.trans e2) h, by rw [hd.length, ← enumD_len]; exact q⟩
theorem si_enum {p0 tpos : Pos} {elts : List Expr} {kk : Nat} (hm : X.mg "enumerate" = none) (ha : SE X Wx a ma) (hg : Gl X "enumerate" := by rfl) (hs : starEach [a] X.env = [(false, eval a X.env)] := by rfl) : SI X Wx (.Tuple elts kk tpos) (.Call (.Name "enumerate" p0) [a] [] pos) (iEnum ma) := by
  obtain ⟨ta, pa, sa⟩ := ha.ex
  refine .of ⟨_, pi_enum hg hm (pa_cons pa pa_nil (by exact hs)) hs, fun e μ B H σ Q rl p => ?_⟩
  refine Snd.bnd (t := ta) (R' := fun x H1 => ∃ a xs, [x] = [.ref a] ∧ SqL X.K H1 a xs ∧ Q (Ite X.K a) H1) sa Ext.refl rl p fun wa e1 x μ1 B1 H1 x1 _ r1 d1 p1 => ?_
  refine frz_ok x1 r1 d1 p1 fun t e2 μ2 B2 x2 r2 dt _ p2 _ => ?_
  cases t with
  | lst ds =>
    cases dt with
    | lst h1 h2 => exact ⟨_, _, rfl, same_l r2.ex h1, p2.ok x2 r2 (it_enum h1 h2)⟩
  | _ => exact p2.elim
theorem zipD_get {xs ys : List D} {k : Nat} {d : D} (h : (zipD xs ys)[k]? = some d) : ∃ t u, xs[k]? = some t ∧ ys[k]? = some u ∧ d = .tup [t, u] := by
  unfold zipD at h
  rw [List.getElem?_zipWith] at h
  cases q : xs[k]? with
  | none => rw [q] at h; cases h
  | some t =>
    cases q2 : ys[k]? with
    | none => rw [q, q2] at h; cases h
    | some u =>
      rw [q, q2] at h
      simp only [Option.some.injEq] at h
      exact ⟨t, u, rfl, rfl, h.symm⟩
theorem zipD_len (xs ys : List D) : (zipD xs ys).length = min xs.length ys.length := by unfold zipD; rw [List.length_zipWith]
theorem it_zip {l m : Addr} {xs ys : List V} {ds es : List D} (h : SqL X.K B l xs) (hd : DenAll X.K X.mg B xs ds) (h' : SqL X.K B m ys) (hd' : DenAll X.K X.mg B ys es) : ItOk X.K X.mg B (Itz X.K l m) (zipD ds es) where
  go := fun B' H' e1 e2 k d q => by
    obtain ⟨t, u, h0, h0', _⟩ := zipD_get q
    obtain ⟨v, h1, _⟩ := hd.get h0
    obtain ⟨v', h1', _⟩ := hd'.get h0'
    exact ⟨xs, ys, v, v', same_l (e1.trans e2) h, same_l (e1.trans e2) h', h1, h1'⟩
  yld := fun B' H' e1 e2 k d q x H'' y => by
    obtain ⟨t, u, h0, h0', rfl⟩ := zipD_get q
    obtain ⟨v, h1, h2⟩ := hd.get h0
    obtain ⟨v', h1', h2'⟩ := hd'.get h0'
    obtain ⟨T, x', y', rfl, hT, rfl, y2, y3⟩ := y
    have h3 := y2 xs (same_l (e1.trans e2) h)
    have h3' := y3 ys (same_l (e1.trans e2) h')
    rw [h1] at h3
    rw [h1'] at h3'
    cases h3
    cases h3'
    refine .inr ⟨T, _, hT, rfl, .tup (.of upd_same) (.cons ?_ (.cons ?_ .nil))⟩
    · exact (h2.mono e1).mono (same_new (new_base e2 hT))
    · exact (h2'.mono e1).mono (same_new (new_base e2 hT))
  stop := fun B' H' e1 e2 k q => ⟨xs, ys, same_l (e1.trans e2) h, same_l (e1.trans e2) h', by rw [zipD_len] at q; rw [hd.length, hd'.length]; omega⟩
theorem it_zipT {l m : Addr} {xs ys : List V} {ds es : List D} (h : SqT X.K B l xs) (hd : DenAll X.K X.mg B xs ds) (h' : SqT X.K B m ys) (hd' : DenAll X.K X.mg B ys es) : ItOk X.K X.mg B (RZ.ItzT X.K l m) (zipD ds es) where
  go := fun B' H' e1 e2 k d q => by
    obtain ⟨t, u, h0, h0', _⟩ := zipD_get q
    obtain ⟨v, h1, _⟩ := hd.get h0
    obtain ⟨v', h1', _⟩ := hd'.get h0'
    exact ⟨xs, ys, v, v', same_t (e1.trans e2) h, same_t (e1.trans e2) h', h1, h1'⟩
  yld := fun B' H' e1 e2 k d q x H'' y => by
    obtain ⟨t, u, h0, h0', rfl⟩ := zipD_get q
    obtain ⟨v, h1, h2⟩ := hd.get h0
    obtain ⟨v', h1', h2'⟩ := hd'.get h0'
    obtain ⟨T, x', y', rfl, hT, rfl, y2, y3⟩ := y
    have h3 := y2 xs (same_t (e1.trans e2) h)
    have h3' := y3 ys (same_t (e1.trans e2) h')
    rw [h1] at h3
    rw [h1'] at h3'
    cases h3
    cases h3'
    refine .inr ⟨T, _, hT, rfl, .tup (.of upd_same) (.cons ?_ (.cons ?_ .nil))⟩
    · exact (h2.mono e1).mono (same_new (new_base e2 hT))
    · exact (h2'.mono e1).mono (same_new (new_base e2 hT))
  stop := fun B' H' e1 e2 k q => ⟨xs, ys, same_t (e1.trans e2) h, same_t (e1.trans e2) h', by rw [zipD_len] at q; rw [hd.length, hd'.length]; omega⟩
theorem si_zip {p0 tpos : Pos} {elts : List Expr} {kk : Nat} {ms : M (List W)} (hm : X.mg "zip" = none) (ha : SA X Wx [a, b] ms) (hg : Gl X "zip" := by rfl) (hs : starEach [a, b] X.env = (false, eval a X.env) :: starEach [b] X.env := by rfl) (hpl : (backTo pos (starEach [b] X.env)).any (·.1) = false := by rfl) :
    SI X Wx (.Tuple elts kk tpos) (.Call (.Name "zip" p0) [a, b] [] pos) (iZip ms) := by
  obtain ⟨ta, pa, sa⟩ := ha.ex
  refine .of ⟨_, RZ.pi_zipA hg hm pa hs hpl, fun e μ B H σ Q rl p => ?_⟩
  refine Snd.bnd (t := ta) sa Ext.refl rl p fun ws e1 vs μ1 B1 H1 x1 _ r1 d1 p1 => ?_
  split at p1
  · obtain ⟨v, v', rfl, h, h'⟩ := pr2 d1
    cases (show Den X.K X.mg B1 v (.lst _) from h) with
    | lst h1 h2 =>
      cases (show Den X.K X.mg B1 v' (.lst _) from h') with
      | lst h3 h4 => exact ⟨_, _, _, _, rfl, .inl ⟨same_l r1.ex h1, same_l r1.ex h3, p1.ok x1 r1 (it_zip h1 h2 h3 h4)⟩⟩
  · obtain ⟨v, v', rfl, h, h'⟩ := pr2 d1
    cases (show Den X.K X.mg B1 v (.tup _) from h) with
    | tup h1 h2 =>
      cases (show Den X.K X.mg B1 v' (.tup _) from h') with
      | tup h3 h4 => exact ⟨_, _, _, _, rfl, .inr ⟨same_t r1.ex h1, same_t r1.ex h3, p1.ok x1 r1 (it_zipT h1 h2 h3 h4)⟩⟩
  · exact p1.elim

/-! ### targets -/
theorem Rel.setName {i : Nat} {x : V} {d : D} (r : Rel X.K X.mg X.N.length env μ B H σ) (hi : i < X.N.length) (h : Den X.K X.mg B x d) : Rel X.K X.mg X.N.length (env.set i (.val d)) (cutMu μ i) B H (σ.set i (some x)) := by
  have li : i < env.length := Nat.lt_of_lt_of_le hi r.le
  have ls : i < σ.length := by rw [r.len]; exact hi
  have r1 := (r.un hi).sig (o := some x) (List.getElem?_set_self li)
  have r2 := r1.val hi (List.getElem?_set_self li) (List.getElem?_set_self ls) h
  rw [List.set_set] at r2
  exact r2
def rdG (K : PySem.W.Frag) (mg : Str → Option Value) (N : Nat) (is : List Nat) (m : D → M Unit) : TG := fun x σ H Q => ∃ e μ B d e', Rel K mg N e μ B H σ ∧ Den K mg B x d ∧ m d e = .ok () e' ∧
    ∀ σ' μ', σ'.length = σ.length → (∀ j, j ∉ is → σ'[j]? = σ[j]?) → Ext N μ B H μ' B H → Rel K mg N e' μ' B H σ' → Q σ' H
/-- a target m sets the slots at `is` alone -/
structure SG (X : Cx) (tg : Expr) (is : List Nat) (m : D → M Unit) : Prop where
  nx : ∀ d e x e', m d e ≠ .exc x e'
  p : PG X tg (rdG X.K X.mg X.N.length is m)
theorem sg_name {i : Nat} {x : Str} {p0 : Pos} (hN : X.N.Nodup) (hi : X.N[i]? = some x := by rfl) (hx : Loc X.env.scope x := by first | exact Or.inl rfl | exact Or.inr rfl) (hf : X.fn x = true ∨ X.env.scope.names.lookup x = some .local := by first | exact .inl rfl | exact .inr rfl | assumption) : SG X (.Name x p0) [i] (gName i) where
  nx := fun d e x e' h => by cases h
  p := ⟨fun pins s σ H v u Q I r ⟨e, μ, B, d, e', rl, hd, q, k⟩ => (pg_name hN hi hx hf).run pins s σ H v u Q I r (by
    cases q
    have hi' := (List.getElem?_eq_some_iff.mp hi).1
    exact k _ _ (by rw [List.length_set]) (fun j hj => List.getElem?_set_ne (fun z => hj (by simp [z]))) (ext_cut hi') (rl.setName hi' hd))⟩
structure SGs (X : Cx) (tgs : List Expr) (is : List Nat) : Prop where
  p : PGs X tgs (fun xs σ H Q => ∃ e μ B ds e', Rel X.K X.mg X.N.length e μ B H σ ∧ DenAll X.K X.mg B xs ds ∧ gNames is ds e = .ok () e' ∧
    ∀ σ' μ', σ'.length = σ.length → (∀ j, j ∉ is → σ'[j]? = σ[j]?) → Ext X.N.length μ B H μ' B H → Rel X.K X.mg X.N.length e' μ' B H σ' → Q σ' H)
theorem sgs_nil : SGs X [] [] := ⟨⟨fun pins s σ H vs us Q I r ⟨e, μ, B, ds, e', rl, hd, q, k⟩ => pgs_nil.run pins s σ H vs us Q I r (by
  cases ds with
  | nil =>
    cases hd
    cases q
    exact ⟨rfl, k _ _ rfl (fun _ _ => rfl) Ext.refl rl⟩
  | cons d ds => cases q)⟩⟩
theorem sgs_cons {i : Nat} {is : List Nat} {x : Str} {p0 : Pos} {tgs : List Expr} (hN : X.N.Nodup) (hr : SGs X tgs is) (hi : X.N[i]? = some x := by rfl) (hx : Loc X.env.scope x := by first | exact Or.inl rfl | exact Or.inr rfl) (hf : X.fn x = true ∨ X.env.scope.names.lookup x = some .local := by first | exact .inl rfl | exact .inr rfl | assumption)
    (hs : (assignEach (.Name x p0 :: tgs) X.env).map (·.2) = assign (.Name x p0) X.env :: (assignEach tgs X.env).map (·.2) := by rfl) : SGs X (.Name x p0 :: tgs) (i :: is) := by
  refine ⟨⟨fun pins s σ H vs us Q I r ⟨env, μ, B, ds, e', rl, hd, q, k⟩ => ?_⟩⟩
  cases ds with
  | nil => cases q
  | cons d ds =>
    cases hd with
    | @cons v vs _ _ h1 h2 =>
      have hi' := (List.getElem?_eq_some_iff.mp hi).1
      refine (pgs_cons (pg_name hN hi hx hf) hr.p hs).run pins s σ H (v :: vs) us Q I r ⟨v, vs, rfl, env.set i (.val d), cutMu μ i, B, ds, e', rl.setName hi' h1, h2, q, fun σ' μ' h3 h4 h5 h6 => ?_⟩
      refine k σ' μ' (by rw [h3, List.length_set]) (fun j hj => ?_) ((ext_cut hi').trans h5) h6
      rw [h4 j (fun z => hj (List.mem_cons_of_mem _ z)), List.getElem?_set_ne (fun z => hj (by simp [z]))]
theorem sg_tup {tgs : List Expr} {is : List Nat} {k : Nat} {n : Nat} (hc : X.calm = true) (h : SGs X tgs is) (hl : is.length = n := by rfl) (hn : (assignEach tgs X.env).length = n := by rfl) (hst : (assignEach tgs X.env).findIdx? (·.1) = none := by rfl) : SG X (.Tuple tgs k pos) is (gTup is) where
  nx := fun d e x e' h => by
    have q : ∀ is ds e, gNames is ds e ≠ .exc x e' := fun is => by
      induction is with
      | nil => intro ds e z; cases ds <;> cases z
      | cons i is ih => intro ds e z; cases ds with
        | nil => cases z
        | cons d ds => exact ih ds _ z
    cases d <;> first | exact q _ _ _ h | cases h
  p := ⟨fun pins s σ H v u Q I r ⟨e, μ, B, d, e', rl, hd, q, kk⟩ => (pg_tup hc h.p hn hst).run pins s σ H v u Q I r (by
    have gl : ∀ is ds (e e' : Env), gNames is ds e = .ok () e' → ds.length = is.length := fun is => by
      induction is with
      | nil => intro ds e e' z; cases ds with
        | nil => rfl
        | cons d ds => cases z
      | cons i is ih => intro ds e e' z; cases ds with
        | nil => cases z
        | cons d ds => rw [List.length_cons, List.length_cons, ih ds _ _ z]
    cases d with
    | tup ds =>
      cases hd with
      | tup h1 h2 => exact ⟨_, _, rfl, same_t rl.ex h1, by rw [h2.length, gl _ _ _ _ q, hl], e, μ, B, ds, e', rl, h2, q, kk⟩
    | _ => cases q)⟩
end
end Py
end
section
set_option Elab.async false
set_option linter.all false
set_option maxRecDepth 100000
namespace Py
open PySem PySem.Spec PyProof.Rows L2
/-! ### comprehensions -/
theorem bnd_inv {α β : Type} {m : M α} {f : α → M β} {e e' : Env} {c : β} (h : bnd m f e = .ok c e') : ∃ a e1, m e = .ok a e1 ∧ f a e1 = .ok c e' := by
  unfold bnd at h
  cases q : m e with
  | ok a e1 => rw [q] at h; exact ⟨a, e1, rfl, h⟩
  | exc x e1 => rw [q] at h; cases h
  | fail => rw [q] at h; cases h
abbrev cutMus (μ : Mu) (vs : List Nat) : Mu := fun j => if j ∈ vs then none else μ j
theorem cutMus_cons (μ : Mu) (v : Nat) (vs : List Nat) : cutMu (cutMus μ vs) v = cutMus μ (v :: vs) := by
  funext j
  show (if j = v then none else if j ∈ vs then none else μ j) = if j ∈ v :: vs then none else μ j
  by_cases h : j = v
  · rw [if_pos h, if_pos (by rw [h]; exact List.mem_cons_self)]
  · rw [if_neg h]
    by_cases h2 : j ∈ vs
    · rw [if_pos h2, if_pos (List.mem_cons_of_mem _ h2)]
    · rw [if_neg h2, if_neg (by simp [h, h2])]
theorem cutMus_nil (μ : Mu) : cutMus μ [] = μ := by
  funext j
  show (if j ∈ [] then none else μ j) = μ j
  rw [if_neg (by simp)]
section
variable {K : PySem.W.Frag} {mg : Str → Option Value} {N : Nat} {μ : Mu} {B H : Hp} {σ : L2.St} {env : Env}
theorem Rel.wipe (r : Rel K mg N env μ B H σ) : ∀ vs : List Nat, (∀ v ∈ vs, v < N) → Rel K mg N (Py.wipe vs env) (cutMus μ vs) B H (L2.wipe σ vs)
  | [], _ => by rw [cutMus_nil]; exact r
  | v :: vs, h => by
    have hv := h v List.mem_cons_self
    have r1 := (Rel.wipe r vs fun w hw => h w (List.mem_cons_of_mem _ hw)).un hv
    rw [cutMus_cons] at r1
    have q : ((Py.wipe vs env).set v .un)[v]? = some .un := List.getElem?_set_self (Nat.lt_of_lt_of_le hv (by have := r1.le; rw [List.length_set] at this; exact this))
    exact r1.sig (o := none) q
theorem ext_cuts {vs : List Nat} (h : ∀ v ∈ vs, v < N) : Ext N μ B H (cutMus μ vs) B H where
  b := Same.refl B
  h := fun _ _ e _ => e
  m := fun j a e => by
    by_cases hj : j ∈ vs
    · simp only [cutMus, if_pos hj] at e; cases e
    · simp only [cutMus, if_neg hj] at e; exact .inl ⟨j, e⟩
  n := fun _ _ e => .inl e
  l := fun j hj => by simp only [cutMus, if_neg (fun z => absurd (h j z) (by omega))]
  t := fun _ o e => ⟨o, e⟩
theorem wipe_get : ∀ {vs : List Nat} {σ : L2.St} {j : Nat}, (L2.wipe σ vs)[j]? = if j ∈ vs then (if j < σ.length then some none else none) else σ[j]?
  | [], σ, j => by simp [L2.wipe]
  | v :: vs, σ, j => by
    show ((L2.wipe σ vs).set v none)[j]? = _
    by_cases h : v = j
    · subst h
      rw [if_pos List.mem_cons_self]
      by_cases hl : v < σ.length
      · rw [List.getElem?_set_self (by rw [wipe_length]; exact hl), if_pos hl]
      · rw [List.getElem?_eq_none (by rw [List.length_set, wipe_length]; omega), if_neg hl]
    · rw [List.getElem?_set_ne h, wipe_get]
      by_cases h2 : j ∈ vs
      · rw [if_pos h2, if_pos (List.mem_cons_of_mem _ h2)]
      · rw [if_neg h2, if_neg (by simp only [List.mem_cons, not_or]; exact ⟨fun z => h z.symm, h2⟩)]
theorem wipe_eq {vs : List Nat} {σ σ' : L2.St} (hl : σ'.length = σ.length) (h : ∀ j, j ∉ vs → σ'[j]? = σ[j]?) : L2.wipe σ' vs = L2.wipe σ vs := by
  apply List.ext_getElem?
  intro j
  rw [wipe_get, wipe_get, hl]
  by_cases hj : j ∈ vs
  · rw [if_pos hj, if_pos hj]
  · rw [if_neg hj, if_neg hj, h j hj]
theorem wipe_wipe {vs : List Nat} {σ : L2.St} : L2.wipe (L2.wipe σ vs) vs = L2.wipe σ vs := wipe_eq (wipe_length _ _) fun j hj => by rw [wipe_get, if_neg hj]
/-- what stands at L, no cell and no data, is written -/
theorem Rel.wr {L : Addr} {o : HO} (r : Rel K mg N env μ B H σ) (hB : B L = none) (nm : ∀ i, μ i ≠ some L) : Rel K mg N env μ B (L2.upd H L o) σ :=
  r.more (Same.refl B) (fun a u q => by rw [upd_ne (fun z => by rw [z, hB] at q; cases q)]; exact r.ex a u q) (fun _ _ _ q => q) fun i a u q z => by
    rw [upd_ne (fun y => nm i (by rw [← y]; exact q))]; exact z
theorem Ext.wr {μ0 : Mu} {B0 H0 : Hp} {L : Addr} {o : HO} (x : Ext N μ0 B0 H0 μ B H) (h0 : H0 L = none) : Ext N μ0 B0 H0 μ B (L2.upd H L o) where
  b := x.b
  h := fun a u q nm => by rw [upd_ne (ne_of_none q h0)]; exact x.h a u q nm
  m := x.m
  n := x.n
  l := x.l
  t := fun a u q => by rw [upd_ne (ne_of_none q h0)]; exact x.t a u q
/-- the slots of a comprehension's own names come back -/
theorem unwipe_get : ∀ {vs : List Nat} {e0 e : Env} {j : Nat}, e.length = e0.length → (unwipe vs e0 e)[j]? = if j ∈ vs then e0[j]? else e[j]?
  | [], e0, e, j, _ => by simp [unwipe]
  | v :: vs, e0, e, j, hl => by
    have ih := @unwipe_get vs e0 e j hl
    have il : (unwipe vs e0 e).length = e.length := by
      clear ih
      induction vs with
      | nil => rfl
      | cons w ws ih =>
        show (match e0[w]? with | some s => (unwipe ws e0 e).set w s | none => unwipe ws e0 e).length = _
        split
        · rw [List.length_set]; exact ih
        · exact ih
    show (match e0[v]? with | some s => (unwipe vs e0 e).set v s | none => unwipe vs e0 e)[j]? = _
    cases q : e0[v]? with
    | none =>
      by_cases h : j = v
      · subst h
        rw [if_pos List.mem_cons_self, q]
        have := List.getElem?_eq_none_iff.mp q
        exact List.getElem?_eq_none (by rw [il]; omega)
      · show (unwipe vs e0 e)[j]? = _
        rw [ih]
        by_cases h2 : j ∈ vs
        · rw [if_pos h2, if_pos (List.mem_cons_of_mem _ h2)]
        · rw [if_neg h2, if_neg (by simp [h, h2])]
    | some s =>
      show ((unwipe vs e0 e).set v s)[j]? = _
      by_cases h : v = j
      · subst h
        have := (List.getElem?_eq_some_iff.mp q).1
        rw [List.getElem?_set_self (by rw [il]; omega), if_pos List.mem_cons_self, q]
      · rw [List.getElem?_set_ne h, ih]
        by_cases h2 : j ∈ vs
        · rw [if_pos h2, if_pos (List.mem_cons_of_mem _ h2)]
        · rw [if_neg h2, if_neg (by simp only [List.mem_cons, not_or]; exact ⟨fun z => h z.symm, h2⟩)]
theorem unwipe_len {e0 e : Env} : ∀ vs : List Nat, (unwipe vs e0 e).length = e.length
  | [] => rfl
  | w :: ws => by
    show (match e0[w]? with | some s => (unwipe ws e0 e).set w s | none => unwipe ws e0 e).length = _
    split
    · rw [List.length_set]; exact unwipe_len ws
    · exact unwipe_len ws
theorem Rel.unwipe {vs : List Nat} {e' : Env} {μ' : Mu} {B' H' : Hp} (r : Rel K mg N env μ B H σ) (hv : ∀ v ∈ vs, v < N) (r' : Rel K mg N e' μ' B' H' (L2.wipe σ vs)) (x : Ext N (cutMus μ vs) B H μ' B' H') (hl : e'.length = env.length) :
    Rel K mg N (unwipe vs env e') (fun j => if j ∈ vs then μ j else μ' j) B' H' σ ∧ Ext N μ B H (fun j => if j ∈ vs then μ j else μ' j) B' H' := by
  have keep : ∀ j a, j ∈ vs → μ j = some a → ∀ o, H a = some o → H' a = some o ∧ (B a = none → B' a = none) := fun j a hj hm o ho => by
    have nm : ∀ i, cutMus μ vs i ≠ some a := fun i q => by
      by_cases hi : i ∈ vs
      · simp only [cutMus, if_pos hi] at q; cases q
      · simp only [cutMus, if_neg hi] at q
        have := r.inj i j a q hm
        exact hi (this ▸ hj)
    refine ⟨x.h a o ho nm, fun hB => ?_⟩
    cases q : B' a with
    | none => rfl
    | some u =>
      rcases x.n a u q with z | z | ⟨i, z⟩
      · rw [hB] at z; cases z
      · rw [ho] at z; cases z
      · exact absurd z (nm i)
  have there : ∀ j a, μ j = some a → ∃ o, H a = some o := fun j a hm => by
    by_cases hj : j < env.length
    · have c := r.cell j env[j] (List.getElem?_eq_getElem hj)
      cases hs : env[j] with
      | own c' => rw [hs] at c; obtain ⟨b, h1, _, h3⟩ := c; rw [hm] at h1; cases h1; exact h3.there
      | lent c' => rw [hs] at c; obtain ⟨b, h1, _, h3⟩ := c; rw [hm] at h1; cases h1; exact h3.there
      | un => rw [hs] at c; rw [show μ j = none from c] at hm; cases hm
      | val d => rw [hs] at c; rw [show μ j = none from c] at hm; cases hm
      | al h => rw [hs] at c; rw [show μ j = none from c] at hm; cases hm
    · rw [r.out j (by omega)] at hm; cases hm
  have sep : ∀ i j a, i ∈ vs → μ i = some a → j ∉ vs → μ' j = some a → False := fun i j a hi hm hj hm' => by
    obtain ⟨o, ho⟩ := there i a hm
    rcases x.m j a hm' with ⟨k, z⟩ | z
    · by_cases hk : k ∈ vs
      · simp only [cutMus, if_pos hk] at z; cases z
      · simp only [cutMus, if_neg hk] at z
        exact hk (r.inj k i a z hm ▸ hi)
    · rw [ho] at z; cases z
  have hidL : ∀ h, N ≤ h → h ∉ vs := fun h hh z => absurd (hv h z) (by omega)
  refine ⟨⟨r.len, by rw [unwipe_len, hl]; exact r.le, r'.ex, fun j s q => ?_, fun j hj => ?_, fun i j a h1 h2 => ?_, fun j s hj q => ?_, fun j s hj q => ?_, fun j h q => ?_⟩, x.b, fun a o ho nm => ?_, fun i a q => ?_, fun a o q => ?_, fun j hj => ?_, x.t⟩
  · rw [unwipe_get hl] at q
    by_cases hj : j ∈ vs
    · rw [if_pos hj] at q
      have c := r.cell j s q
      cases s with
      | own c' =>
        obtain ⟨a, h1, h2, h3⟩ := c
        obtain ⟨o, ho⟩ := there j a h1
        obtain ⟨k1, k2⟩ := keep j a hj h1 o ho
        exact ⟨a, by show (if j ∈ vs then μ j else μ' j) = some a; rw [if_pos hj]; exact h1, k2 h2, h3.mono x.b fun o' z => (keep j a hj h1 o' z).1⟩
      | lent c' =>
        obtain ⟨a, h1, h2, h3⟩ := c
        obtain ⟨o, ho⟩ := there j a h1
        obtain ⟨k1, k2⟩ := keep j a hj h1 o ho
        exact ⟨a, by show (if j ∈ vs then μ j else μ' j) = some a; rw [if_pos hj]; exact h1, k2 h2, h3.mono x.b fun o' z => (keep j a hj h1 o' z).1⟩
      | un => show (if j ∈ vs then μ j else μ' j) = none; rw [if_pos hj]; exact c
      | val d => show (if j ∈ vs then μ j else μ' j) = none; rw [if_pos hj]; exact c
      | al h => show (if j ∈ vs then μ j else μ' j) = none; rw [if_pos hj]; exact c
    · rw [if_neg hj] at q
      have c := r'.cell j s q
      cases s with
      | own c' =>
        obtain ⟨a, h1, h2, h3⟩ := c
        exact ⟨a, by show (if j ∈ vs then μ j else μ' j) = some a; rw [if_neg hj]; exact h1, h2, h3⟩
      | lent c' =>
        obtain ⟨a, h1, h2, h3⟩ := c
        exact ⟨a, by show (if j ∈ vs then μ j else μ' j) = some a; rw [if_neg hj]; exact h1, h2, h3⟩
      | un => show (if j ∈ vs then μ j else μ' j) = none; rw [if_neg hj]; exact c
      | val d => show (if j ∈ vs then μ j else μ' j) = none; rw [if_neg hj]; exact c
      | al h => show (if j ∈ vs then μ j else μ' j) = none; rw [if_neg hj]; exact c
  · rw [unwipe_len] at hj
    show (if j ∈ vs then μ j else μ' j) = none
    by_cases h : j ∈ vs
    · rw [if_pos h]; exact r.out j (by omega)
    · rw [if_neg h]; exact r'.out j hj
  · by_cases hi : i ∈ vs
    · simp only [if_pos hi] at h1
      by_cases hj : j ∈ vs
      · simp only [if_pos hj] at h2; exact r.inj i j a h1 h2
      · simp only [if_neg hj] at h2; exact (sep i j a hi h1 hj h2).elim
    · simp only [if_neg hi] at h1
      by_cases hj : j ∈ vs
      · simp only [if_pos hj] at h2; exact (sep j i a hj h2 hi h1).elim
      · simp only [if_neg hj] at h2; exact r'.inj i j a h1 h2
  · rw [unwipe_get hl] at q
    by_cases hjv : j ∈ vs
    · rw [if_pos hjv] at q
      have c := r.name j s hj q
      cases s with
      | un => trivial
      | val d => obtain ⟨v, h1, h2⟩ := c; exact ⟨v, h1, h2.mono x.b⟩
      | own c' =>
        obtain ⟨a, h1, h2⟩ := c
        exact ⟨a, by show (if j ∈ vs then μ j else μ' j) = some a; rw [if_pos hjv]; exact h1, h2⟩
      | al h =>
        obtain ⟨a, h1, h2⟩ := c
        have hn := hidL h (r.al j h q).1
        refine ⟨a, ?_, h2⟩
        show (if h ∈ vs then μ h else μ' h) = some a
        rw [if_neg hn, x.l h (r.al j h q).1]
        simp only [cutMus, if_neg hn]
        exact h1
      | lent c' => exact c
    · rw [if_neg hjv] at q
      have c := r'.name j s hj q
      rw [wipe_get, if_neg hjv] at c
      cases s with
      | un => trivial
      | val d => exact c
      | own c' =>
        obtain ⟨a, h1, h2⟩ := c
        exact ⟨a, by show (if j ∈ vs then μ j else μ' j) = some a; rw [if_neg hjv]; exact h1, h2⟩
      | al h =>
        obtain ⟨a, h1, h2⟩ := c
        have hn := hidL h (r'.al j h q).1
        exact ⟨a, by show (if h ∈ vs then μ h else μ' h) = some a; rw [if_neg hn]; exact h1, h2⟩
      | lent c' => exact c
  · rw [unwipe_get hl, if_neg (hidL j hj)] at q
    exact r'.hid j s hj q
  · rw [unwipe_get hl] at q
    rw [unwipe_len, hl]
    by_cases hj : j ∈ vs
    · rw [if_pos hj] at q; exact r.al j h q
    · rw [if_neg hj] at q; have := r'.al j h q; rw [hl] at this; exact this
  · exact x.h a o ho fun i q => by
      by_cases hi : i ∈ vs
      · simp only [cutMus, if_pos hi] at q; cases q
      · simp only [cutMus, if_neg hi] at q; exact nm i q
  · by_cases hi : i ∈ vs
    · simp only [if_pos hi] at q; exact .inl ⟨i, q⟩
    · simp only [if_neg hi] at q
      rcases x.m i a q with ⟨j, z⟩ | z
      · by_cases hj : j ∈ vs
        · simp only [cutMus, if_pos hj] at z; cases z
        · simp only [cutMus, if_neg hj] at z; exact .inl ⟨j, z⟩
      · exact .inr z
  · rcases x.n a o q with z | z | ⟨j, z⟩
    · exact .inl z
    · exact .inr (.inl z)
    · by_cases hj : j ∈ vs
      · simp only [cutMus, if_pos hj] at z; cases z
      · simp only [cutMus, if_neg hj] at z; exact .inr (.inr ⟨j, z⟩)
  · show (if j ∈ vs then μ j else μ' j) = μ j
    rw [if_neg (hidL j hj), x.l j hj]
    simp only [cutMus, if_neg (hidL j hj)]
end
end Py
end
section
set_option Elab.async false
set_option linter.all false
set_option maxRecDepth 100000
namespace Py
open PySem PySem.Spec PyProof.Rows L2
theorem Rel.len_eq {K : PySem.W.Frag} {mg : Str → Option Value} {N : Nat} {μ μ' : Mu} {B H B' H' : Hp} {σ σ' : L2.St} {e e' : Env} (r : Rel K mg N e μ B H σ) (r' : Rel K mg N e' μ' B' H' σ') (h : ∀ i, N ≤ i → μ' i = μ i) : e'.length = e.length := by
  have some_of : ∀ {e : Env} {μ : Mu} {B H : Hp} {σ : L2.St}, Rel K mg N e μ B H σ → ∀ i, N ≤ i → i < e.length → μ i ≠ none := fun {e μ B H σ} r i h1 h2 q => by
    have g := List.getElem?_eq_getElem h2
    obtain ⟨c, hc⟩ := r.hid i _ h1 g
    have cc := r.cell i _ g
    rw [hc] at cc
    obtain ⟨a, h3, _⟩ := cc
    rw [q] at h3; cases h3
  rcases Nat.lt_trichotomy e'.length e.length with z | z | z
  · have h1 := some_of r e'.length r'.le z
    rw [← h _ r'.le, r'.out _ (Nat.le_refl _)] at h1
    exact absurd rfl h1
  · exact z
  · have h1 := some_of r' e.length r.le z
    rw [h _ r.le, r.out _ (Nat.le_refl _)] at h1
    exact absurd rfl h1
theorem wipe_len {e : Env} : ∀ vs : List Nat, (Py.wipe vs e).length = e.length
  | [] => rfl
  | v :: vs => by
    show ((Py.wipe vs e).set v .un).length = _
    rw [List.length_set]
    exact wipe_len vs
abbrev W0 : WX := fun _ _ _ _ => False
section
variable {X : Cx} {Wx : WX} {e a b c tg elt iter : Expr} {es : List Expr} {ma mb mc : M W} {pos : Pos} {μ : Mu} {B H : Hp} {σ : L2.St} {env : Env}
theorem post_true {K : PySem.W.Frag} {mg : Str → Option Value} {N : Nat} {α : Type} {a : α} {e : Env} : Post K mg N W0 (fun (_ : Hp) (_ : Mu) (_ _ : Hp) (_ : L2.St) (_ : Unit) (_ : α) => True) μ B H σ (fun _ _ => True) (.ok a e) := fun _ _ _ _ _ _ _ => trivial
/-- one turn's item -/
theorem Yl.step {μ0 : Mu} {B0 H0 : Hp} {x : V} {H' : Hp} {d : D} (y : Yl X.K X.mg B H x H' d) (x0 : Ext X.N.length μ0 B0 H0 μ B H) (r : Rel X.K X.mg X.N.length env μ B H σ) :
    ∃ B', Ext X.N.length μ0 B0 H0 μ B' H' ∧ Rel X.K X.mg X.N.length env μ B' H' σ ∧ Den X.K X.mg B' x d ∧ (∀ p u, H p = some u → H' p = some u) ∧ (∀ p, H p ≠ none → B p = none → B' p = none) ∧ Ext X.N.length μ B H μ B' H' := by
  rcases y with ⟨rfl, h⟩ | ⟨q, o, h1, rfl, h2⟩
  · exact ⟨B, x0, r, h, fun _ _ e => e, fun _ _ e => e, Ext.refl⟩
  · have x1 : Ext X.N.length μ B H μ B (L2.upd H q o) := ext_new h1
    have x2 := ext_add (o := o) (r.base h1) h1 x1
    exact ⟨_, x0.trans x2, (r.new h1).add (r.base h1) upd_same (r.nomu h1), h2, fun p u e => by rw [upd_ne (ne_of_none e h1)]; exact e, fun p hp hb => by rw [upd_ne (fun z => hp (by rw [z]; exact h1))]; exact hb, x2⟩
structure CW (X : Cx) (vs : List Nat) (σ : L2.St) (μ1 : Mu) (B1 H1 : Hp) (L : Addr) (g : D → M Unit) (t : M Bool) (b : M W) (ds : List D) (res : List D) (e' : Env) (i m : Nat) (H : Hp) : Prop where
  ex : ∃ e μ B xs acc, Rel X.K X.mg X.N.length e μ B H (L2.wipe σ vs) ∧ Ext X.N.length (cutMus μ1 vs) B1 H1 μ B H ∧ H L = some (.lst xs) ∧ DenAll X.K X.mg B xs acc ∧ B L = none ∧ (∀ j, μ j ≠ some L) ∧ acc.length ≤ i ∧
    compL g t b vs (ds.drop i) acc e = .ok res e'
  le : i ≤ ds.length
  m : m = ds.length - i
theorem snd_comp {wi : TI} {mi : M (List D)} {mg' : D → M Unit} {mt : M Bool} {vs is : List Nat} (hv : ∀ v ∈ vs, v < X.N.length) (his : ∀ i ∈ is, i ∈ vs) (si : SndX X Wx (dI X) wi mi) (nx : ∀ d e x e', mg' d e ≠ .exc x e') :
    SndX X Wx (dW X) (tLc wi (rdG X.K X.mg X.N.length is mg') (rdX X W0 dB mt) (rdX X W0 (dW X) mb) vs) (eComp mi mg' mt mb vs) := by
  intro e μ B H σ Q rl p
  refine Snd.bnd (t := wi) si Ext.refl rl p fun ds e1 J μ1 B1 H1 x1 _ r1 d1 p1 => ?_
  intro L hL
  by_cases hlim : ds.length < lim
  · simp only [if_pos hlim] at p1
    cases q0 : compL mg' mt mb vs ds [] (Py.wipe vs e1) with
    | exc x e' => rw [q0] at p1; exact p1.elim
    | fail => rw [q0] at p1; exact p1.elim
    | ok res e' =>
      rw [q0] at p1
      simp only at p1
      have hB1 : B1 L = none := r1.base hL
      have nm1 := r1.nomu hL
      refine ⟨fun i m H => CW X vs σ μ1 B1 H1 L mg' mt mb ds res e' i m H, ⟨ds.length, ⟨⟨Py.wipe vs e1, cutMus μ1 vs, B1, [], [], ?_, ?_, upd_same, .nil, hB1, ?_, Nat.zero_le _, q0⟩, Nat.zero_le _, (Nat.sub_zero _).symm⟩⟩, ?_⟩
      · exact (r1.wipe vs hv).wr hB1 fun i q => by
          by_cases hi : i ∈ vs
          · simp only [cutMus, if_pos hi] at q; cases q
          · simp only [cutMus, if_neg hi] at q; exact nm1 i q
      · exact (Ext.refl (N := X.N.length)).wr hL
      · intro i q
        by_cases hi : i ∈ vs
        · simp only [cutMus, if_pos hi] at q; cases q
        · simp only [cutMus, if_neg hi] at q; exact nm1 i q
      · rintro i m H2 ⟨⟨e2, μ2, B2, xs, acc, r2, x2, h1, h2, h3, h4, h5, q2⟩, hle, rfl⟩
        by_cases hi : i < ds.length
        · -- a turn
          have hd : ds[i]? = some ds[i] := List.getElem?_eq_getElem hi
          rw [List.drop_eq_getElem_cons hi] at q2
          refine .inr ⟨d1.go B2 H2 x2.b r2.ex i _ hd, fun H' => CW X vs σ μ1 B1 H1 L mg' mt mb ds res e' (i + 1) (ds.length - (i + 1)) H', fun H' z => ⟨ds.length - (i + 1), by omega, z⟩, fun x H' y => ?_⟩
          obtain ⟨B3, x3, r3, d3, k3, k3', z3⟩ := (d1.yld B2 H2 x2.b r2.ex i _ hd x H' y).step x2 r2
          obtain ⟨u1, e4, q4, q2⟩ := bnd_inv q2
          refine ⟨e2, μ2, B3, ds[i], e4, r3, d3, q4, fun σ5 μ5 l5 s5 y5 r5 => ?_⟩
          have w5 : L2.wipe σ5 vs = L2.wipe σ vs := (wipe_eq l5 fun j hj => s5 j fun z => hj (his j z)).trans wipe_wipe
          have x5 := x3.trans y5
          have L5 : H' L = some (.lst xs) := k3 L _ h1
          have b5 : B3 L = none := k3' L (by rw [h1]; exact fun z => nomatch z) h3
          have m5 : ∀ j, μ5 j ≠ some L := fun j z => by
            rcases y5.m j L z with ⟨k, q⟩ | q
            · exact h4 k q
            · rw [L5] at q; cases q
          refine ⟨w5, ?_⟩
          obtain ⟨tb, e6, q6, q2⟩ := bnd_inv q2
          refine ⟨e4, μ5, B3, r5, ?_⟩
          rw [q6]
          intro vb μ6 B6 H6 x6 r6 d6
          cases (show vb = tb from d6)
          have stay : ∀ {μ7 : Mu} {B7 H7 : Hp}, Ext X.N.length μ5 B3 H' μ7 B7 H7 → H7 L = some (.lst xs) ∧ B7 L = none ∧ ∀ j, μ7 j ≠ some L := fun {μ7 B7 H7} x7 => by
            refine ⟨x7.h L _ L5 m5, ?_, fun j z => ?_⟩
            · cases q : B7 L with
              | none => rfl
              | some u =>
                rcases x7.n L u q with z | z | ⟨j, z⟩
                · rw [b5] at z; cases z
                · rw [L5] at z; cases z
                · exact absurd z (m5 j)
            · rcases x7.m j L z with ⟨k, q⟩ | q
              · exact m5 k q
              · rw [L5] at q; cases q
          cases tb with
          | false =>
            rw [if_neg Bool.false_ne_true]
            obtain ⟨s1, s2, s3⟩ := stay x6
            have r7 := r6.wipe vs hv
            rw [w5] at r7
            refine ⟨⟨Py.wipe vs e6, cutMus μ6 vs, B6, xs, acc, r7, (x5.trans x6).trans (ext_cuts hv), s1, (h2.mono z3.b).mono x6.b, s2, fun j z => ?_, by omega, q2⟩, by omega, rfl⟩
            by_cases hj : j ∈ vs
            · simp only [cutMus, if_pos hj] at z; cases z
            · simp only [cutMus, if_neg hj] at z; exact s3 j z
          | true =>
            rw [if_pos rfl]
            simp only [if_true] at q2
            obtain ⟨wb, e8, q8, q2⟩ := bnd_inv q2
            obtain ⟨zb, e9, q9, q2⟩ := bnd_inv q2
            refine ⟨e6, μ6, B6, r6, ?_⟩
            rw [q8]
            intro v8 μ8 B8 H8 x8 r8 d8
            have hp8 : Post X.K X.mg X.N.length W0 (fun (_ : Hp) (_ : Mu) (_ _ : Hp) (_ : L2.St) (_ : Unit) (_ : D) => True) μ6 B6 H6 σ5 (fun _ _ => True) (bnd (frz wb) ret e8) := by
              unfold bnd
              rw [q9]
              exact post_true
            refine frz_ok x8 r8 d8 hp8 fun t9 e9' μ9 B9 x9 r9 d9 m9 _ q9' => ?_
            rw [q9] at q9'
            cases q9'
            obtain ⟨s1, s2, s3⟩ := stay (x6.trans x9)
            refine ⟨xs, s1, by rw [h2.length]; exact lim_lt (by omega), ?_⟩
            have r10 := r9.wipe vs hv
            rw [w5] at r10
            have nm10 : ∀ j, cutMus μ9 vs j ≠ some L := fun j z => by
              by_cases hj : j ∈ vs
              · simp only [cutMus, if_pos hj] at z; cases z
              · simp only [cutMus, if_neg hj] at z; exact s3 j z
            refine ⟨⟨Py.wipe vs e9, cutMus μ9 vs, B9, xs ++ [v8], acc ++ [zb], r10.wr s2 nm10, (((x5.trans x6).trans x9).trans (ext_cuts hv)).wr hL, upd_same, ?_, s2, nm10, by rw [List.length_append, List.length_singleton]; omega, q2⟩, by omega, rfl⟩
            exact (((h2.mono z3.b).mono (x6.trans x9).b)).append (.cons d9 .nil)
        · -- the end
          have e : i = ds.length := by omega
          subst e
          rw [List.drop_length] at q2
          cases q2
          refine .inl ⟨d1.stop B2 H2 x2.b r2.ex _ (Nat.le_refl _), ?_⟩
          have hl : e'.length = e1.length := by
            have hw := r1.wipe vs hv
            have h := hw.len_eq r2 x2.l
            rw [h]
            exact wipe_len vs
          obtain ⟨r11, x11⟩ := r1.unwipe hv r2 x2 hl
          refine p1.ok (x1.trans x11) r11 ⟨L, rfl, none_back x1.t hL, h3, fun j z => ?_, xs, h1, h2⟩
          by_cases hj : j ∈ vs
          · simp only [if_pos hj] at z; exact nm1 j z
          · simp only [if_neg hj] at z; exact h4 j z
  · simp only [if_neg hlim] at p1
    exact p1.elim
end
end Py
namespace Py
open PySem PySem.Spec PyProof.Rows L2
section
variable {X : Cx} {Wx : WX} {e a b c tg elt iter : Expr} {es : List Expr} {ma mb mc : M W} {pos : Pos}
theorem sts_nil : STs X Wx [] tYes := .of ⟨_, pts_nil, fun e μ B H σ Q rl p => p.ok Ext.refl rl rfl⟩
theorem sts_one {m : M Bool} (h : ST X Wx a m) : STs X Wx [a] m := ⟨pts_one h.p⟩
theorem se_comp {ifs : List Expr} {scope : Scope} {own : List (Str × Nat)} {mi : M (List D)} {mg' : D → M Unit} {mt : M Bool} {is : List Nat} (hc : X.calm = true) (hN : X.N.Nodup) (hi : SI X Wx tg iter mi) (ok : blkC X.N X.env.scope scope own = true)
    (his : ∀ i ∈ is, i ∈ own.map (·.2))
    (hg : ∀ (s : Shared) (H : Hp) (C : Addr) (cl : List (Str × Addr)) (fp : List Addr), SG (X.blk s H scope (compEnvC scope cl C X.env) fp) tg is mg') (ht : ∀ (s : Shared) (H : Hp) (C : Addr) (cl : List (Str × Addr)) (fp : List Addr), STs (X.blk s H scope (compEnvC scope cl C X.env) fp) W0 ifs mt)
    (he : ∀ (s : Shared) (H : Hp) (C : Addr) (cl : List (Str × Addr)) (fp : List Addr), SE (X.blk s H scope (compEnvC scope cl C X.env) fp) W0 elt mb) (hs : ∀ x, foldedSetIterable iter X.env x = pure x := by intro _; rfl) :
    SE X Wx (.ListComp elt [⟨tg, iter, ifs, 0⟩] scope pos) (eComp mi mg' mt mb (own.map (·.2))) := by
  have ok' := blkOk_by ok
  obtain ⟨wi, pi, si⟩ := hi.ex
  have hv : ∀ v ∈ own.map (·.2), v < X.N.length := fun v hv => by
    obtain ⟨p, hp, rfl⟩ := List.mem_map.mp hv
    exact (List.getElem?_eq_some_iff.mp (ok'.ix p hp)).1
  have sh : Shared := {}
  exact .of ⟨_, pe_lc hc hN pi ok' (fun s H C cl fp => (hg s H C cl fp).p) (fun s H C cl fp => (ht s H C cl fp).p) (fun s H C cl fp => (he s H C cl fp).p) hs, snd_comp hv his si (hg sh (fun _ => none) 0 [] []).nx⟩
end
end Py
end
section
set_option Elab.async false
set_option linter.all false
set_option maxRecDepth 100000
namespace Py
open PySem PySem.Spec PyProof.Rows L2
/-! ### statements -/
section
variable (K : PySem.W.Frag) (mg : Str → Option Value) (N : Nat) (Wx : WX)
def PostS (μ : Mu) (B H : Hp) (D : Ends) : R Ctl → Prop
  | .ok .next e' => ∀ σ' μ' B' H', Ext N μ B H μ' B' H' → Rel K mg N e' μ' B' H' σ' → D.nx σ' H'
  | .ok .brk e' => ∀ σ' μ' B' H', Ext N μ B H μ' B' H' → Rel K mg N e' μ' B' H' σ' → D.bk σ' H'
  | .ok .cont e' => ∀ σ' μ' B' H', Ext N μ B H μ' B' H' → Rel K mg N e' μ' B' H' σ' → D.ct σ' H'
  | .ok (.ret w) e' => ∀ v σ' μ' B' H', Ext N μ B H μ' B' H' → Rel K mg N e' μ' B' H' σ' → DenW K mg N H μ' B' H' σ' v w → D.rt v H'
  | .exc x e' => ∀ cls d σ' μ' B' H', Ext N μ B H μ' B' H' → Rel K mg N e' μ' B' H' σ' → DenX K mg H B' H' cls d x → Wx cls d σ' H'
  | .fail => False
def SndS (ts : TS) (m : M Ctl) : Prop := ∀ e μ B H σ D, Rel K mg N e μ B H σ → PostS K mg N Wx μ B H D (m e) → ts D σ H
def rdS (m : M Ctl) : TS := fun D σ H => ∃ e μ B, Rel K mg N e μ B H σ ∧ PostS K mg N Wx μ B H D (m e)
end
section
variable {K : PySem.W.Frag} {mg : Str → Option Value} {N : Nat} {Wx : WX} {μ μ1 : Mu} {B H B1 H1 : Hp} {σ : L2.St} {D : Ends}
theorem snd_rdS {m : M Ctl} : SndS K mg N Wx (rdS K mg N Wx m) m := fun e μ B H σ D r p => ⟨e, μ, B, r, p⟩
theorem PostS.go {r : R Ctl} (x : Ext N μ B H μ1 B1 H1) (h : PostS K mg N Wx μ B H D r) : PostS K mg N Wx μ1 B1 H1 D r := by
  cases r with
  | ok c e => cases c with
    | next => exact fun σ' μ' B' H' y => h σ' μ' B' H' (x.trans y)
    | brk => exact fun σ' μ' B' H' y => h σ' μ' B' H' (x.trans y)
    | cont => exact fun σ' μ' B' H' y => h σ' μ' B' H' (x.trans y)
    | ret w => exact fun v σ' μ' B' H' y r d => h v σ' μ' B' H' (x.trans y) r (d.back x.t)
  | exc z e => exact fun c d σ' μ' B' H' y r dx => h c d σ' μ' B' H' (x.trans y) r (dx.back x.t)
  | fail => exact h
/-- an expression within a statement -/
theorem Snd.bndS {α β : Type} {dn : Dn β α} {t : L2.St → Hp → (β → Hp → Prop) → Prop} {m : M α} {f : α → M Ctl} {e : Env} {R' : β → Hp → Prop} {μ0 : Mu} {B0 H0 : Hp} (ht : Snd K mg N Wx dn t m) (x0 : Ext N μ0 B0 H0 μ B H) (hR : Rel K mg N e μ B H σ)
    (hp : PostS K mg N Wx μ0 B0 H0 D (Py.bnd m f e))
    (k : ∀ a e1 x μ1 B1 H1, Ext N μ0 B0 H0 μ1 B1 H1 → Ext N μ B H μ1 B1 H1 → Rel K mg N e1 μ1 B1 H1 σ → dn H μ1 B1 H1 σ x a → PostS K mg N Wx μ0 B0 H0 D (f a e1) → m e = .ok a e1 → R' x H1) : t σ H R' := by
  refine ht e μ B H σ R' hR ?_
  unfold Py.bnd at hp
  cases q : m e with
  | ok a e1 =>
    rw [q] at hp
    exact fun v μ' B' H' x r d => k a e1 v μ' B' H' (x0.trans x) x r d hp q
  | exc z e1 =>
    rw [q] at hp
    exact fun c d μ' B' H' y r dx => hp c d σ μ' B' H' (x0.trans y) r (dx.back x0.t)
  | fail =>
    rw [q] at hp
    exact hp
end
section
variable (X : Cx) (Wx : WX)
structure SS (st : Stmt) (m : M Ctl) : Prop where
  p : PS X st (rdS X.K X.mg X.N.length Wx m)
structure SSs (sts : List Stmt) (m : M Ctl) : Prop where
  p : PSs X sts (rdS X.K X.mg X.N.length Wx m)
end
section
variable {X : Cx} {Wx : WX} {e a b c tg iter : Expr} {es : List Expr} {ma mb mc mv : M W} {pos : Pos} {μ : Mu} {B H : Hp} {σ : L2.St} {env : Env} {De : Ends}
abbrev SndSX (X : Cx) (Wx : WX) (ts : TS) (m : M Ctl) : Prop := SndS X.K X.mg X.N.length Wx ts m
theorem SS.of {st : Stmt} {m : M Ctl} (h : ∃ ts, PS X st ts ∧ SndSX X Wx ts m) : SS X Wx st m :=
  let ⟨ts, p, s⟩ := h; ⟨⟨fun pins st σ H De I ⟨e, μ, B, r, q⟩ => p.run pins st σ H De I (s e μ B H σ De r q)⟩⟩
theorem SSs.of {st : List Stmt} {m : M Ctl} (h : ∃ ts, PSs X st ts ∧ SndSX X Wx ts m) : SSs X Wx st m :=
  let ⟨ts, p, s⟩ := h; ⟨⟨fun pins st σ H De I ⟨e, μ, B, r, q⟩ => p.run pins st σ H De I (s e μ B H σ De r q)⟩⟩
theorem SS.ex {st : Stmt} {m : M Ctl} (h : SS X Wx st m) : ∃ ts, PS X st ts ∧ SndSX X Wx ts m := ⟨_, h.p, snd_rdS⟩
theorem SSs.ex {st : List Stmt} {m : M Ctl} (h : SSs X Wx st m) : ∃ ts, PSs X st ts ∧ SndSX X Wx ts m := ⟨_, h.p, snd_rdS⟩
/-- a state's data: frz as a statement's part -/
theorem frz_okS {μ0 : Mu} {B0 H0 : Hp} {v : V} {w : W} {f : D → M Ctl} {G : Prop} (x0 : Ext X.N.length μ0 B0 H0 μ B H) (rl : Rel X.K X.mg X.N.length env μ B H σ) (d : DenW X.K X.mg X.N.length H0 μ B H σ v w)
    (hp : PostS X.K X.mg X.N.length Wx μ0 B0 H0 De (bnd (frz w) f env))
    (k : ∀ t env' μ' B', Ext X.N.length μ0 B0 H0 μ' B' H → Rel X.K X.mg X.N.length env' μ' B' H σ → Den X.K X.mg B' v t → Same B B' → PostS X.K X.mg X.N.length Wx μ0 B0 H0 De (f t env') → frz w env = .ok t env' → G) : G := by
  have hp' := hp
  unfold bnd at hp'
  cases q : frz w env with
  | ok t e' =>
    rw [q] at hp'
    have hq : Post X.K X.mg X.N.length W0 (fun (_ : Hp) (_ : Mu) (_ _ : Hp) (_ : L2.St) (_ : Unit) (_ : D) => True) μ0 B0 H0 σ (fun _ _ => True) (bnd (frz w) ret env) := by
      unfold bnd
      rw [q]
      exact post_true
    refine frz_ok x0 rl d hq fun t2 e2 μ2 B2 x2 r2 d2 m2 _ q2 => ?_
    rw [q] at q2
    cases q2
    exact k t e' μ2 B2 x2 r2 d2 m2 hp' q
  | exc x e' =>
    cases w <;> simp only [frz] at q <;> try cases q
    split at q <;> cases q
  | fail => rw [q] at hp'; exact hp'.elim

/-! ### blocks, small statements -/
theorem sss_nil : SSs X Wx [] sNext := .of ⟨_, pss_nil, fun e μ B H σ De rl p => p σ μ B H Ext.refl rl⟩
theorem sss_cons {st : Stmt} {rest : List Stmt} {m1 m2 : M Ctl} (h1 : SS X Wx st m1) (h2 : SSs X Wx rest m2) : SSs X Wx (st :: rest) (sSeq m1 m2) := by
  obtain ⟨t1, p1, s1⟩ := h1.ex
  obtain ⟨t2, p2, s2⟩ := h2.ex
  refine .of ⟨_, pss_cons p1 p2, fun e μ B H σ De rl p => ?_⟩
  refine s1 e μ B H σ _ rl ?_
  unfold sSeq bnd at p
  cases q : m1 e with
  | fail => rw [q] at p; exact p
  | exc x e1 => rw [q] at p; exact p
  | ok c e1 =>
    rw [q] at p
    cases c with
    | next => exact fun σ' μ' B' H' x r => s2 e1 μ' B' H' σ' De r (PostS.go x p)
    | brk => exact p
    | cont => exact p
    | ret w => exact p
theorem sss_one {st : Stmt} {m : M Ctl} (h : SS X Wx st m) : SSs X Wx [st] m := ⟨pss_one h.p⟩
theorem ss_pass : SS X Wx (.Pass pos) sNext := .of ⟨_, ps_pass, fun e μ B H σ De rl p => p σ μ B H Ext.refl rl⟩
theorem ss_break : SS X Wx (.Break pos) sBrk := .of ⟨_, ps_break, fun e μ B H σ De rl p => p σ μ B H Ext.refl rl⟩
theorem ss_cont : SS X Wx (.Continue pos) sCont := .of ⟨_, ps_continue, fun e μ B H σ De rl p => p σ μ B H Ext.refl rl⟩
theorem ss_doc {x : Str} {j : Nat} {p2 : Pos} : SS X Wx (.Expr (.Constant (.str x) j pos) p2) sNext := .of ⟨_, ps_doc, fun e μ B H σ De rl p => p σ μ B H Ext.refl rl⟩
/-- what is never come to -/
theorem ss_never {st : Stmt} : SS X Wx st (fun _ => .fail) := .of ⟨_, ps_never, fun e μ B H σ De rl p => p⟩
theorem ss_ret (ha : SE X Wx a ma) : SS X Wx (.Return (some a) pos) (sRet ma) := by
  obtain ⟨ta, pa, sa⟩ := ha.ex
  refine .of ⟨_, ps_ret pa, fun e μ B H σ De rl p => ?_⟩
  refine Snd.bndS (R' := De.rt) sa Ext.refl rl p fun wa e1 x μ1 B1 H1 x1 _ r1 d1 p1 _ => ?_
  exact p1 x σ μ1 B1 H1 x1 r1 d1
theorem ss_retN : SS X Wx (.Return none pos) sRetN := .of ⟨_, ps_retN, fun e μ B H σ De rl p => p .non σ μ B H Ext.refl rl .non⟩
theorem ss_drop (ha : SE X Wx a ma) (hs : swapsWith a none pos.line X.env = pure false := by rfl) : SS X Wx (.Expr a pos) (sDrop ma) := by
  obtain ⟨ta, pa, sa⟩ := ha.ex
  refine .of ⟨_, ps_expr pa hs, fun e μ B H σ De rl p => ?_⟩
  refine Snd.bndS (R' := fun _ H1 => De.nx σ H1) sa Ext.refl rl p fun wa e1 x μ1 B1 H1 x1 _ r1 d1 p1 _ => ?_
  exact p1 σ μ1 B1 H1 x1 r1
theorem ss_if {t : Expr} {sa sb : List Stmt} {mt : M Bool} {m1 m2 : M Ctl} (ht : ST X Wx t mt) (h1 : SSs X Wx sa m1) (h2 : SSs X Wx sb m2) : SS X Wx (.If t sa sb pos) (sIf mt m1 m2) := by
  obtain ⟨tt, pt, st⟩ := ht.ex
  obtain ⟨t1, p1, s1⟩ := h1.ex
  obtain ⟨t2, p2, s2⟩ := h2.ex
  refine .of ⟨_, ps_if pt p1 p2, fun e μ B H σ De rl p => ?_⟩
  refine Snd.bndS (t := tt) (R' := fun b H1 => if b = true then t1 De σ H1 else t2 De σ H1) st Ext.refl rl p fun x e1 x' μ1 B1 H1 x1 _ r1 d1 p1 _ => ?_
  cases (show x' = x from d1)
  cases x with
  | true => rw [if_pos rfl]; exact s1 e1 μ1 B1 H1 σ De r1 (PostS.go x1 p1)
  | false => rw [if_neg Bool.false_ne_true]; exact s2 e1 μ1 B1 H1 σ De r1 (PostS.go x1 p1)

/-! ### names are stored -/
theorem put_ok {i : Nat} {v : V} {w : W} {μ0 : Mu} {B0 H0 : Hp} (hi : i < X.N.length) (x0 : Ext X.N.length μ0 B0 H0 μ B H) (rl : Rel X.K X.mg X.N.length env μ B H σ) (d : DenW X.K X.mg X.N.length H0 μ B H σ v w) (p : PostS X.K X.mg X.N.length Wx μ0 B0 H0 De (put i w env)) : De.nx (σ.set i (some v)) H := by
  have li : i < env.length := Nat.lt_of_lt_of_le hi rl.le
  have ls : i < σ.length := by rw [rl.len]; exact hi
  cases w with
  | d y => exact p _ _ _ _ (x0.trans (ext_cut hi)) (rl.setName hi d)
  | fr c =>
    obtain ⟨a, rfl, h0, h1, h2, h3⟩ := d
    have r1 := (rl.un hi).sig (o := some (.ref a)) (List.getElem?_set_self li)
    have nm : ∀ j, cutMu μ i j ≠ some a := fun j q => by
      by_cases hj : j = i
      · simp only [cutMu, if_pos hj] at q; cases q
      · simp only [cutMu, if_neg hj] at q; exact h2 j q
    have r2 := r1.own hi (List.getElem?_set_self li) (List.getElem?_set_self ls) h1 nm h3
    rw [List.set_set] at r2
    refine p _ _ _ _ ?_ r2
    have xc := x0.trans (ext_cut (N := X.N.length) (μ := μ) (B := B) (H := H) hi)
    exact ⟨xc.b, xc.h, fun j b q => by
      by_cases hj : j = i
      · simp only [addMu, if_pos hj] at q; cases q; exact .inr h0
      · simp only [addMu, if_neg hj] at q; exact xc.m j b (by simp only [cutMu, if_neg hj]; exact q), xc.n, fun j hj => by
      show (if j = i then some a else cutMu μ i j) = _; rw [if_neg (show j ≠ i by omega)]; exact xc.l j hj, xc.t⟩
  | pl k =>
    have hp : PostS X.K X.mg X.N.length Wx μ0 B0 H0 De (bnd (frz (.pl k)) (fun d => fun e' => .ok .next (e'.set i (.val d))) env) := by
      unfold bnd
      simp only [put] at p
      cases q : frz (.pl k) env with
      | ok t e' => rw [q] at p; exact p
      | exc x e' => rw [q] at p; exact p.elim
      | fail => rw [q] at p; exact p.elim
    refine frz_okS x0 rl d hp fun t e' μ' B' x' r' d' _ p' _ => ?_
    exact p' _ _ _ _ (x'.trans (ext_cut hi)) (r'.setName hi d')
theorem ss_set {i : Nat} {x : Str} {p0 : Pos} (hN : X.N.Nodup) (ha : SE X Wx a ma) (hi : X.N[i]? = some x := by rfl) (hx : Loc X.env.scope x := by first | exact Or.inl rfl | exact Or.inr rfl) (hs : swapsWith a (some (.Name x p0)) pos.line X.env = pure false := by rfl) (hf : X.fn x = true ∨ X.env.scope.names.lookup x = some .local := by first | exact .inl rfl | exact .inr rfl | assumption) :
    SS X Wx (.Assign [.Name x p0] a pos) (sSet i ma) := by
  obtain ⟨ta, pa, sa⟩ := ha.ex
  refine .of ⟨_, ps_set hN hi hx pa hs hf, fun e μ B H σ De rl p => ?_⟩
  exact Snd.bndS (R' := fun x H1 => De.nx (σ.set i (some x)) H1) sa Ext.refl rl p fun wa e1 x μ1 B1 H1 x1 _ r1 d1 p1 _ => put_ok (List.getElem?_eq_some_iff.mp hi).1 x1 r1 d1 p1
theorem se_compS {ifs : List Expr} {elt : Expr} {scope : Scope} {own : List (Str × Nat)} {mi : M (List D)} {mg' : D → M Unit} {mt : M Bool} {is : List Nat} {i : Nat} {y : Str} {py spos : Pos} (hc : X.calm = true) (hN : X.N.Nodup) (hi : SI X Wx tg iter mi) (ok : blkC X.N X.env.scope scope own = true)
    (his : ∀ i ∈ is, i ∈ own.map (·.2))
    (hg : ∀ (s : Shared) (H : Hp) (C : Addr) (cl : List (Str × Addr)) (fp : List Addr), SG (X.blk s H scope (compEnvC scope cl C X.env) fp) tg is mg') (ht : ∀ (s : Shared) (H : Hp) (C : Addr) (cl : List (Str × Addr)) (fp : List Addr), STs (X.blk s H scope (compEnvC scope cl C X.env) fp) W0 ifs mt)
    (he : ∀ (s : Shared) (H : Hp) (C : Addr) (cl : List (Str × Addr)) (fp : List Addr), SE (X.blk s H scope (compEnvC scope cl C X.env) fp) W0 elt mb)
    (hy : X.N[i]? = some y := by rfl) (hyl : X.env.scope.names.lookup y = some .local := by rfl) (hsw : swapsWith (.ListComp elt [⟨tg, iter, ifs, 0⟩] scope pos) (some (.Name y py)) spos.line X.env = pure true := by exact sw_true rfl rfl rfl (by decide +kernel)) (hs : ∀ x, foldedSetIterable iter X.env x = pure x := by intro _; rfl) :
    SS X Wx (.Assign [.Name y py] (.ListComp elt [⟨tg, iter, ifs, 0⟩] scope pos) spos) (sSet i (eComp mi mg' mt mb (own.map (·.2)))) := by
  have ok' := blkOk_by ok
  obtain ⟨wi, pi, si⟩ := hi.ex
  have hv : ∀ v ∈ own.map (·.2), v < X.N.length := fun v hv => by
    obtain ⟨p, hp, rfl⟩ := List.mem_map.mp hv
    exact (List.getElem?_eq_some_iff.mp (ok'.ix p hp)).1
  have sh : Shared := {}
  refine .of ⟨_, ps_setLc (g := rdG X.K X.mg X.N.length is mg') (te := rdX X W0 (dW X) mb) (tt := rdX X W0 dB mt) hc hN hy hyl hsw pi ok' (fun s H C cl fp => (hg s H C cl fp).p) (fun s H C cl fp => (ht s H C cl fp).p) (fun s H C cl fp => (he s H C cl fp).p) hs, fun e μ B H σ De rl p => ?_⟩
  exact Snd.bndS (R' := fun x H1 => De.nx (σ.set i (some x)) H1) (snd_comp hv his si (hg sh (fun _ => none) 0 [] []).nx) Ext.refl rl p fun wa e1 x μ1 B1 H1 x1 _ r1 d1 p1 _ => put_ok (List.getElem?_eq_some_iff.mp hy).1 x1 r1 d1 p1
end
end Py
end
section
set_option Elab.async false
set_option linter.all false
set_option maxRecDepth 100000
namespace Py
open PySem PySem.Spec PyProof.Rows L2
section
variable {X : Cx} {Wx : WX} {e a b c tg iter : Expr} {es : List Expr} {ma mb mc mv : M W} {pos : Pos} {μ : Mu} {B H : Hp} {σ : L2.St} {env : Env} {De : Ends}
/-! ### a cell is changed -/
theorem cell_at {i : Nat} {v : V} {H0 : Hp} {s : Sl} {c : Cell} (rl : Rel X.K X.mg X.N.length env μ B H σ) (d : DenW X.K X.mg X.N.length H0 μ B H σ v (.pl i)) (hs : env[i]? = some s) (hc : s = .own c ∨ s = .lent c) : ∃ a, v = .ref a ∧ μ i = some a ∧ B a = none ∧ CellAt X.K X.mg B H a c := by
  rcases hc with rfl | rfl
  · have hi : i < X.N.length := by
      rcases Nat.lt_or_ge i X.N.length with y | y
      · exact y
      · obtain ⟨c', e⟩ := rl.hid i _ y hs; cases e
    obtain ⟨a, h1, h2⟩ := rl.name i _ hi hs
    obtain ⟨a', h3, h4, h5⟩ := rl.cell i _ hs
    rw [h1] at h3; cases h3
    rcases d with ⟨_, y⟩ | ⟨y, _⟩
    · rw [h2] at y; cases y; exact ⟨a, rfl, h1, h4, h5⟩
    · omega
  · have hi : X.N.length ≤ i := by
      rcases Nat.lt_or_ge i X.N.length with y | y
      · exact (rl.name i _ y hs).elim
      · exact y
    obtain ⟨a', h3, h4, h5⟩ := rl.cell i _ hs
    rcases d with ⟨y, _⟩ | ⟨_, a, y, y2⟩
    · omega
    · rw [h3] at y; cases y
      exact ⟨a', y2, h3, h4, h5⟩
theorem Rel.recell {i : Nat} {a : Addr} {s : Sl} {c c' : Cell} {o : HO} (rl : Rel X.K X.mg X.N.length env μ B H σ) (hs : env[i]? = some s) (hc : s = .own c ∨ s = .lent c) (hm : μ i = some a) (hB : B a = none) (hc' : CellAt X.K X.mg B (L2.upd H a o) a c') :
    Rel X.K X.mg X.N.length (env.set i (Py.recell c' s)) μ B (L2.upd H a o) σ ∧ Ext X.N.length μ B H μ B (L2.upd H a o) := by
  have li : i < env.length := (List.getElem?_eq_some_iff.mp hs).1
  have ex' : Same B (L2.upd H a o) := fun b u q => by rw [upd_ne (fun z => by rw [z, hB] at q; cases q)]; exact rl.ex b u q
  refine ⟨⟨rl.len, by rw [List.length_set]; exact rl.le, ex', fun j t q => ?_, fun j hj => ?_, rl.inj, fun j t hj q => ?_, fun j t hj q => ?_, fun j h q => ?_⟩, Same.refl B, fun b u q nm => ?_, fun j b q => .inl ⟨j, q⟩, fun _ _ q => .inl q, fun _ _ => rfl, fun b u q => ?_⟩
  · by_cases hj : j = i
    · subst hj
      rw [List.getElem?_set_self li] at q
      cases q
      rcases hc with rfl | rfl
      · exact ⟨a, hm, hB, hc'⟩
      · exact ⟨a, hm, hB, hc'⟩
    · rw [List.getElem?_set_ne (Ne.symm hj)] at q
      refine (rl.cell j t q).mono (Same.refl B) (fun _ _ h => h) fun b u hb hu => ?_
      rw [upd_ne (fun z => hj (rl.inj j i a (by rw [← z]; exact hb) hm))]
      exact hu
  · rw [List.length_set] at hj
    exact rl.out j hj
  · by_cases hji : j = i
    · subst hji
      rw [List.getElem?_set_self li] at q
      cases q
      have z := rl.name j s hj hs
      rcases hc with rfl | rfl
      · exact z
      · exact z
    · rw [List.getElem?_set_ne (Ne.symm hji)] at q
      exact rl.name j t hj q
  · by_cases hji : j = i
    · subst hji
      rw [List.getElem?_set_self li] at q
      cases q
      obtain ⟨c2, e2⟩ := rl.hid j s hj hs
      subst e2
      exact ⟨c', rfl⟩
    · rw [List.getElem?_set_ne (Ne.symm hji)] at q
      exact rl.hid j t hj q
  · by_cases hji : j = i
    · subst hji
      rw [List.getElem?_set_self li] at q
      rcases hc with rfl | rfl <;> cases q
    · rw [List.getElem?_set_ne (Ne.symm hji)] at q
      rw [List.length_set]
      exact rl.al j h q
  · rw [upd_ne (fun z => nm i (by rw [z]; exact hm))]; exact q
  · by_cases z : b = a
    · subst z; exact ⟨_, upd_same⟩
    · exact ⟨u, by rw [upd_ne z]; exact q⟩
/-- what upd does, where it does -/
theorem upd_inv {w : W} {f : Cell → Option Cell} {De : Ends} {μ0 : Mu} {B0 H0 : Hp} (p : PostS X.K X.mg X.N.length Wx μ0 B0 H0 De (Py.upd w f env)) : ∃ i s c c', w = .pl i ∧ env[i]? = some s ∧ (s = .own c ∨ s = .lent c) ∧ f c = some c' ∧ Py.upd w f env = .ok .next (env.set i (Py.recell c' s)) := by
  cases w with
  | d x => exact p.elim
  | fr c => exact p.elim
  | pl i =>
    simp only [Py.upd] at p ⊢
    cases q : env[i]? with
    | none => rw [q] at p; exact p.elim
    | some s =>
      rw [q] at p
      cases s with
      | own c =>
        simp only at p ⊢
        cases q2 : f c with
        | none => rw [q2] at p; exact p.elim
        | some c' => exact ⟨i, _, c, c', rfl, q, .inl rfl, q2, rfl⟩
      | lent c =>
        simp only at p ⊢
        cases q2 : f c with
        | none => rw [q2] at p; exact p.elim
        | some c' => exact ⟨i, _, c, c', rfl, q, .inr rfl, q2, rfl⟩
      | _ => exact p.elim
theorem DenW.pl {i : Nat} {v : V} {H0 B' H' : Hp} {μ' : Mu} {K : PySem.W.Frag} {mg : Str → Option Value} {N : Nat} (d : DenW K mg N H0 μ B H σ v (.pl i)) (h : ∀ j, N ≤ j → μ' j = μ j) : DenW K mg N H0 μ' B' H' σ v (.pl i) := by
  rcases d with d | ⟨h1, a, h2, h3⟩
  · exact .inl d
  · exact .inr ⟨h1, a, (h i h1).trans h2, h3⟩
/-- xs.append(e) -/
theorem ss_app {apos cpos : Pos} (ha : SE X Wx a ma) (hb : SE X Wx b mb) (hbase : attributeBase a "append" X.env (eval a X.env) = eval a X.env := by rfl)
    (hfew : ((backTo cpos (starEach [b] X.env)).all (fun x => !x.1) && (backToKw cpos (keywordEach [] X.env)).all (fun x => x.1.isSome)
      && decide (([b] : List Expr).length + ([] : List Keyword).length + (if ([] : List Keyword).isEmpty then 0 else 1) < 30)) = true := by rfl)
    (hline : (apos.endLine == cpos.line) = true := by rfl) (hst : starEach [b] X.env = (false, eval b X.env) :: starEach [] X.env := by rfl) (hplain : (backTo cpos (starEach [] X.env)).any (·.1) = false := by rfl)
    (hs : swapsWith (.Call (.Attribute a "append" apos) [b] [] cpos) none pos.line X.env = pure false := by rfl) :
    SS X Wx (.Expr (.Call (.Attribute a "append" apos) [b] [] cpos) pos) (sApp ma mb) := by
  obtain ⟨ta, pa, sa⟩ := ha.ex
  obtain ⟨tb, pb, sb⟩ := hb.ex
  refine .of ⟨_, ps_expr (pe_bm PySem.F.plainAttrs_list PySem.F.slot_list_append PySem.F.type_list_append mt_append pa (pa_cons pb pa_nil (by exact hst)) hbase hfew hline hst hplain) hs, fun e μ B H σ De rl p => ?_⟩
  refine Snd.bndS (t := ta) (R' := fun x H1 => tyV X.K "list" x H1 ∧ tb σ H1 fun y H2 => rAppend x [y] H2 fun _ H3 => De.nx σ H3) sa Ext.refl rl p fun wa e1 x μ1 B1 H1 x1 _ r1 d1 p1 _ => ?_
  unfold bnd chkL at p1
  cases q1 : vw wa e1 with
  | none => rw [q1] at p1; exact p1.elim
  | some t =>
    rw [q1] at p1
    cases t with
    | lst ds0 =>
      simp only at p1
      obtain ⟨l0, xs0, ex0, h2, h3⟩ := (view_of r1 d1 q1).seqL r1.ex
      refine ⟨by rw [ex0]; exact .inl ⟨rfl, _, h2⟩, ?_⟩
      have p1 : PostS X.K X.mg X.N.length Wx μ B H De (Py.bnd mb (fun w => Py.bnd (frz w) fun d => Py.upd wa (cApp d)) e1) := p1
      refine Snd.bndS sb x1 r1 p1 fun wb e2 y μ2 B2 H2 x2 y2 r2 d2 p2 _ => ?_
      refine frz_okS x2 r2 (d2.back x1.t) p2 fun z e3 μ3 B3 x3 r3 d3 m3 p3 q3 => ?_
      have d1' := DenW.go y2 d1
      obtain ⟨i, s, c, c', rfl, hs, hc, hf, q4⟩ := upd_inv p3
      have d3' := d1'.pl (fun j hj => (x3.l j hj).trans (x2.l j hj).symm) (B' := B3) (H' := H2)
      obtain ⟨la, rfl, hm, hB, hca⟩ := cell_at r3 d3' hs hc
      cases c with
      | obj c gs => cases hf
      | lst ds =>
        simp only [cApp] at hf
        obtain ⟨hlim, rfl⟩ := some_if hf
        obtain ⟨xs, h4, h5⟩ := hca
        refine ⟨la, xs, y, rfl, rfl, h4, by rw [h5.length]; exact lim_lt hlim, ?_⟩
        rw [q4] at p3
        obtain ⟨r5, x5⟩ := r3.recell (o := .lst (xs ++ [y])) (c' := .lst (ds ++ [z])) hs hc hm hB ⟨_, upd_same, h5.append (.cons d3 .nil)⟩
        exact p3 σ μ3 B3 _ (x3.trans x5) r5
    | _ => exact p1.elim
/-- xs[i] = v -/
theorem ss_put {tpos : Pos} (hv : SE X Wx c mv) (ha : SE X Wx a ma) (hb : SE X Wx b mb) (hs : swapsWithSole [.Subscript a b tpos] c pos.line X.env = pure false := by rfl) (hw : swappedStores [.Subscript a b tpos] c X.env = pure none := by rfl)
    (h1 : (assignEach [.Subscript a b tpos] X.env).map (·.2) = [assign (.Subscript a b tpos) X.env] := by rfl)
    (hpl : ∀ v, assign (.Subscript a b tpos) X.env v = (do
      let ov ← holding [v] (eval a X.env)
      let iv ← holding [v, ov] (eval b X.env)
      standAt tpos
      holding [v, ov, iv] (setItem ov iv v)
      release [v, ov, iv] []) := by intro _; rfl) :
    SS X Wx (.Assign [.Subscript a b tpos] c pos) (sPut mv ma mb) := by
  obtain ⟨ta, pa, sa⟩ := ha.ex
  obtain ⟨tb, pb, sb⟩ := hb.ex
  obtain ⟨tv, pv, sv⟩ := hv.ex
  refine .of ⟨_, ps_asg pv (pg_sub pa pb set_list hpl) hs hw h1, fun e μ B H σ De rl p => ?_⟩
  refine Snd.bndS (t := tv) (R' := fun x H1 => ta σ H1 fun o H2 => tb σ H2 fun i H3 => rSetL o i x H3 fun H4 => De.nx σ H4) sv Ext.refl rl p fun wv e1 x μ1 B1 H1 x1 _ r1 d1 p1 _ => ?_
  refine frz_okS x1 r1 d1 p1 fun z e1' μ1' B1' x1' r1' d1' _ p1' _ => ?_
  refine Snd.bndS (t := ta) (R' := fun o H2 => tb σ H2 fun i H3 => rSetL o i x H3 fun H4 => De.nx σ H4) sa x1' r1' p1' fun wa e2 o μ2 B2 H2 x2 y2 r2 d2 p2 _ => ?_
  refine Snd.bndS sb x2 r2 p2 fun wb e3 i' μ3 B3 H3 x3 y3 r3 d3 p3 _ => ?_
  have dz := (d1'.mono y2.b).mono y3.b
  cases q1 : vw wb e3 with
  | none => rw [q1] at p3; exact p3.elim
  | some t =>
    rw [q1] at p3
    have vi := view_of r3 d3 q1
    obtain ⟨i, s, c, c', rfl, hs, hc, hf, q4⟩ := upd_inv p3
    have d3' := (DenW.go y3 d2)
    obtain ⟨la, rfl, hm, hB, hca⟩ := cell_at r3 d3' hs hc
    cases c with
    | obj c gs => cases t <;> cases hf
    | lst ds =>
      cases t with
      | int k =>
        simp only [cSet] at hf
        cases q5 : ixn ds.length k with
        | none => rw [q5] at hf; cases hf
        | some j =>
          rw [q5] at hf
          cases hf
          obtain ⟨xs, h4, h5⟩ := hca
          refine ⟨la, xs, k, j, rfl, vi.int, h4, by rw [h5.length]; exact q5, ?_⟩
          have p3 : PostS X.K X.mg X.N.length Wx μ B H De (Py.upd (.pl i) (cSet (.int k) z) e3) := p3
          rw [q4] at p3
          obtain ⟨r5, x5⟩ := r3.recell (o := .lst (xs.set j x)) (c' := .lst (ds.set j z)) hs hc hm hB ⟨_, upd_same, h5.set dz j⟩
          exact p3 σ μ3 B3 _ (x3.trans x5) r5
      | _ => cases hf
/-- x op= e -/
theorem ss_aug {i : Nat} {x : Str} {p0 : Pos} {op : Operator} {r : R2} {f : D → D → Option W} (hN : X.N.Nodup) (ho : OpR X (inplaceOp op) r) (hr : OpS X r f) (ha : SE X Wx a ma) (hi : X.N[i]? = some x := by rfl) (hx : Loc X.env.scope x := by first | exact Or.inl rfl | exact Or.inr rfl)
    (hf : X.fn x = true ∨ X.env.scope.names.lookup x = some .local := by first | exact .inl rfl | exact .inr rfl | assumption) : SS X Wx (.AugAssign (.Name x p0) op a pos) (sAug i f ma) := by
  obtain ⟨ta, pa, sa⟩ := ha.ex
  have hi' := (List.getElem?_eq_some_iff.mp hi).1
  refine .of ⟨_, ps_aug (ti := r) hN hi hx pa ho hf, fun e μ B H σ De rl p => ?_⟩
  have he : i < e.length := Nat.lt_of_lt_of_le hi' rl.le
  have g := List.getElem?_eq_getElem he
  have nm := rl.name i _ hi' g
  unfold sAug at p
  rw [g] at p
  cases hs : e[i] with
  | val u =>
    rw [hs] at p nm
    obtain ⟨v, h1, h2⟩ := nm
    refine ⟨v, h1, ?_⟩
    refine Snd.bndS sa Ext.refl rl p fun wa e1 y μ1 B1 H1 x1 _ r1 d1 p1 _ => ?_
    cases q1 : vw wa e1 with
    | none => rw [q1] at p1; exact p1.elim
    | some t =>
      rw [q1] at p1
      simp only at p1
      cases q2 : f u t with
      | none => rw [q2] at p1; exact p1.elim
      | some w =>
        rw [q2] at p1
        simp only at p1
        refine hr B1 H1 v y u t w _ r1.ex (.inl (h2.mono x1.b)) (view_of r1 d1 q1) q2 fun v' H' z => ?_
        cases w with
        | d s =>
          obtain ⟨B3, x3, y3, r3, d3⟩ := z.step x1 r1
          exact put_ok hi' x3 r3 (show DenW X.K X.mg X.N.length H μ1 B3 H' σ v' (.d s) from d3) p1
        | fr c =>
          obtain ⟨q, o, h3, rfl, rfl, h4⟩ := z
          exact put_ok hi' (x1.trans (ext_new h3)) (r1.new h3) (show DenW X.K X.mg X.N.length H μ1 B1 (L2.upd H1 q o) σ (.ref q) (.fr c) from ⟨q, rfl, none_back x1.t h3, r1.base h3, r1.nomu h3, h4⟩) p1
        | pl k => exact z.elim
  | _ => rw [hs] at p; exact p.elim
theorem ops_aAdd : OpS X (rI0 fun i j => .int (i + j)) aAdd := by
  intro B H x y d d' w Q ex vx vy q k
  unfold aAdd at q
  split at q
  · cases q
    exact ⟨_, _, vx.int, vy.int, k _ _ (.inl ⟨rfl, .int _⟩)⟩
  · cases q
theorem ss_augAdd {i : Nat} {x : Str} {p0 : Pos} (hN : X.N.Nodup) (ha : SE X Wx a ma) (hi : X.N[i]? = some x := by rfl) (hx : Loc X.env.scope x := by first | exact Or.inl rfl | exact Or.inr rfl)
    (hf : X.fn x = true ∨ X.env.scope.names.lookup x = some .local := by first | exact .inl rfl | exact .inr rfl | assumption) : SS X Wx (.AugAssign (.Name x p0) .Add a pos) (sAug i aAdd ma) := ss_aug hN iop_add ops_aAdd ha hi hx hf
/-- xs[i] op= e -/
def rGetL (K : PySem.W.Frag) : V → V → Hp → VK → Prop := rIxL K
theorem get_list : PGet X (rGetL X.K) := by
  intro pins s σ H x y v u Q I rx ry h
  obtain ⟨p, xs, i, z, rfl, rfl, hq, he, q⟩ := h
  cases rx
  obtain ⟨t, rfl⟩ := ry
  obtain ⟨its, r, pl, hz⟩ := I.list hq
  obtain ⟨j, h1, h2, h3, h4, h5⟩ := atI_get he
  obtain ⟨w, ew, rw'⟩ := r.get h2
  have hl := r.length
  have hn := line63
  have fin : EP X pins σ Q w s := ⟨z, H, I, rw', q⟩
  by_cases h0 : 0 ≤ i
  · have hj : i.toNat = j := by
      rw [seqIndex_of h0 h5] at h1
      exact Option.some.inj h1
    exact wpAny_getItem_list pl.isList h0 (by omega) (by rw [hj]; simpa using ew) fin
  · have hj : (i + (its.toArray.size : Int)).toNat = j := by
      rw [seqIndex_neg (by omega) h4] at h1
      rw [List.size_toArray, ← hl]
      exact Option.some.inj h1
    exact wpAny_getItem_list_neg pl.isList (by omega) (by rw [List.size_toArray] <;> omega) (by omega) (by rw [hj]; simpa using ew) fin
theorem ss_augS {tpos : Pos} {op : Operator} {r : R2} {f : D → D → Option W} (ho : OpR X (inplaceOp op) r) (hr : OpS X r f) (ha : SE X Wx a ma) (hb : SE X Wx b mb) (hv : SE X Wx c mv)
    (hst : ∀ ov iv new, augStore b ov iv new = (do holding [new, ov, iv] (setItem ov iv new); release [new, ov, iv] []; pure .next) := by intros; rfl) : SS X Wx (.AugAssign (.Subscript a b tpos) op c pos) (sAugS f ma mb mv) := by
  obtain ⟨ta, pa, sa⟩ := ha.ex
  obtain ⟨tb, pb, sb⟩ := hb.ex
  obtain ⟨tv, pv, sv⟩ := hv.ex
  refine .of ⟨_, ps_augS (tip := r) pa pb get_list pv ho set_list hst, fun e μ B H σ De rl p => ?_⟩
  refine Snd.bndS (t := ta) (R' := fun o H1 => tb σ H1 fun i H2 => rGetL X.K o i H2 fun x H3 => tv σ H3 fun y H4 => r x y H4 fun z H5 => rSetL o i z H5 fun H6 => De.nx σ H6) sa Ext.refl rl p fun wa e1 o μ1 B1 H1 x1 _ r1 d1 p1 _ => ?_
  refine Snd.bndS sb x1 r1 p1 fun wb e2 i μ2 B2 H2 x2 y2 r2 d2 p2 _ => ?_
  have d1' := DenW.go y2 d1
  split at p2
  · rename_i us k q1 q2
    split at p2
    · rename_i q q3
      have va := view_of r2 d1' q1
      have vi := (view_of r2 d2 q2).int
      subst vi
      obtain ⟨la, xs, rfl, h1, h2⟩ := va.seqL r2.ex
      cases q4 : ixn us.length k with
      | none => rw [q4] at q3; cases q3
      | some j =>
        rw [q4] at q3
        simp only [Option.bind_some] at q3
        obtain ⟨v, h3, h4⟩ := h2.get q3
        refine ⟨la, xs, k, v, rfl, rfl, h1, ?_, ?_⟩
        · unfold L2.atI
          rw [h2.length]
          show ((ixn us.length k).bind fun j => xs[j]?) = some v
          rw [q4]
          exact h3
        refine Snd.bndS sv x2 r2 p2 fun wv e3 y μ3 B3 H3 x3 y3 r3 d3 p3 _ => ?_
        have d1'' := DenW.go y3 d1'
        split at p3
        · rename_i t q5
          split at p3
          · rename_i z q6
            refine hr B3 H3 v y q t _ _ r3.ex (.inl (h4.mono y3.b)) (view_of r3 d3 q5) q6 fun v' H' zz => ?_
            obtain ⟨B4, x4, y4, r4, d4⟩ := zz.step x3 r3
            obtain ⟨i, s, c, c', rfl, hs, hc, hf, q7⟩ := upd_inv p3
            have d5 := DenW.go y4 d1''
            obtain ⟨la', e1, hm, hB, hca⟩ := cell_at r4 d5 hs hc
            cases e1
            cases c with
            | obj c gs => cases hf
            | lst ds =>
              simp only [cSet] at hf
              cases q8 : ixn ds.length k with
              | none => rw [q8] at hf; cases hf
              | some j' =>
                rw [q8] at hf
                cases hf
                obtain ⟨xs', h5, h6⟩ := hca
                refine ⟨la, xs', k, j', rfl, rfl, h5, by rw [h6.length]; exact q8, ?_⟩
                rw [q7] at p3
                obtain ⟨r5, x5⟩ := r4.recell (o := .lst (xs'.set j' v')) (c' := .lst (ds.set j' z)) hs hc hm hB ⟨_, upd_same, h6.set d4 j'⟩
                exact p3 σ μ3 B4 _ (x4.trans x5) r5
          · exact p3.elim
        · exact p3.elim
    · exact p2.elim
  · exact p2.elim
/-- a, b = e -/
theorem ss_tgt {is : List Nat} {m : D → M Unit} (ha : SE X Wx a ma) (hg : SG X tg is m) (hs : swapsWithSole [tg] a pos.line X.env = pure false := by rfl) (hw : swappedStores [tg] a X.env = pure none := by rfl)
    (h1 : (assignEach [tg] X.env).map (·.2) = [assign tg X.env] := by rfl) : SS X Wx (.Assign [tg] a pos) (sTgt m ma) := by
  obtain ⟨ta, pa, sa⟩ := ha.ex
  refine .of ⟨_, ps_asg pa hg.p hs hw h1, fun e μ B H σ De rl p => ?_⟩
  refine Snd.bndS (t := ta) sa Ext.refl rl p fun wa e1 x μ1 B1 H1 x1 _ r1 d1 p1 _ => ?_
  refine frz_okS x1 r1 d1 p1 fun z e2 μ2 B2 x2 r2 d2 _ p2 _ => ?_
  unfold bnd at p2
  cases q : m z e2 with
  | fail => rw [q] at p2; exact p2.elim
  | exc y e' => exact absurd q (hg.nx _ _ _ _)
  | ok u e' =>
    rw [q] at p2
    refine ⟨e2, μ2, B2, z, e', r2, d2, q, fun σ' μ' h3 h4 x5 r5 => ?_⟩
    exact p2 σ' μ' B2 H1 (x2.trans x5) r5

/-! ### loops -/
theorem snd_for {wi : TI} {tb : TS} {mi : M (List D)} {mg' : D → M Unit} {mbd : M Ctl} {is : List Nat} (si : SndX X Wx (dI X) wi mi) (nx : ∀ d e x e', mg' d e ≠ .exc x e') (sb : SndSX X Wx tb mbd) :
    SndSX X Wx (tFor wi (rdG X.K X.mg X.N.length is mg') tb) (sFor mi mg' mbd) := by
  intro e μ B H σ De rl p
  refine Snd.bndS (t := wi) si Ext.refl rl p fun ds e1 J μ1 B1 H1 x1 _ r1 d1 p1 _ => ?_
  refine ⟨fun i m σ2 H2 => ∃ e2 μ2 B2, Rel X.K X.mg X.N.length e2 μ2 B2 H2 σ2 ∧ Ext X.N.length μ1 B1 H1 μ2 B2 H2 ∧ i ≤ ds.length ∧ m = ds.length - i ∧ PostS X.K X.mg X.N.length Wx μ B H De (forL mg' mbd (ds.drop i) e2),
    ⟨ds.length, e1, μ1, B1, r1, Ext.refl, Nat.zero_le _, (Nat.sub_zero _).symm, p1⟩, ?_⟩
  rintro i m σ2 H2 ⟨e2, μ2, B2, r2, x2, hle, rfl, p2⟩
  by_cases hi : i < ds.length
  · have hd : ds[i]? = some ds[i] := List.getElem?_eq_getElem hi
    rw [List.drop_eq_getElem_cons hi] at p2
    refine .inr ⟨d1.go B2 H2 x2.b r2.ex i _ hd, _, fun σ' H' z => ⟨ds.length - (i + 1), by omega, z⟩, fun x H' y => ?_⟩
    obtain ⟨B3, x3, r3, d3, _, _, z3⟩ := (d1.yld B2 H2 x2.b r2.ex i _ hd x H' y).step x2 r2
    unfold forL bnd at p2
    cases q : mg' ds[i] e2 with
    | fail => rw [q] at p2; exact p2.elim
    | exc y e' => exact absurd q (nx _ _ _ _)
    | ok u e4 =>
      rw [q] at p2
      simp only at p2
      refine ⟨e2, μ2, B3, ds[i], e4, r3, d3, q, fun σ5 μ5 l5 s5 y5 r5 => ?_⟩
      have x5 := x3.trans y5
      refine sb e4 μ5 B3 H' σ5 _ r5 ?_
      cases q2 : mbd e4 with
      | fail => rw [q2] at p2; exact p2
      | exc y e6 =>
        rw [q2] at p2
        exact fun cls d σ' μ' B' H'' z r dx => p2 cls d σ' μ' B' H'' ((x1.trans x5).trans z) r (dx.back (x1.trans x5).t)
      | ok c e6 =>
        rw [q2] at p2
        cases c with
        | next => exact fun σ' μ' B' H'' z r => ⟨e6, μ', B', r, x5.trans z, by omega, rfl, p2⟩
        | cont => exact fun σ' μ' B' H'' z r => ⟨e6, μ', B', r, x5.trans z, by omega, rfl, p2⟩
        | brk => exact fun σ' μ' B' H'' z r => p2 σ' μ' B' H'' ((x1.trans x5).trans z) r
        | ret w => exact fun v σ' μ' B' H'' z r dw => p2 v σ' μ' B' H'' ((x1.trans x5).trans z) r (dw.back (x1.trans x5).t)
  · have e : i = ds.length := by omega
    subst e
    rw [List.drop_length] at p2
    exact .inl ⟨d1.stop B2 H2 x2.b r2.ex _ (Nat.le_refl _), p2 σ2 μ2 B2 H2 (x1.trans x2) r2⟩
theorem ss_for {mi : M (List D)} {mg' : D → M Unit} {mbd : M Ctl} {is : List Nat} {body : List Stmt} (hp : PassesOwn (model X.prog X.w) X.A X.env X.xe) (hc : X.calm = true) (hi : SI X Wx tg iter mi) (hg : SG X tg is mg') (hb : SSs X Wx body mbd) (hs : ∀ x, foldedSetIterable iter X.env x = pure x := by intro _; rfl) :
    SS X Wx (.For tg iter body [] pos) (sFor mi mg' mbd) := by
  obtain ⟨wi, pi, si⟩ := hi.ex
  obtain ⟨tb, pb, sb⟩ := hb.ex
  exact .of ⟨_, ps_for hp hc pi hg.p pb hs, snd_for si hg.nx sb⟩
theorem ss_while {mt : M Bool} {mbd : M Ctl} {body : List Stmt} {n : Nat} (hp : PassesOwn (model X.prog X.w) X.A X.env X.xe) (ht : ST X Wx a mt) (hb : SSs X Wx body mbd) : SS X Wx (.While a body [] pos) (sWhile mt mbd n) := by
  obtain ⟨tt, pt, st⟩ := ht.ex
  obtain ⟨tb, pb, sb⟩ := hb.ex
  refine .of ⟨_, ps_while hp pt pb, fun e μ B H σ De rl p => ?_⟩
  refine ⟨fun m σ2 H2 => ∃ e2 μ2 B2, Rel X.K X.mg X.N.length e2 μ2 B2 H2 σ2 ∧ Ext X.N.length μ B H μ2 B2 H2 ∧ PostS X.K X.mg X.N.length Wx μ B H De (sWhile mt mbd m e2), ⟨n, e, μ, B, rl, Ext.refl, p⟩, ?_⟩
  rintro m σ2 H2 ⟨e2, μ2, B2, r2, x2, p2⟩
  cases m with
  | zero => exact p2.elim
  | succ m =>
    refine Snd.bndS (t := tt) (R' := fun b H1 => if b = true then ∃ N : L2.St → Hp → Prop, (∀ σ' H', N σ' H' → ∃ m', m' < m + 1 ∧ ∃ e2 μ2 B2, Rel X.K X.mg X.N.length e2 μ2 B2 H' σ' ∧ Ext X.N.length μ B H μ2 B2 H' ∧ PostS X.K X.mg X.N.length Wx μ B H De (sWhile mt mbd m' e2)) ∧ tb { De with nx := N, ct := N, bk := De.nx } σ2 H1 else De.nx σ2 H1)
      st x2 r2 p2 fun x e3 x' μ3 B3 H3 x3 y3 r3 d3 p3 _ => ?_
    cases (show x' = x from d3)
    cases x with
    | false =>
      rw [if_neg Bool.false_ne_true]
      exact p3 σ2 μ3 B3 H3 x3 r3
    | true =>
      rw [if_pos rfl]
      refine ⟨fun σ' H' => ∃ e2 μ2 B2, Rel X.K X.mg X.N.length e2 μ2 B2 H' σ' ∧ Ext X.N.length μ B H μ2 B2 H' ∧ PostS X.K X.mg X.N.length Wx μ B H De (sWhile mt mbd m e2), fun σ' H' z => ⟨m, Nat.lt_succ_self m, z⟩, ?_⟩
      refine sb e3 μ3 B3 H3 σ2 _ r3 ?_
      simp only [if_true] at p3
      unfold bnd at p3
      cases q2 : mbd e3 with
      | fail => rw [q2] at p3; exact p3
      | exc y e6 =>
        rw [q2] at p3
        exact fun cls d σ' μ' B' H'' z r dx => p3 cls d σ' μ' B' H'' (x3.trans z) r (dx.back x3.t)
      | ok c e6 =>
        rw [q2] at p3
        cases c with
        | next => exact fun σ' μ' B' H'' z r => ⟨e6, μ', B', r, x3.trans z, p3⟩
        | cont => exact fun σ' μ' B' H'' z r => ⟨e6, μ', B', r, x3.trans z, p3⟩
        | brk => exact fun σ' μ' B' H'' z r => p3 σ' μ' B' H'' (x3.trans z) r
        | ret w => exact fun v σ' μ' B' H'' z r dw => p3 v σ' μ' B' H'' (x3.trans z) r (dw.back x3.t)
end
end Py
end
section
set_option Elab.async false
set_option linter.all false
set_option maxRecDepth 100000
namespace Py
open PySem PySem.Spec PyProof.Rows L2
/-! ### promises of defs, in acts with no guard up (so that repr may be asked of rows) -/
structure Roomy (k : Nat) (A : Around) : Prop where
  r : L2.Room k A
  g : A.guards = some []
theorem Roomy.mono {j k : Nat} {A : Around} (q : Roomy k A) (h : j ≤ k) : Roomy j A := ⟨q.r.mono h, q.g⟩
theorem Roomy.deeper {k : Nat} {A : Around} (q : Roomy (k + 1) A) (e : PySem.Env) : Roomy k (A.deeper e) := ⟨q.r.deeper e, q.g⟩
structure Prom (P : Program) (w : World) (K : PySem.W.Frag) (mg : Str → Option Value) (base : Heap) (k : Nat) (f : Addr) (fd : FuncData) (ps : List Str) (sp : Sp) : Prop where
  len : ∀ vs H Q E, sp vs H Q E → vs.length = ps.length
  run : ∀ (A : Around) (outer : List PySem.Env) (s : Shared) (H : Hp) (args : Args) (us : List Value) (vs : List V) (Q : VK) (E : XK),
    Roomy k A → Env0 P w K mg base A outer s H → BindsTo s fd args (ps.zip us) → Vals vs us → sp vs H Q E →
    codeAny (model P w) A (.call (.ref f) args) (CR (L2.CX P w) outer P w H s Q E) s
theorem Prom.mono {P : Program} {w : World} {K : PySem.W.Frag} {mg : Str → Option Value} {base : Heap} {j k : Nat} {f : Addr} {fd : FuncData} {ps : List Str} {sp : Sp}
    (F : Prom P w K mg base j f fd ps sp) (h : j ≤ k) : Prom P w K mg base k f fd ps sp :=
  ⟨F.len, fun A o s H as us vs Q E q => F.run A o s H as us vs Q E (q.mono h)⟩
theorem Prom.imp {P : Program} {w : World} {K : PySem.W.Frag} {mg : Str → Option Value} {base : Heap} {k : Nat} {f : Addr} {fd : FuncData} {ps : List Str} {sp sp' : Sp}
    (F : Prom P w K mg base k f fd ps sp) (h : ∀ vs H Q E, sp' vs H Q E → sp vs H Q E) : Prom P w K mg base k f fd ps sp' :=
  ⟨fun vs H Q E q => F.len vs H Q E (h _ _ _ _ q), fun A o s H as us vs Q E q e b v z => F.run A o s H as us vs Q E q e b v (h _ _ _ _ z)⟩
theorem prom_of {P : Program} {w : World} {K : PySem.W.Frag} {mg : Str → Option Value} {base : Heap} {k : Nat} {f : Addr} {x qual : Str} {st : Stmt} {fd : FuncData} {N ps : List Str} {sp : Sp}
    (F : Fun K x qual st f fd) (S : FnScope N ps (defScope st)) (len : ∀ vs H Q E, sp vs H Q E → vs.length = ps.length)
    (hbody : ∀ (cdv : Value) (A : Around) (outer : List PySem.Env) (s : Shared) (H : Hp) (vs : List V) (Q : VK) (E : XK),
      Roomy k (A.deeper (envOfC qual (defScope st) s.heap.objs.size f cdv)) → sp vs H Q E →
      ∃ t, PSs (cxOf (L2.CX P w) P w K mg base N qual (defScope st) f cdv A outer s H E) (defBody st) t ∧ t { nx := fun _ H' => Q .non H', rt := Q } (L2.start N vs) H) :
    Prom P w K mg base (k + 1) f fd ps sp := by
  obtain ⟨oc, od, kV, doc, pm, an, cdv, ct, osl, rfl, lk, hcd⟩ := F.ex
  refine ⟨len, ?_⟩
  intro A outer s H args us vs Q E hr e0 hb r hsp
  have hl := len _ _ _ _ hsp
  have KX : K.In s.heap := e0.mod.kin.keeps fun b o z => (e0.bs b o z).1
  have nl : s.heap.NoLimit := e0.mod.nolimit.keeps fun b o z => (e0.bs b o z).1
  have kinds : ∀ y ∈ ps.zip us, (defScope st).names.lookup y.1 = some .local ∨ ((defScope st).names.lookup y.1 = some .cell ∧ ((cellsFrom (s.heap.objs.size + 1) (defScope st).names []).lookup y.1).isSome = true) := by
    rintro ⟨n, v⟩ hy
    rcases S.par n (List.of_mem_zip hy).1 with q | q
    · exact .inl q
    · exact .inr ⟨q, PySem.W.cellsFrom_some _ _ _ (.inl q)⟩
  refine codeAny_call_function hr.r.depth (KX _ _ lk) rfl S.co S.gen rfl (PySem.W.codeRec_of KX hcd) (hb _ _ _ _ ?_)
  refine wpAny_newFunctionEnv_cells S.kind kinds fun env he s1 xx => ?_
  subst he
  refine ⟨nl.keeps xx.toInCall.keep, codeAny_func ?_⟩
  obtain ⟨t, ht, hq⟩ := hbody cdv A outer s H vs Q E (hr.deeper _) hsp
  have I := inv_start (CX := L2.CX P w) (E := E) S hr.r.hd e0 hl r xx
  refine wpAny_mono (ht.run [] s1 (L2.start N vs) H _ I hq) ?_ (fun _ _ z => z)
  intro fl s' hs
  match fl, hs with
  | .ret u, ⟨v, σ', H', J, rv, q⟩ => exact ⟨v, H', J.os, J.bare, J.base, J.hok, rv, q⟩
  | .next, ⟨σ', H', J, q⟩ => exact ⟨V.non, H', J.os, J.bare, J.base, J.hok, rfl, q⟩
  | .brk, ⟨_, _, _, q⟩ => exact q.elim
  | .cont, ⟨_, _, _, q⟩ => exact q.elim
section
variable {X : Cx} {k : Nat} {f : Addr} {fd : FuncData} {ps : List Str} {sp : Sp} {E : L2.St → XK} {x : Str} {p pos : Pos} {e : Expr} {es : List Expr} {t : TA}
theorem run_prom {pins : List (Addr × Obj)} {σ : L2.St} {H : Hp} {s : Shared} {Q : VK} {us : List Value} {vs : List V} {args : Args} (F : Prom X.prog X.w X.K X.mg X.base k f fd ps sp) (hr : Roomy k X.A)
    (b : BindsTo s fd args (ps.zip us)) (hx : PassesAt (L2.CX X.prog X.w) X σ (E σ)) (I : Inv X pins σ H s) (r : Vals vs us) (h : sp vs H Q (E σ)) :
    codeAny (model X.prog X.w) X.A (.call (.ref f) args) (fun r s' => match r with | .ok (.ret u) => EP X pins σ Q u s' | .ok _ => False | .error e => X.xe e s') s := by
  refine codeAny_mono (F.run X.A X.stack s H args us vs Q (E σ) hr I.env0 b r h) ?_
  intro r s' hq
  match r, hq with
  | .error e, hq => exact hx pins H s e s' I hq
  | .ok (.ret u), hq => exact I.after hq
  | .ok .next, hq => exact hq.elim
  | .ok .brk, hq => exact hq.elim
  | .ok .cont, hq => exact hq.elim
theorem run_prom0 {pins : List (Addr × Obj)} {σ : L2.St} {H : Hp} {s : Shared} {Q : VK} {us : List Value} {vs : List V} (F : Prom X.prog X.w X.K X.mg X.base k f fd ps sp) (hr : Roomy k X.A) (hb : Binds X.K fd ps []) (hx : PassesAt (L2.CX X.prog X.w) X σ (E σ))
    (I : Inv X pins σ H s) (r : Vals vs us) (h : sp vs H Q (E σ)) : wpAny (model X.prog X.w) X.A (call (.ref f) us) (EP X pins σ Q) X.xe s := by
  have hl : us.length = ps.length := by rw [← r.length]; exact F.len _ _ _ _ h
  have b := hb s us I.kIn (by rw [List.append_nil]; exact hl)
  rw [List.append_nil] at b
  refine wpAny_call (codeAny_mono (run_prom F hr b hx I r h) ?_)
  intro r s' hq
  match r, hq with
  | .error e, hq => exact hq
  | .ok (.ret u), hq => exact hq
  | .ok .next, hq => exact hq.elim
  | .ok .brk, hq => exact hq.elim
  | .ok .cont, hq => exact hq.elim
theorem pe_prom (F : Prom X.prog X.w X.K X.mg X.base k f fd ps sp) (hr : Roomy k X.A) (hg : Gl X x) (hm : X.mg x = some (.ref f)) (hk : PySem.W.keepIn X.K (.ref f) = true) (hb : Binds X.K fd ps []) (hx : ∀ σ, PassesAt (L2.CX X.prog X.w) X σ (E σ))
    (ha : PA X (e :: es) t) (hdb : (x == ("__debug__" : Str)) = false) (he : starEach (e :: es) X.env = (false, eval e X.env) :: starEach es X.env) (hpl : (backTo pos (starEach es X.env)).any (·.1) = false) :
    PE X (.Call (.Name x p) (e :: es) [] pos) (tCallS sp E t) := by
  refine ⟨fun pins s σ H Q I h => wpAny_Call_Name_kw (ld_glob I hg hm ?_ hdb)⟩
  refine PySem.W.callWith_K (h₀ := X.base) I.ok.mod.kin hk ?_ he hpl
  exact thn (ha.run pos pins s σ H _ I h) fun us s1 ⟨vs, H1, I1, r, q⟩ => ⟨I1.kIn, run_prom0 F hr hb (hx σ) I1 r q⟩
end
/-! ### the head of a law -/
theorem law_prom {P : Program} {w : World} {K : PySem.W.Frag} {mg mb : Str → Option Value} {k : Nat} {fa a : Addr} {fd : FuncData} {x : Str} {sp : Sp} {s₁ : Shared} {vs : List Value} {ns : List Int}
    (KX : K.In s₁.heap) (hns : s₁.heap.Ns mainGlobals mg) (hb : s₁.heap.Ns builtinsNs mb) (hbb : ∀ x : Str, x ≠ "__name__" → mb x = bootBuiltins x) (hlim : s₁.heap.NoLimit) (hg : s₁.gens = #[])
    (ha : s₁.heap.get? a = some { cls := .type "list", data := .seq vs.toArray }) (hi : IntsAre vs ns) (hl : ns.length ≤ sizeLine) (hr : Roomy k callerA)
    (F : ∀ base : Heap, K.In base → base.Ns mainGlobals mg → Prom P w K mg base k fa fd [x] sp) (hbind : ∀ (s : Shared) (u : Value), BindsTo s fd ⟨[u], []⟩ [(x, u)])
    (hsp : ∀ H : Hp, Only H → SqL K H a (ns.map V.int) → sp [.ref a] H (fun v _ => v = .bl true) fun _ _ _ => False)
    (hCX : ∀ H e s', L2.CX P w [] H s₁ (fun _ _ _ => False) e s' → False) :
    codeAny (model P w) callerA (.call (.ref fa) ⟨[.ref a], []⟩) (fun r s' => r = .ok (.ret (.bool true)) ∧ OldK s₁.heap s'.heap ∧ s'.os = s₁.os ∧ AllBare s'.gens) s₁ := by
  have rv := vals_ints hi
  have lenV := hi.length
  have core : ∀ H : Hp, Only H → SqL K H a (ns.map V.int) → HOk P w H s₁.heap → (∀ b, H b ≠ none → b = a) → (H a ≠ none → K.lookup a = none) →
      codeAny (model P w) callerA (.call (.ref fa) ⟨[.ref a], []⟩) (fun r s' => r = .ok (.ret (.bool true)) ∧ OldK s₁.heap s'.heap ∧ s'.os = s₁.os ∧ AllBare s'.gens) s₁ := by
    intro H hO hS hok hA hK
    have noA : ∀ {b : Addr} {o : Obj} {es : Array DictEntry} {ep : Nat}, s₁.heap.get? b = some o → o.data = .dict es ep → H b = none := by
      intro b o es ep e d
      cases q : H b with
      | none => rfl
      | some u =>
        obtain rfl : b = a := hA b (by rw [q]; simp)
        rw [ha] at e; cases e
        have d' : Data.seq vs.toArray _ = Data.dict es ep := d
        cases d'
    have nsK : ∀ {b : Addr} {m : Str → Option Value}, s₁.heap.Ns b m → (hidT s₁.heap H).Ns b m := fun {b m} ⟨o, es, ep, e, d, r⟩ => ⟨o, es, ep, hidT_get e (noA e d), d, r⟩
    have hKb : K.In (hidT s₁.heap H) := by
      intro b o e
      refine hidT_get (KX b o e) ?_
      cases q : H b with
      | none => rfl
      | some u =>
        obtain rfl : b = a := hA b (by rw [q]; simp)
        rw [hK (by rw [q]; simp)] at e; cases e
    have hM : Mod K mg (hidT s₁.heap H) := ⟨hKb, nsK hns, ⟨mb, nsK hb, hbb⟩, let ⟨mc, h1, h2⟩ := hlim; ⟨mc, nsK h1, h2⟩⟩
    have e0 : Env0 P w K mg (hidT s₁.heap H) callerA [] s₁ H := ⟨rfl, hM, fun b o e => of_hidT e, Nat.le_of_eq (hidT_size _ _), trivial, fun b hb => absurd (show b ∈ ([] : List Addr) from hb) (by simp), hok, .of_eq hg⟩
    refine codeAny_mono ((F _ hKb (nsK hns)).run callerA [] s₁ H ⟨[.ref a], []⟩ [.ref a] [.ref a] _ _ hr e0 (hbind s₁ (.ref a)) (.cons rfl .nil) (hsp H hO hS)) ?_
    intro r s' h
    match r, h with
    | .error e, h => exact (hCX H e s' h).elim
    | .ok .next, h => exact h.elim
    | .ok .brk, h => exact h.elim
    | .ok .cont, h => exact h.elim
    | .ok (.ret u), ⟨v, H', os, bare, un, hok', r', q⟩ =>
      obtain rfl : v = V.bl true := q
      obtain rfl : u = Value.bool true := r'
      refine ⟨rfl, OldK.of_keep ?_, os, bare⟩
      intro b o e
      cases q : H b with
      | none => exact un.keep b o e q (by intro z; exact absurd (show b ∈ ([] : List Addr) from z) (by simp)) (by simp)
      | some u =>
        rcases hO b with z | ⟨ob, xs, z⟩
        · rw [q] at z; cases z
        · obtain ⟨e1, _⟩ := hok b _ z
          obtain ⟨e2, _⟩ := hok' b _ (un.frzs b ob _ z)
          rw [e] at e1; cases e1
          exact e2
  cases hk : K.lookup a with
  | some o =>
    have e := KX a o hk
    rw [ha] at e
    cases e
    refine core (fun _ => none) (fun _ => .inl rfl) (.inr ⟨_, vs.toArray, _, hk, rfl, rfl, rfl, by rw [List.size_toArray, lenV]; exact hl, by simpa using rv⟩) ?_ (fun b z => absurd rfl z) (fun z => absurd rfl z)
    intro b u z
    have z' : (none : Option HO) = some u := z
    cases z'
  | none =>
    refine core (fun b => if b = a then some (.frz { cls := .type "list", data := .seq vs.toArray } (.lst (ns.map V.int))) else none) ?_ (.inl (.inr ⟨{ cls := .type "list", data := .seq vs.toArray }, if_pos rfl⟩)) ?_ ?_ (fun _ => hk)
    · intro b
      by_cases hb : b = a
      · exact .inr ⟨_, _, if_pos hb⟩
      · exact .inl (if_neg hb)
    · intro b u z
      by_cases hb : b = a
      · have z' := (if_pos hb).symm.trans z
        cases z'
        subst hb
        exact ⟨ha, by rw [List.length_map]; exact hl, vs, _, rv, ha⟩
      · have z' := (if_neg hb).symm.trans z
        cases z'
    · intro b z
      by_cases hb : b = a
      · exact hb
      · exact absurd (if_neg hb) z
theorem walk_prom {l : PySem.W.OpenLaw} {n k : Nat} {q : Program} {loose : List Str} {XP : (Str → Option Value) → Heap → Prop} {YP : World → Heap → Prop} {d : DefRec} {K : Params → PySem.W.Frag} {sp : World → Sp} {x : Str}
    (hn : l.most = some n) (hn2 : n ≤ sizeLine) (hdf : d.params.defaults = []) (hr : Roomy k callerA)
    (hY : ∀ (w : World) (h : Heap), YP w h → (K w.params).In h)
    (F : ∀ (w : World) (mg : Str → Option Value) (fa : Addr) (h : Heap), (K w.params).In h → h.Ns mainGlobals mg → mg d.name = some (.ref fa) →
      ∃ fd : FuncData, (∀ (s : Shared) (u : Value), BindsTo s fd ⟨[u], []⟩ [(x, u)]) ∧
        ∀ base : Heap, (K w.params).In base → base.Ns mainGlobals mg → Prom l.prog w (K w.params) mg base k fa fd [x] (sp w))
    (hsp : ∀ (w : World) (H : Hp) (a : Addr) (ns : List Int), ns.length ≤ n → Only H → SqL (K w.params) H a (ns.map V.int) → sp w [.ref a] H (fun v _ => v = .bl true) fun _ _ _ => False)
    (hCX : ∀ (w : World) (H : Hp) (s : Shared) (e : Value) (s' : Shared), L2.CX l.prog w [] H s (fun _ _ _ => False) e s' → False) :
    PySem.W.WalkO q loose XP YP l.row.toRowW d [] (fun f vs => PySem.call f vs) := by
  refine Att.attach_call hn hdf ?_
  intro w s₀ s₁ mg mb fa o pm cd doc a vs ns G Y ho hd hcd hmg hobj hints hlen hg
  have KX := hY w _ Y
  obtain ⟨fd, hb, hF⟩ := F w mg fa _ KX G.T.g hmg
  exact law_prom KX G.T.g G.T.b G.T.builtins G.T.nolimit hg hobj hints (Nat.le_trans hlen hn2) hr hF hb (fun H hO hS => hsp w H a ns hlen hO hS) fun H e s' => hCX w H s₁ e s'
theorem cx_never {P : Program} {w : World} {H : Hp} {s : Shared} {e : Value} {s' : Shared} (h : L2.CX P w [] H s (fun _ _ _ => False) e s') : False := by
  obtain ⟨_, _, _, _, _, _, _, _, _, _, _, _, z⟩ := h
  exact z
end Py
end
section
set_option Elab.async false
set_option linter.all false
set_option maxRecDepth 100000
namespace Py
open PySem PySem.Spec PyProof.Rows L2
/-! ### functions -/
/-- the arguments, and where the lent cells are -/
inductive ArgsAt (K : PySem.W.Frag) (mg : Str → Option Value) (B H : Hp) : List V → List Arg → List Addr → Prop
  | nil : ArgsAt K mg B H [] [] []
  | a {v : V} {vs : List V} {d : D} {as : List Arg} {ls : List Addr} : Den K mg B v d → ArgsAt K mg B H vs as ls → ArgsAt K mg B H (v :: vs) (.a d :: as) ls
  | l {a : Addr} {vs : List V} {c : Cell} {as : List Arg} {ls : List Addr} : CellAt K mg B H a c → B a = none → a ∉ ls → ArgsAt K mg B H vs as ls → ArgsAt K mg B H (.ref a :: vs) (.l c :: as) (a :: ls)
/-- lent cells, as they come back -/
def CellsAt (K : PySem.W.Frag) (mg : Str → Option Value) (B H : Hp) (ls : List Addr) (cs : List Cell) : Prop := Paired (fun a c => B a = none ∧ CellAt K mg B H a c) ls cs
structure ExtF (ls : List Addr) (B H B' H' : Hp) : Prop where
  b : Same B B'
  h : ∀ a o, H a = some o → a ∉ ls → H' a = some o
  n : ∀ a o, B' a = some o → B a = some o ∨ H a = none
  t : ∀ a o, H a = some o → ∃ o', H' a = some o'
  e : Same B' H'
def DenR (K : PySem.W.Frag) (mg : Str → Option Value) (H0 B H : Hp) (v : V) : W → Prop
  | .d x => Den K mg B v x
  | .fr c => ∃ a, v = .ref a ∧ H0 a = none ∧ B a = none ∧ CellAt K mg B H a c
  | .pl _ => False
/-- the promise of a def whose meaning is g -/
def spM (K : PySem.W.Frag) (mg : Str → Option Value) (P : Nat) (g : Fn) : Sp := fun vs H Q E => ∃ as ls B, Same B H ∧ ArgsAt K mg B H vs as ls ∧ as.length = P ∧ match g as with
  | .ok r cs => ∀ v B' H', ExtF ls B H B' H' → CellsAt K mg B' H' ls cs → DenR K mg H B' H' v r → Q v H'
  | .exc x cs => ∀ cls d B' H', ExtF ls B H B' H' → CellsAt K mg B' H' ls cs → DenX K mg H B' H' cls d x → E cls d H'
  | .fail => False
section
variable {K : PySem.W.Frag} {mg : Str → Option Value} {B H B' H' : Hp}
theorem ArgsAt.len : ∀ {vs : List V} {as : List Arg} {ls : List Addr}, ArgsAt K mg B H vs as ls → vs.length = as.length
  | _, _, _, .nil => rfl
  | _, _, _, .a _ r => by rw [List.length_cons, List.length_cons, r.len]
  | _, _, _, .l _ _ _ r => by rw [List.length_cons, List.length_cons, r.len]
theorem ArgsAt.lentLen : ∀ {vs : List V} {as : List Arg} {ls : List Addr}, ArgsAt K mg B H vs as ls → (lentOf as).length = ls.length
  | _, _, _, .nil => rfl
  | _, _, _, .a _ r => r.lentLen
  | _, _, _, .l _ _ _ r => by show (lentOf _).length + 1 = _; rw [r.lentLen]; rfl
theorem ArgsAt.nodup : ∀ {vs : List V} {as : List Arg} {ls : List Addr}, ArgsAt K mg B H vs as ls → ls.Nodup
  | _, _, _, .nil => List.nodup_nil
  | _, _, _, .a _ r => r.nodup
  | _, _, _, .l _ _ h r => List.nodup_cons.mpr ⟨h, r.nodup⟩
theorem ArgsAt.at : ∀ {vs : List V} {as : List Arg} {ls : List Addr}, ArgsAt K mg B H vs as ls → ∀ (k : Nat) a, ls[k]? = some a → B a = none ∧ ∃ c, (lentOf as)[k]? = some (Sl.lent c) ∧ CellAt K mg B H a c
  | _, _, _, .nil, k, b, h => by simp at h
  | _, _, _, .a _ r, k, b, h => r.at k b h
  | _, _, _, .l (c := c) h1 h2 _ r, 0, b, h => by
    simp only [List.getElem?_cons_zero, Option.some.injEq] at h
    subst h
    exact ⟨h2, c, rfl, h1⟩
  | _, _, _, .l h1 h2 _ r, k + 1, b, h => by
    simp only [List.getElem?_cons_succ] at h
    exact r.at k b h
theorem argSlots_len : ∀ (N : Nat) (as : List Arg) (k : Nat), (argSlots N as k).length = as.length
  | N, [], k => rfl
  | N, .a _ :: as, k => by show (argSlots N as k).length + 1 = _; rw [argSlots_len]; rfl
  | N, .l _ :: as, k => by show (argSlots N as (k + 1)).length + 1 = _; rw [argSlots_len]; rfl
/-- what the i-th argument's slot is -/
theorem ArgsAt.slot {N : Nat} : ∀ {vs : List V} {as : List Arg} {ls : List Addr} {k : Nat}, ArgsAt K mg B H vs as ls → ∀ (i : Nat) (s : Sl), (argSlots N as k)[i]? = some s →
    (∃ v d, vs[i]? = some v ∧ s = Sl.val d ∧ Den K mg B v d) ∨ ∃ (j : Nat) (a : Addr), s = Sl.al (N + k + j) ∧ ls[j]? = some a ∧ vs[i]? = some (V.ref a)
  | _, _, _, k, .nil, i, s, h => by simp [argSlots] at h
  | _, _, _, k, .a h1 r, 0, s, h => by
    simp only [argSlots, List.getElem?_cons_zero, Option.some.injEq] at h
    exact .inl ⟨_, _, rfl, h.symm, h1⟩
  | _, _, _, k, .a h1 r, i + 1, s, h => by
    simp only [argSlots, List.getElem?_cons_succ] at h
    exact r.slot i s h
  | _, _, _, k, .l h1 h2 h3 r, 0, s, h => by
    simp only [argSlots, List.getElem?_cons_zero, Option.some.injEq] at h
    exact .inr ⟨0, _, h.symm, rfl, rfl⟩
  | _, _, _, k, .l h1 h2 h3 r, i + 1, s, h => by
    simp only [argSlots, List.getElem?_cons_succ] at h
    rcases r.slot i s h with z | ⟨j, a, e1, e2, e3⟩
    · exact .inl z
    · exact .inr ⟨j + 1, a, by rw [e1]; congr 1; omega, by simpa using e2, by simpa using e3⟩
abbrev startMu (N : Nat) (ls : List Addr) : Mu := fun i => if N ≤ i then ls[i - N]? else none
theorem rel_start {Ns : List Str} {vs : List V} {as : List Arg} {ls : List Addr} (ex : Same B H) (h : ArgsAt K mg B H vs as ls) (hl : as.length ≤ Ns.length) : Rel K mg Ns.length (start Ns.length as) (startMu Ns.length ls) B H (L2.start Ns vs) := by
  have l1 : (argSlots Ns.length as 0).length = as.length := argSlots_len _ _ _
  have l2 : (argSlots Ns.length as 0 ++ List.replicate (Ns.length - as.length) Sl.un).length = Ns.length := by rw [List.length_append, l1, List.length_replicate]; omega
  have l3 : (start Ns.length as).length = Ns.length + ls.length := by
    unfold start
    rw [List.length_append, l2, h.lentLen]
  have lo : ∀ (i : Nat) (s : Sl), i < Ns.length → (start Ns.length as)[i]? = some s → (i < as.length ∧ (argSlots Ns.length as 0)[i]? = some s) ∨ (as.length ≤ i ∧ s = .un) := fun i s hi q => by
    unfold start at q
    rw [List.getElem?_append_left (by rw [l2]; exact hi)] at q
    by_cases hz : i < as.length
    · rw [List.getElem?_append_left (by rw [l1]; exact hz)] at q
      exact .inl ⟨hz, q⟩
    · rw [List.getElem?_append_right (by rw [l1]; omega), List.getElem?_replicate] at q
      rw [if_pos (by rw [l1]; omega)] at q
      cases q
      exact .inr ⟨by omega, rfl⟩
  have hi : ∀ (i : Nat) (s : Sl), Ns.length ≤ i → (start Ns.length as)[i]? = some s → (lentOf as)[i - Ns.length]? = some s := fun i s hi q => by
    unfold start at q
    rw [List.getElem?_append_right (by rw [l2]; exact hi), l2] at q
    exact q
  have al : ∀ (i k : Nat), (start Ns.length as)[i]? = some (Sl.al k) → Ns.length ≤ k ∧ k < (start Ns.length as).length := fun i k q => by
    by_cases hN : i < Ns.length
    · rcases lo i _ hN q with ⟨_, q⟩ | ⟨_, q⟩
      · rcases h.slot i _ q with ⟨v, d, _, e, _⟩ | ⟨j, a, e, e2, _⟩
        · cases e
        · cases e
          have := (List.getElem?_eq_some_iff.mp e2).1
          rw [l3]
          omega
      · cases q
    · have q2 := hi i _ (by omega) q
      have := (List.getElem?_eq_some_iff.mp q2).1
      rw [h.lentLen] at this
      obtain ⟨_, c, e, _⟩ := h.at (i - Ns.length) ls[i - Ns.length] (List.getElem?_eq_getElem this)
      rw [q2] at e
      cases e
  refine ⟨?_, by rw [l3]; omega, ex, fun i s q => ?_, fun i hj => ?_, fun i j a h1 h2 => ?_, fun i s hN q => ?_, fun i s hN q => ?_, al⟩
  · unfold L2.start
    rw [List.length_append, List.length_map, List.length_replicate, h.len]
    omega
  · by_cases hN : i < Ns.length
    · have hm : startMu Ns.length ls i = none := if_neg (by omega)
      rcases lo i s hN q with ⟨_, q⟩ | ⟨_, rfl⟩
      · rcases h.slot i s q with ⟨v, d, _, rfl, _⟩ | ⟨j, a, rfl, _, _⟩ <;> exact hm
      · exact hm
    · have q2 := hi i s (by omega) q
      have hl2 := (List.getElem?_eq_some_iff.mp q2).1
      rw [h.lentLen] at hl2
      obtain ⟨e1, c, e, e3⟩ := h.at (i - Ns.length) ls[i - Ns.length] (List.getElem?_eq_getElem hl2)
      rw [q2] at e
      cases e
      exact ⟨_, by show (if Ns.length ≤ i then ls[i - Ns.length]? else none) = _; rw [if_pos (by omega)]; exact List.getElem?_eq_getElem hl2, e1, e3⟩
  · rw [l3] at hj
    show (if Ns.length ≤ i then ls[i - Ns.length]? else none) = none
    rw [if_pos (by omega)]
    exact List.getElem?_eq_none (by omega)
  · have g : ∀ i, startMu Ns.length ls i = some a → Ns.length ≤ i ∧ ls[i - Ns.length]? = some a := fun i z => by
      by_cases hN : Ns.length ≤ i
      · simp only [startMu, if_pos hN] at z; exact ⟨hN, z⟩
      · simp only [startMu, if_neg hN] at z; cases z
    obtain ⟨g1, g2⟩ := g i h1
    obtain ⟨g3, g4⟩ := g j h2
    obtain ⟨k1, k2⟩ := List.getElem?_eq_some_iff.mp g2
    obtain ⟨k3, k4⟩ := List.getElem?_eq_some_iff.mp g4
    have := (List.getElem_inj h.nodup).mp (k2.trans k4.symm)
    omega
  · rcases lo i s hN q with ⟨hz, q⟩ | ⟨hz, rfl⟩
    · have sg : ∀ v, vs[i]? = some v → (L2.start Ns vs)[i]? = some (some v) := fun v e => by
        unfold L2.start
        have := (List.getElem?_eq_some_iff.mp e).1
        rw [List.getElem?_append_left (by rw [List.length_map]; exact this), List.getElem?_map, e]
        rfl
      rcases h.slot i s q with ⟨v, d, e1, rfl, e2⟩ | ⟨j, a, rfl, e1, e2⟩
      · exact ⟨v, sg v e1, e2⟩
      · refine ⟨a, ?_, sg _ e2⟩
        show (if Ns.length ≤ Ns.length + 0 + j then ls[Ns.length + 0 + j - Ns.length]? else none) = some a
        rw [if_pos (by omega), show Ns.length + 0 + j - Ns.length = j by omega]
        exact e1
    · trivial
  · have q2 := hi i s hN q
    have hl2 := (List.getElem?_eq_some_iff.mp q2).1
    rw [h.lentLen] at hl2
    obtain ⟨_, c, e, _⟩ := h.at (i - Ns.length) ls[i - Ns.length] (List.getElem?_eq_getElem hl2)
    rw [q2] at e
    cases e
    exact ⟨c, rfl⟩
theorem cellsOf_get : ∀ {e : List Sl} {cs : List Cell}, cellsOf e = some cs → e.length = cs.length ∧ ∀ (k : Nat) (c : Cell), cs[k]? = some c → e[k]? = some (Sl.lent c)
  | [], cs, h => by cases h; exact ⟨rfl, fun k c q => by simp at q⟩
  | .lent c :: r, cs, h => by
    rw [cellsOf] at h
    cases q : cellsOf r with
    | none => rw [q] at h; cases h
    | some ds =>
      rw [q] at h
      cases h
      obtain ⟨h1, h2⟩ := cellsOf_get q
      refine ⟨by rw [List.length_cons, List.length_cons, h1], fun k c' z => ?_⟩
      cases k with
      | zero => simpa using z
      | succ k => exact h2 k c' (by simpa using z)
  | .un :: _, _, h => by cases h
  | .val _ :: _, _, h => by cases h
  | .own _ :: _, _, h => by cases h
  | .al _ :: _, _, h => by cases h
theorem paired_of {α β : Type} {F : α → β → Prop} : ∀ {xs : List α} {ys : List β}, xs.length = ys.length → (∀ (k : Nat) x y, xs[k]? = some x → ys[k]? = some y → F x y) → Paired F xs ys
  | [], [], _, _ => .nil
  | [], _ :: _, h, _ => by cases h
  | _ :: _, [], h, _ => by cases h
  | x :: xs, y :: ys, h, f => .cons (f 0 x y rfl rfl) (paired_of (by simpa using h) fun k a b h1 h2 => f (k + 1) a b (by simpa using h1) (by simpa using h2))
/-- a frame's end -/
theorem frame_end {N : Nat} {ls : List Addr} {e' : Env} {μ' : Mu} {σ' : L2.St} {cs : List Cell} (r : Rel K mg N e' μ' B' H' σ') (x : Ext N (startMu N ls) B H μ' B' H') (q : cellsOf (e'.drop N) = some cs) : ExtF ls B H B' H' ∧ CellsAt K mg B' H' ls cs := by
  obtain ⟨h1, h2⟩ := cellsOf_get q
  rw [List.length_drop] at h1
  have hle := r.le
  have mu : ∀ (k : Nat), μ' (N + k) = ls[k]? := fun k => by
    rw [x.l (N + k) (by omega)]
    show (if N ≤ N + k then ls[N + k - N]? else none) = _
    rw [if_pos (by omega), show N + k - N = k by omega]
  have at_ : ∀ (k : Nat) (c : Cell), cs[k]? = some c → ∃ a, ls[k]? = some a ∧ B' a = none ∧ CellAt K mg B' H' a c := fun k c z => by
    have e1 := h2 k c z
    rw [List.getElem?_drop] at e1
    obtain ⟨a, h3, h4, h5⟩ := r.cell (N + k) _ e1
    rw [mu] at h3
    exact ⟨a, h3, h4, h5⟩
  have ll : ls.length = cs.length := by
    rcases Nat.lt_trichotomy ls.length cs.length with z | z | z
    · obtain ⟨a, h3, _⟩ := at_ ls.length cs[ls.length] (List.getElem?_eq_getElem z)
      rw [List.getElem?_eq_none (Nat.le_refl _)] at h3; cases h3
    · exact z
    · have h3 := mu cs.length
      rw [r.out (N + cs.length) (by omega), List.getElem?_eq_getElem z] at h3
      cases h3
  have pa : CellsAt K mg B' H' ls cs := paired_of ll fun k a c e1 e2 => by
    obtain ⟨a', h3, h4, h5⟩ := at_ k c e2
    rw [e1] at h3; cases h3
    exact ⟨h4, h5⟩
  refine ⟨⟨x.b, fun a o e nm => x.h a o e fun i z => ?_, fun a o e => ?_, x.t, r.ex⟩, pa⟩
  · by_cases hN : N ≤ i
    · simp only [startMu, if_pos hN] at z
      exact nm (List.mem_of_getElem? z)
    · simp only [startMu, if_neg hN] at z; cases z
  · rcases x.n a o e with z | z | ⟨j, z⟩
    · exact .inl z
    · exact .inr z
    · by_cases hN : N ≤ j
      · simp only [startMu, if_pos hN] at z
        have hj := (List.getElem?_eq_some_iff.mp z).1
        obtain ⟨a', h3, h4, h5⟩ := at_ (j - N) cs[j - N] (List.getElem?_eq_getElem (by omega))
        rw [z] at h3; cases h3
        rw [h4] at e; cases e
      · simp only [startMu, if_neg hN] at z; cases z
end
/-- THE RULE for a def -/
theorem fn_ok {P : Program} {w : World} {K : PySem.W.Frag} {mg : Str → Option Value} {base : Heap} {x qual : Str} {st : Stmt} {f : Addr} {fd : FuncData} {N ps : List Str} {k : Nat} {body : M Ctl} (F : Fun K x qual st f fd) (S : FnScope N ps (defScope st))
    (hbody : ∀ (cdv : Value) (A : Around) (outer : List PySem.Env) (s : Shared) (H : Hp) (E : XK), Roomy k (A.deeper (envOfC qual (defScope st) s.heap.objs.size f cdv)) →
      SSs (cxOf (L2.CX P w) P w K mg base N qual (defScope st) f cdv A outer s H E) (fun cls d _ H => E cls d H) (defBody st) body) : Prom P w K mg base (k + 1) f fd ps (spM K mg ps.length (mkFn N.length ps.length body)) := by
  refine prom_of F S (fun vs H Q E h => ?_) (fun cdv A outer s H vs Q E hr h => ?_)
  · obtain ⟨as, ls, B, _, h1, h2, _⟩ := h
    rw [h1.len, h2]
  · obtain ⟨as, ls, B, ex, h1, h2, h3⟩ := h
    obtain ⟨ts, pp, ss⟩ := (hbody cdv A outer s H E hr).ex
    refine ⟨ts, pp, ?_⟩
    by_cases hN : ps.length ≤ N.length
    · refine ss _ _ B H _ _ (rel_start ex h1 (by rw [h2]; exact hN)) ?_
      show PostS K mg N.length (fun cls d _ H => E cls d H) (startMu N.length ls) B H { nx := fun _ H' => Q .non H', rt := Q } (body (start N.length as))
      unfold mkFn at h3
      rw [if_pos ⟨h2, hN⟩] at h3
      cases q : body (start N.length as) with
      | fail => rw [q] at h3; exact h3.elim
      | exc xx e' =>
        rw [q] at h3
        intro cls d σ' μ' B' H' x1 r1 dx
        simp only at h3
        cases q2 : cellsOf (e'.drop N.length) with
        | none => rw [q2] at h3; exact h3.elim
        | some cs =>
          rw [q2] at h3
          obtain ⟨k1, k2⟩ := frame_end r1 x1 q2
          exact h3 cls d B' H' k1 k2 dx
      | ok c e' =>
        rw [q] at h3
        cases c with
        | brk => exact h3.elim
        | cont => exact h3.elim
        | next =>
          intro σ' μ' B' H' x1 r1
          simp only at h3
          cases q2 : cellsOf (e'.drop N.length) with
          | none => rw [q2] at h3; exact h3.elim
          | some cs =>
            rw [q2] at h3
            obtain ⟨k1, k2⟩ := frame_end r1 x1 q2
            exact h3 .non B' H' k1 k2 .non
        | ret ww =>
          intro v σ' μ' B' H' x1 r1 dw
          simp only at h3
          cases q1 : leave ww e' with
          | none => rw [q1] at h3; exact h3.elim
          | some rr =>
            cases q2 : cellsOf (e'.drop N.length) with
            | none => rw [q1, q2] at h3; exact h3.elim
            | some cs =>
              rw [q1, q2] at h3
              obtain ⟨k1, k2⟩ := frame_end r1 x1 q2
              refine h3 v B' H' k1 k2 ?_
              cases ww with
              | d y => cases q1; exact dw
              | fr c =>
                cases q1
                obtain ⟨a, g1, g2, g3, _, g4⟩ := dw
                exact ⟨a, g1, g2, g3, g4⟩
              | pl i =>
                simp only [leave] at q1
                split at q1
                · rename_i c hs
                  cases q1
                  obtain ⟨a, g1, g2, g3, g4⟩ := cell_at (X := cxOf (L2.CX P w) P w K mg base N qual (defScope st) f cdv A outer s H E) r1 dw hs (.inl rfl)
                  refine ⟨a, g1, ?_, g3, g4⟩
                  rcases x1.m i a g2 with ⟨j, z⟩ | z
                  · exfalso
                    by_cases hj : N.length ≤ j
                    · have := (x1.l j hj).trans z
                      have e := r1.inj i j a g2 this
                      subst e
                      obtain ⟨c', e'⟩ := r1.hid i _ hj hs
                      cases e'
                    · simp only [startMu, if_neg hj] at z; cases z
                  · exact z
                · rename_i d' hs
                  cases q1
                  have hi : i < N.length := by
                    rcases Nat.lt_or_ge i N.length with y | y
                    · exact y
                    · obtain ⟨c', e⟩ := r1.hid i _ y hs; cases e
                  obtain ⟨v', g1, g2⟩ := r1.name i _ hi hs
                  rcases dw with ⟨_, y⟩ | ⟨y, _⟩
                  · rw [g1] at y; cases y; exact g2
                  · exact absurd y (by show ¬ N.length ≤ i; omega)
                · cases q1
    · unfold mkFn at h3
      rw [if_neg (fun z => hN z.2)] at h3
      exact h3.elim
/-! ### calls -/
theorem back_len : ∀ (is : List Nat) (cs : List Cell) (e : Env), (back is cs e).length = e.length
  | [], _, _ => rfl
  | _ :: _, [], _ => rfl
  | i :: is, c :: cs, e => by
    show (match e[i]? with | some s => back is cs (e.set i (recell c s)) | none => back is cs e).length = _
    split
    · rw [back_len, List.length_set]
    · exact back_len _ _ _
theorem back_out : ∀ (is : List Nat) (cs : List Cell) (e : Env) (j : Nat), j ∉ is → (back is cs e)[j]? = e[j]?
  | [], _, _, _, _ => rfl
  | _ :: _, [], _, _, _ => rfl
  | i :: is, c :: cs, e, j, h => by
    have h1 : j ≠ i := fun z => h (by simp [z])
    have h2 : j ∉ is := fun z => h (List.mem_cons_of_mem _ z)
    show (match e[i]? with | some s => back is cs (e.set i (recell c s)) | none => back is cs e)[j]? = _
    split
    · rw [back_out is cs _ j h2, List.getElem?_set_ne (Ne.symm h1)]
    · exact back_out is cs _ j h2
theorem back_at : ∀ (is : List Nat) (cs : List Cell) (e : Env) (k j : Nat) (c : Cell), is.Nodup → is[k]? = some j → cs[k]? = some c → (back is cs e)[j]? = (e[j]?).map (recell c)
  | [], _, _, _, _, _, _, h, _ => by simp at h
  | _ :: _, [], _, _, _, _, _, _, h => by simp at h
  | i :: is, d :: cs, e, 0, j, c, nd, h1, h2 => by
    simp only [List.getElem?_cons_zero, Option.some.injEq] at h1 h2
    subst h1 h2
    have hn : i ∉ is := (List.nodup_cons.mp nd).1
    show (match e[i]? with | some s => back is cs (e.set i (recell d s)) | none => back is cs e)[i]? = _
    split
    · rename_i s q
      rw [back_out is cs _ i hn, List.getElem?_set_self (List.getElem?_eq_some_iff.mp q).1, q]
      rfl
    · rename_i q
      rw [back_out is cs _ i hn, q]
      rfl
  | i :: is, d :: cs, e, k + 1, j, c, nd, h1, h2 => by
    simp only [List.getElem?_cons_succ] at h1 h2
    have hn := List.nodup_cons.mp nd
    have hj : j ≠ i := fun z => hn.1 (z ▸ List.mem_of_getElem? h1)
    show (match e[i]? with | some s => back is cs (e.set i (recell d s)) | none => back is cs e)[j]? = _
    split
    · rw [back_at is cs _ k j c hn.2 h1 h2, List.getElem?_set_ne (Ne.symm hj)]
    · exact back_at is cs _ k j c hn.2 h1 h2
section
variable {X : Cx} {Wx : WX} {e a b c : Expr} {es : List Expr} {ma mb mc : M W} {pos : Pos} {μ : Mu} {B H : Hp} {σ : L2.St} {env : Env}
theorem lend_args {H0 : Hp} (r : Rel X.K X.mg X.N.length env μ B H σ) : ∀ {vs : List V} {ws : List W} {ms : List Bool} {as : List Arg}, dA X H0 μ B H σ vs ws → lend ws ms env = some as → (pls ws).Nodup →
    ∃ ls, ArgsAt X.K X.mg B H vs as ls ∧ Paired (fun i a => μ i = some a ∧ ∃ s c, env[i]? = some s ∧ (s = Sl.own c ∨ s = Sl.lent c)) (pls ws) ls
  | _, _, ms, as, .nil, q, _ => by
    cases q
    exact ⟨[], .nil, .nil⟩
  | _, _, ms, as, .cons (a := v) (b := w) (l₁ := vs) (l₂ := ws) h t, q, nd => by
    cases w with
    | fr c => cases ms <;> (try cases q) <;> (rename_i m ms; cases m <;> cases q)
    | d x =>
      have q' : (lend ws ms.tail env).map (Arg.a x :: ·) = some as := by
        cases ms with
        | nil => exact q
        | cons m ms => cases m <;> exact q
      cases z : lend ws ms.tail env with
      | none => rw [z] at q'; cases q'
      | some bs =>
        rw [z] at q'
        cases q'
        obtain ⟨ls, h1, h2⟩ := lend_args r t z nd
        exact ⟨ls, .a h h1, h2⟩
    | pl i =>
      cases ms with
      | nil => cases q
      | cons m ms =>
        cases m with
        | false => cases q
        | true =>
          have nd' := List.nodup_cons.mp nd
          have go : ∀ s c, env[i]? = some s → (s = Sl.own c ∨ s = Sl.lent c) → (lend ws ms env).map (Arg.l c :: ·) = some as → ∃ ls, ArgsAt X.K X.mg B H (v :: vs) as ls ∧ Paired (fun i a => μ i = some a ∧ ∃ s c, env[i]? = some s ∧ (s = Sl.own c ∨ s = Sl.lent c)) (pls (W.pl i :: ws)) ls := fun s c hs hc q' => by
            cases z : lend ws ms env with
            | none => rw [z] at q'; cases q'
            | some bs =>
              rw [z] at q'
              cases q'
              obtain ⟨ls, h1, h2⟩ := lend_args r t z nd'.2
              obtain ⟨a, rfl, hm, hB, hca⟩ := cell_at r h hs hc
              refine ⟨a :: ls, .l hca hB (fun hin => ?_) h1, .cons ⟨hm, s, c, hs, hc⟩ h2⟩
              obtain ⟨k, hk⟩ := List.mem_iff_getElem?.mp hin
              have hl : (pls ws).length = ls.length := Paired.length h2
              have hk2 : k < (pls ws).length := by rw [hl]; exact (List.getElem?_eq_some_iff.mp hk).1
              have pg : ∀ {is : List Nat} {ls : List Addr} {k : Nat} {j : Nat} {a : Addr}, Paired (fun i a => μ i = some a ∧ ∃ s c, env[i]? = some s ∧ (s = Sl.own c ∨ s = Sl.lent c)) is ls → is[k]? = some j → ls[k]? = some a → μ j = some a := fun {is} => by
                induction is with
                | nil => intro ls k j a hp h1 h2; simp at h1
                | cons i is ih =>
                  intro ls k j a hp h1 h2
                  cases hp with
                  | cons p ps =>
                    cases k with
                    | zero =>
                      simp only [List.getElem?_cons_zero, Option.some.injEq] at h1 h2
                      subst h1 h2
                      exact p.1
                    | succ k => exact ih ps (by simpa using h1) (by simpa using h2)
              have := pg h2 (List.getElem?_eq_getElem hk2) hk
              have e := r.inj i _ a hm this
              exact nd'.1 (by rw [e]; exact List.getElem_mem hk2)
          simp only [lend] at q
          split at q
          · rename_i c hs; exact go _ c hs (.inl rfl) q
          · rename_i c hs; exact go _ c hs (.inr rfl) q
          · cases q
theorem paired_at {α β : Type} {F : α → β → Prop} : ∀ {xs : List α} {ys : List β} {k : Nat} {y : β}, Paired F xs ys → ys[k]? = some y → ∃ x, xs[k]? = some x ∧ F x y
  | _, _, _, _, .nil, h => by simp at h
  | _, _, 0, y, .cons p _, h => by
    simp only [List.getElem?_cons_zero, Option.some.injEq] at h
    subst h
    exact ⟨_, rfl, p⟩
  | _, _, k + 1, y, .cons _ ps, h => by
    simp only [List.getElem?_cons_succ] at h
    obtain ⟨x, h1, h2⟩ := paired_at ps h
    exact ⟨x, by simpa using h1, h2⟩
theorem paired_atL {α β : Type} {F : α → β → Prop} : ∀ {xs : List α} {ys : List β} {k : Nat} {x : α}, Paired F xs ys → xs[k]? = some x → ∃ y, ys[k]? = some y ∧ F x y
  | _, _, _, _, .nil, h => by simp at h
  | _, _, 0, y, .cons p _, h => by
    simp only [List.getElem?_cons_zero, Option.some.injEq] at h
    subst h
    exact ⟨_, rfl, p⟩
  | _, _, k + 1, y, .cons _ ps, h => by
    simp only [List.getElem?_cons_succ] at h
    obtain ⟨x, h1, h2⟩ := paired_atL ps h
    exact ⟨x, by simpa using h1, h2⟩
/-- behind a call -/
theorem after_call {B' H' : Hp} {is : List Nat} {ls : List Addr} {cs : List Cell} (r : Rel X.K X.mg X.N.length env μ B H σ) (hp : Paired (fun i a => μ i = some a ∧ ∃ s c, env[i]? = some s ∧ (s = Sl.own c ∨ s = Sl.lent c)) is ls) (nd : is.Nodup) (x : ExtF ls B H B' H') (hc : CellsAt X.K X.mg B' H' ls cs) :
    Rel X.K X.mg X.N.length (back is cs env) μ B' H' σ ∧ Ext X.N.length μ B H μ B' H' := by
  have inls : ∀ a, a ∈ ls → ∃ j ∈ is, μ j = some a := fun a ha => by
    obtain ⟨k, hk⟩ := List.mem_iff_getElem?.mp ha
    obtain ⟨i, h1, h2, _⟩ := paired_at hp hk
    exact ⟨i, List.mem_of_getElem? h1, h2⟩
  have there : ∀ j a s, env[j]? = some s → SlAt X.K X.mg B H μ j s → μ j = some a → ∃ o, H a = some o := fun j a s hs c hm => by
    cases s with
    | own c' => obtain ⟨b, h1, _, h3⟩ := c; rw [hm] at h1; cases h1; exact h3.there
    | lent c' => obtain ⟨b, h1, _, h3⟩ := c; rw [hm] at h1; cases h1; exact h3.there
    | un => rw [show μ j = none from c] at hm; cases hm
    | val d => rw [show μ j = none from c] at hm; cases hm
    | al h => rw [show μ j = none from c] at hm; cases hm
  have get : ∀ (j : Nat) (s : Sl), (back is cs env)[j]? = some s → (j ∉ is ∧ env[j]? = some s) ∨ ∃ (k : Nat) (a : Addr) (c c0 : Cell) (s0 : Sl), is[k]? = some j ∧ ls[k]? = some a ∧ μ j = some a ∧ env[j]? = some s0 ∧ (s0 = .own c0 ∨ s0 = .lent c0) ∧ s = recell c s0 ∧ B' a = none ∧ CellAt X.K X.mg B' H' a c := fun j s q => by
    by_cases hj : j ∈ is
    · obtain ⟨k, hk⟩ := List.mem_iff_getElem?.mp hj
      obtain ⟨a, h1, h2, s0, c0, h3, h4⟩ := paired_atL hp hk
      obtain ⟨c, h5, h6, h7⟩ := paired_atL hc h1
      rw [back_at is cs env k j c nd hk h5, h3] at q
      simp only [Option.map_some, Option.some.injEq] at q
      exact .inr ⟨k, a, c, c0, s0, hk, h1, h2, h3, h4, q.symm, h6, h7⟩
    · rw [back_out is cs env j hj] at q
      exact .inl ⟨hj, q⟩
  have ex : Ext X.N.length μ B H μ B' H' := ⟨x.b, fun a o e nm => x.h a o e fun z => by
    obtain ⟨j, _, h⟩ := inls a z
    exact nm j h, fun i a q => .inl ⟨i, q⟩, fun a o e => by
    rcases x.n a o e with z | z
    · exact .inl z
    · exact .inr (.inl z), fun _ _ => rfl, x.t⟩
  refine ⟨⟨r.len, by rw [back_len]; exact r.le, x.e, fun j s q => ?_, fun j hj => ?_, r.inj, fun j s hN q => ?_, fun j s hN q => ?_, fun j h q => ?_⟩, ex⟩
  · rcases get j s q with ⟨hj, q⟩ | ⟨k, a, c, c0, s0, h1, h2, h3, h4, h5, rfl, h6, h7⟩
    · have cc := r.cell j s q
      refine cc.mono x.b (fun a hm hB => ?_) fun a o hm ho => ?_
      · obtain ⟨o, ho⟩ := there j a s q cc hm
        cases z : B' a with
        | none => rfl
        | some u =>
          rcases x.n a u z with y | y
          · rw [hB] at y; cases y
          · rw [ho] at y; cases y
      · refine x.h a o ho fun z => ?_
        obtain ⟨i, hi, hm'⟩ := inls a z
        exact hj (r.inj j i a hm hm' ▸ hi)
    · rcases h5 with rfl | rfl
      · exact ⟨a, h3, h6, h7⟩
      · exact ⟨a, h3, h6, h7⟩
  · rw [back_len] at hj; exact r.out j hj
  · rcases get j s q with ⟨hj, q⟩ | ⟨k, a, c, c0, s0, h1, h2, h3, h4, h5, rfl, h6, h7⟩
    · exact (r.name j s hN q).mono x.b
    · have nm := r.name j s0 hN h4
      rcases h5 with rfl | rfl
      · exact nm
      · exact nm.elim
  · rcases get j s q with ⟨hj, q⟩ | ⟨k, a, c, c0, s0, h1, h2, h3, h4, h5, rfl, h6, h7⟩
    · exact r.hid j s hN q
    · obtain ⟨c', e⟩ := r.hid j s0 hN h4
      subst e
      exact ⟨c, rfl⟩
  · rw [back_len]
    rcases get j _ q with ⟨hj, q⟩ | ⟨k, a, c, c0, s0, h1, h2, h3, h4, h5, e, h6, h7⟩
    · exact r.al j h q
    · rcases h5 with rfl | rfl <;> cases e
/-- f(..) -/
theorem snd_call {g : Fn} {mask : List Bool} {ms : M (List W)} {ta : TA} {P : Nat} (sa : SndX X Wx (dA X) ta ms) (hP : ∀ as, g as ≠ .fail → as.length = P) : SndX X Wx (dW X) (tCallS (spM X.K X.mg P g) (WE Wx) ta) (eCall g mask ms) := by
  intro e μ B H σ Q rl p
  refine Snd.bnd (t := ta) (R' := fun vs H1 => spM X.K X.mg P g vs H1 Q (WE Wx σ)) sa Ext.refl rl p fun ws e1 vs μ1 B1 H1 x1 _ r1 d1 p1 => ?_
  cases q1 : lend ws mask e1 with
  | none => rw [q1] at p1; exact p1.elim
  | some as =>
    rw [q1] at p1
    simp only at p1
    by_cases nd : (pls ws).Nodup
    · rw [if_pos nd] at p1
      obtain ⟨ls, h1, h2⟩ := lend_args r1 d1 q1 nd
      have hl : as.length = P := hP as fun z => by rw [z] at p1; exact p1
      refine ⟨as, ls, B1, r1.ex, h1, hl, ?_⟩
      cases q2 : g as with
      | fail => rw [q2] at p1; exact p1
      | exc xx cs =>
        rw [q2] at p1
        intro cls d B' H' xf hc dx
        obtain ⟨r2, x2⟩ := after_call r1 h2 nd xf hc
        exact p1 cls d μ1 B' H' (x1.trans x2) r2 (dx.back x1.t)
      | ok rr cs =>
        rw [q2] at p1
        intro v B' H' xf hc dr
        obtain ⟨r2, x2⟩ := after_call r1 h2 nd xf hc
        refine p1.ok (x1.trans x2) r2 ?_
        cases rr with
        | d y => exact dr
        | fr c =>
          obtain ⟨a, g1, g2, g3, g4⟩ := dr
          refine ⟨a, g1, none_back x1.t g2, g3, fun i z => ?_, g4⟩
          exact r1.nomu g2 i z
        | pl i => exact dr.elim
    · rw [if_neg nd] at p1; exact p1.elim
theorem mkFn_len {N P : Nat} {body : M Ctl} (as : List Arg) (h : mkFn N P body as ≠ .fail) : as.length = P := by
  unfold mkFn at h
  by_cases z : as.length = P ∧ P ≤ N
  · exact z.1
  · rw [if_neg z] at h; exact absurd rfl h
theorem se_call {g : Fn} {mask : List Bool} {ms : M (List W)} {P : Nat} {f : Addr} {fd : FuncData} {ps : List Str} {k : Nat} {x : Str} {p0 : Pos} (F : Prom X.prog X.w X.K X.mg X.base k f fd ps (spM X.K X.mg P g)) (hr : Roomy k X.A) (hm : X.mg x = some (.ref f)) (hk : PySem.W.keepIn X.K (.ref f) = true) (hb : Binds X.K fd ps []) (tk : Takes X Wx)
    (hP : ∀ as, g as ≠ .fail → as.length = P) (ha : SA X Wx (a :: es) ms) (hg : Gl X x := by rfl) (hdb : (x == ("__debug__" : Str)) = false := by decide) (he : starEach (a :: es) X.env = (false, eval a X.env) :: starEach es X.env := by rfl) (hpl : (backTo pos (starEach es X.env)).any (·.1) = false := by rfl) :
    SE X Wx (.Call (.Name x p0) (a :: es) [] pos) (eCall g mask ms) := by
  obtain ⟨ta, pa, sa⟩ := ha.ex
  exact .of ⟨_, pe_prom F hr hg hm hk hb (fun σ => passAt tk σ) pa hdb he hpl, snd_call sa hP⟩
end
end Py
end
section
set_option Elab.async false
set_option linter.all false
set_option maxRecDepth 100000
namespace Py
open PySem PySem.Spec PyProof.Rows L2
section
variable {X : Cx} {Wx : WX} {e a b c : Expr} {es : List Expr} {ma mb mc mv : M W} {pos : Pos} {μ : Mu} {B H : Hp} {σ : L2.St} {env : Env}
/-! ### repr -/
theorem rOk_and {p : PyData} (h : rOk p = true) : PyData.leavesShort 64 p = true ∧ PyData.weight p ≤ 150000 ∧ PyData.depth p ≤ 40 ∧ PyData.showable p = true ∧ PyData.hasDict p = false := by
  unfold rOk at h
  simp only [Bool.and_eq_true, decide_eq_true_eq, Bool.not_eq_true'] at h
  exact ⟨h.1.1.1.1, h.1.1.1.2, h.1.1.2, h.1.2, h.2⟩
theorem rOk_len {p : PyData} (h : rOk p = true) : p.shown.length ≤ sizeLine := by
  obtain ⟨h1, h2, _⟩ := rOk_and h
  have := PyData.shown_le 64 (by decide) p h1
  rw [sizeLine_eq]
  omega
theorem vals1' {x : V} {us : List Value} (h : Vals [x] us) : ∃ u, us = [u] ∧ RelV x u := by
  cases h with
  | cons h t => cases t; exact ⟨_, rfl, h⟩
theorem call_repr (hg : X.A.guards = some []) (hu : X.A.units + 64 < cLine) : CallR X (.builtin "repr") (fun xs H Q => ∃ x p, xs = [x] ∧ Dp X.K H x p ∧ rOk p = true ∧ Q (.str (PyData.shown p)) H) := by
  intro pins s σ H xs us Q I r h
  obtain ⟨x, p, rfl, hd, ho, q⟩ := h
  obtain ⟨u, rfl, ru⟩ := vals1' r
  have hsz := rOk_len ho
  obtain ⟨k1, k2, k3, k4, k5⟩ := rOk_and ho
  have two : ∀ a as, Reads s.heap (.ref a) p as → wpAny (model X.prog X.w) X.A (call (.builtin "repr") [.ref a]) (EP X pins σ Q) X.xe s := fun a as rd =>
    repr_of_reads' rd k4 (PyData.noDict_hsm k5) hg (by omega) (fun _ _ z => z) (fun h' u tk hk => ⟨.str _, H, I.kept hk, ⟨_, rfl⟩, q⟩) hsz
  obtain ⟨as, rd⟩ := Dp.reads I p x u hd ru
  cases rd with
  | none => exact PySem.P.repr_of_none ⟨.str _, H, I.tok _, ⟨_, rfl⟩, q⟩
  | bool b => exact PySem.P.repr_of_bool ⟨.str _, H, I.tok _, ⟨_, rfl⟩, q⟩
  | int i t => exact PySem.P.repr_of_int (by simpa [PyData.showable] using k4) ⟨.str _, H, I.tok _, ⟨_, rfl⟩, q⟩
  | str y t => exact PySem.P.repr_of_str ⟨.str _, H, I.tok _, ⟨_, rfl⟩, q⟩ hsz
  | list h1 h2 h3 h4 => exact two _ _ (Reads.list h1 h2 h3 h4)
  | tuple h1 h2 h3 h4 => exact two _ _ (Reads.tuple h1 h2 h3 h4)
  | dict => cases hd
theorem cs_repr : CallS X (fun xs H Q => ∃ x p, xs = [x] ∧ Dp X.K H x p ∧ rOk p = true ∧ Q (.str (PyData.shown p)) H) bRepr := by
  intro B H vs ds w Q ex hv q k
  unfold bRepr at q
  split at q
  · obtain ⟨v, rfl, h⟩ := pr1 hv
    split at q
    · rename_i p hp
      obtain ⟨h1, rfl⟩ := some_if q
      exact ⟨v, p, rfl, h.dp ex hp, h1, k _ _ (.inl ⟨rfl, .str _⟩)⟩
    · cases q
  · cases q
/-! ### keywords -/
structure SK (X : Cx) (Wx : WX) (kws : List Keyword) (m : M (List W)) : Prop where
  p : PK X kws (rdX X Wx (dA X) m)
theorem SK.of {kws : List Keyword} {m : M (List W)} (h : ∃ te, PK X kws te ∧ SndX X Wx (dA X) te m) : SK X Wx kws m :=
  let ⟨te, p, s⟩ := h; ⟨⟨fun ps pins st σ H Q I ⟨e, μ, B, r, q⟩ => p.run ps pins st σ H Q I (s e μ B H σ Q r q)⟩⟩
theorem SK.ex {kws : List Keyword} {m : M (List W)} (h : SK X Wx kws m) : ∃ te, PK X kws te ∧ SndX X Wx (dA X) te m := ⟨_, h.p, snd_rd⟩
theorem sk_nil : SK X Wx [] aNil := .of ⟨_, pk_nil, fun e μ B H σ Q rl p => p.ok Ext.refl rl .nil⟩
theorem sk_cons {kws : List Keyword} {nm : Option Str} {kp : Pos} {ms : M (List W)} (ha : SE X Wx a ma) (hr : SK X Wx kws ms) : SK X Wx (⟨nm, a, kp⟩ :: kws) (aConsF ma ms) := by
  obtain ⟨ta, pa, sa⟩ := ha.ex
  obtain ⟨tr, pr, sr⟩ := hr.ex
  refine .of ⟨_, pk_cons pa pr, fun e μ B H σ Q rl p => ?_⟩
  refine Snd.bnd (t := ta) (R' := fun x H1 => tr σ H1 fun xs H2 => Q (x :: xs) H2) sa Ext.refl rl p fun wa e1 x μ1 B1 H1 x1 _ r1 d1 p1 => ?_
  refine frz_ok x1 r1 d1 p1 fun t e1' μ1' B1' x1' r1' dt _ p1' _ => ?_
  refine Snd.bnd sr x1' r1' p1' fun ws e2 xs μ2 B2 H2 x2 y2 r2 d2 p2 => ?_
  exact p2.ok x2 r2 (.cons (show DenW X.K X.mg X.N.length H μ2 B2 H2 σ x (.d t) from dt.mono y2.b) (dA.back x1'.t d2))
theorem sk_consL {kws : List Keyword} {nm : Option Str} {kp : Pos} {ms : M (List W)} (ha : SE X Wx a ma) (hr : SK X Wx kws ms) : SK X Wx (⟨nm, a, kp⟩ :: kws) (aCons ma ms) := by
  obtain ⟨ta, pa, sa⟩ := ha.ex
  obtain ⟨tr, pr, sr⟩ := hr.ex
  refine .of ⟨_, pk_cons pa pr, fun e μ B H σ Q rl p => ?_⟩
  refine Snd.bnd (t := ta) (R' := fun x H1 => tr σ H1 fun xs H2 => Q (x :: xs) H2) sa Ext.refl rl p fun wa e1 x μ1 B1 H1 x1 _ r1 d1 p1 => ?_
  refine Snd.bnd sr x1 r1 p1 fun ws e2 xs μ2 B2 H2 x2 y2 r2 d2 p2 => ?_
  exact p2.ok x2 r2 (.cons (DenW.go y2 d1) (dA.back x1.t d2))
theorem paired_len {α β : Type} {F : α → β → Prop} : ∀ {xs : List α} {ys : List β}, Paired F xs ys → xs.length = ys.length
  | _, _, .nil => rfl
  | _, _, .cons _ r => congrArg (· + 1) (paired_len r)
theorem paired_get {α β : Type} {F : α → β → Prop} : ∀ {xs : List α} {ys : List β} (i : Nat), Paired F xs ys → (xs[i]? = none ∧ ys[i]? = none) ∨ ∃ x y, xs[i]? = some x ∧ ys[i]? = some y ∧ F x y
  | _, _, i, .nil => .inl ⟨by simp, by simp⟩
  | _, _, 0, .cons h r => .inr ⟨_, _, rfl, rfl, h⟩
  | _, _, i + 1, .cons h r => by simpa using paired_get i r
theorem paired_perm {α β : Type} {F : α → β → Prop} {xs : List α} {ys : List β} (h : Paired F xs ys) : ∀ l : List Nat, Paired F (perm l xs) (perm l ys)
  | [] => .nil
  | i :: l => by
    have ih := paired_perm h l
    unfold perm at ih ⊢
    rcases paired_get i h with ⟨h1, h2⟩ | ⟨x, y, h1, h2, h3⟩
    · rw [List.filterMap_cons_none h1, List.filterMap_cons_none h2]; exact ih
    · rw [List.filterMap_cons_some h1, List.filterMap_cons_some h2]; exact .cons h3 ih
theorem paired_app {α β : Type} {F : α → β → Prop} : ∀ {xs : List α} {ys : List β} {xs2 : List α} {ys2 : List β}, Paired F xs ys → Paired F xs2 ys2 → Paired F (xs ++ xs2) (ys ++ ys2)
  | _, _, _, _, .nil, r => r
  | _, _, _, _, .cons h t, r => .cons h (paired_app t r)
theorem vals_perm {vs : List V} {us : List Value} (h : Vals vs us) (l : List Nat) : Vals (perm l vs) (perm l us) := by
  have to : ∀ {vs : List V} {us : List Value}, Vals vs us → Paired RelV vs us := fun {vs us} h => by
    induction h with
    | nil => exact .nil
    | cons h t ih => exact .cons h ih
  have fro : ∀ {vs : List V} {us : List Value}, Paired RelV vs us → Vals vs us := fun {vs us} h => by
    induction h with
    | nil => exact .nil
    | cons h t ih => exact .cons h ih
  exact fro (paired_perm (to h) l)
def tKw (p q : Nat) (l : List Nat) (t tk : TA) : TA := fun σ H Q => t σ H fun vs H1 => tk σ H1 fun zs H2 => vs.length = p ∧ zs.length = q ∧ Q (perm l (vs ++ zs)) H2
theorem snd_kw {p q : Nat} {l : List Nat} {ms mk : M (List W)} {t tk : TA} (sa : SndX X Wx (dA X) t ms) (sk : SndX X Wx (dA X) tk mk) : SndX X Wx (dA X) (tKw p q l t tk) (aKw p q l ms mk) := by
  intro e μ B H σ Q rl pp
  refine Snd.bnd (t := t) (R' := fun vs H1 => tk σ H1 fun zs H2 => vs.length = p ∧ zs.length = q ∧ Q (perm l (vs ++ zs)) H2) sa Ext.refl rl pp fun ws e1 vs μ1 B1 H1 x1 _ r1 d1 p1 => ?_
  refine Snd.bnd sk x1 r1 p1 fun ws2 e2 zs μ2 B2 H2 x2 y2 r2 d2 p2 => ?_
  by_cases c : ws.length = p ∧ ws2.length = q
  · rw [if_pos c] at p2
    have d1' : dA X H μ2 B2 H2 σ vs ws := dA.go y2 d1
    have d2' : dA X H μ2 B2 H2 σ zs ws2 := dA.back x1.t d2
    exact ⟨(paired_len d1').trans c.1, (paired_len d2').trans c.2, p2.ok x2 r2 (paired_perm (paired_app d1' d2') l)⟩
  · rw [if_neg c] at p2; exact p2.elim
/-- how the keywords bind -/
def KB (fd : FuncData) (ps : List Str) (p : Nat) (ks : List Str) (l : List Nat) : Prop := ∀ us ws : List Value, us.length = p → ws.length = ks.length → bindArgs fd ⟨us, ks.zip ws⟩ = pure (ps.zip (perm l (us ++ ws)))
theorem run_promK {k : Nat} {f : Addr} {fd : FuncData} {ps ks : List Str} {sp : Sp} {E : L2.St → XK} {l : List Nat} {p : Nat} {pins : List (Addr × Obj)} {σ : L2.St} {H : Hp} {s : Shared} {Q : VK} {us ws : List Value} {vs zs : List V}
    (F : Prom X.prog X.w X.K X.mg X.base k f fd ps sp) (hr : Roomy k X.A) (hb : KB fd ps p ks l) (hx : PassesAt (L2.CX X.prog X.w) X σ (E σ)) (I : Inv X pins σ H s) (r : Vals vs us) (rz : Vals zs ws)
    (h1 : vs.length = p) (h2 : zs.length = ks.length) (h : sp (perm l (vs ++ zs)) H Q (E σ)) : wpAny (model X.prog X.w) X.A (call (.ref f) us (ks.zip ws)) (EP X pins σ Q) X.xe s := by
  refine wpAny_call (codeAny_mono (run_prom F hr (.of_eq (hb us ws (by rw [← r.length]; exact h1) (by rw [← rz.length]; exact h2))) hx I (vals_perm (r.append rz) l) h) ?_)
  intro r s' hq
  match r, hq with
  | .error e, hq => exact hq
  | .ok (.ret u), hq => exact hq
  | .ok .next, hq => exact hq.elim
  | .ok .brk, hq => exact hq.elim
  | .ok .cont, hq => exact hq.elim
theorem se_callK {g : Fn} {mask : List Bool} {ms mk : M (List W)} {P q : Nat} {f : Addr} {fd : FuncData} {ps : List Str} (ks : List Str) {l : List Nat} {k : Nat} {x : Str} {p0 : Pos} {kws : List Keyword} (F : Prom X.prog X.w X.K X.mg X.base k f fd ps (spM X.K X.mg P g)) (hr : Roomy k X.A) (hm : X.mg x = some (.ref f)) (hk : PySem.W.keepIn X.K (.ref f) = true) {p : Nat} (hb : KB fd ps p ks l) (tk : Takes X Wx)
    (hP : ∀ as, g as ≠ .fail → as.length = P) (ha : SA X Wx (a :: es) ms) (hkw : SK X Wx kws mk) (hq : ks.length = q := by rfl) (hg : Gl X x := by rfl) (hall : (backToKw pos (keywordEach kws X.env)).all (·.1.isSome) = true := by rfl) (hks : (backToKw pos (keywordEach kws X.env)).filterMap (·.1) = ks := by rfl)
    (hdb : (x == ("__debug__" : Str)) = false := by decide) (he : starEach (a :: es) X.env = (false, eval a X.env) :: starEach es X.env := by rfl)
    (hpl : ((backTo pos (starEach (a :: es) X.env)).any (·.1) || (backToKw pos (keywordEach kws X.env)).any (·.1.isNone)) = false := by rfl) :
    SE X Wx (.Call (.Name x p0) (a :: es) kws pos) (eCall g mask (aKw p q l ms mk)) := by
  obtain ⟨ta, pa, sa⟩ := ha.ex
  obtain ⟨tk', pk, sk⟩ := hkw.ex
  refine .of ⟨_, ⟨fun pins s σ H Q I h => ?_⟩, snd_call (snd_kw sa sk) hP⟩
  refine wpAny_Call_Name_kw (ld_glob I hg hm ?_ hdb)
  refine PySem.W.callWith_KW (h₀ := X.base) I.ok.mod.kin hk hall (thn (pa.run pos pins s σ H _ I h) fun us s1 ⟨vs, H1, I1, r, q1⟩ => ?_) hpl he
  refine thn (pk.run pos pins s1 σ H1 _ I1 q1) fun ws s2 ⟨zs, H2, I2, rz, q2⟩ => ⟨I2.kIn, ?_⟩
  obtain ⟨q3, q4, q5⟩ := q2
  rw [hks]
  exact run_promK F hr hb (passAt tk σ) I2 r rz q3 (q4.trans hq.symm) q5
theorem se_callK0 {g : Fn} {mask : List Bool} {mk : M (List W)} {P q : Nat} {f : Addr} {fd : FuncData} {ps : List Str} (ks : List Str) {l : List Nat} {k : Nat} {x : Str} {p0 : Pos} {kws : List Keyword} (F : Prom X.prog X.w X.K X.mg X.base k f fd ps (spM X.K X.mg P g)) (hr : Roomy k X.A) (hm : X.mg x = some (.ref f)) (hk : PySem.W.keepIn X.K (.ref f) = true) (hb : KB fd ps 0 ks l) (tk : Takes X Wx)
    (hP : ∀ as, g as ≠ .fail → as.length = P) (hkw : SK X Wx kws mk) (hq : ks.length = q := by rfl) (hg : Gl X x := by rfl) (hall : (backToKw pos (keywordEach kws X.env)).all (·.1.isSome) = true := by rfl) (hks : (backToKw pos (keywordEach kws X.env)).filterMap (·.1) = ks := by rfl)
    (hdb : (x == ("__debug__" : Str)) = false := by decide)
    (hpl : ((backTo pos (starEach [] X.env)).any (·.1) || (backToKw pos (keywordEach kws X.env)).any (·.1.isNone)) = false := by rfl) :
    SE X Wx (.Call (.Name x p0) [] kws pos) (eCall g mask (aKw 0 q l aNil mk)) := by
  obtain ⟨tk', pk, sk⟩ := hkw.ex
  obtain ⟨tn, pn, sn⟩ := (sa_nil (X := X) (Wx := Wx)).ex
  refine .of ⟨_, ⟨fun pins s σ H Q I h => ?_⟩, snd_call (snd_kw (t := tNil) (fun e μ B H σ Q rl p => p.ok Ext.refl rl .nil) sk) hP⟩
  refine wpAny_Call_Name_kw (ld_glob I hg hm ?_ hdb)
  refine PySem.W.callWith_KW0 (h₀ := X.base) I.ok.mod.kin hk hall ?_ hpl
  refine thn (pk.run pos pins s σ H _ I h) fun ws s2 ⟨zs, H2, I2, rz, q2⟩ => ⟨I2.kIn, ?_⟩
  obtain ⟨q3, q4, q5⟩ := q2
  rw [hks]
  exact run_promK (us := []) (vs := []) F hr hb (passAt tk σ) I2 .nil rz q3 (q4.trans hq.symm) q5
/-! ### operators of x op= e -/
theorem ops_sub : OpS X (rI0 fun i j => .int (i - j)) oSub := ops_i0 fun i j B => .int (i - j)
theorem ops_mod : OpS X (rI (fun _ j => 0 < j) fun i j => .int (i % j)) oMod := ops_i fun i j t z => by obtain ⟨h1, rfl⟩ := some_if z; exact ⟨h1, fun _ => .int _⟩
end
/-! ### the texts of a module -/
structure FunT (K : PySem.W.Frag) (mg : Str → Option Value) (x : Str) (st : Stmt) (ps : List Str) where
  f : Addr
  fd : FuncData
  F : Fun K x x st f fd
  m : mg x = some (.ref f)
  b : Binds K fd ps []
def mkFunT {K : PySem.W.Frag} {h : Heap} {mg : Str → Option Value} {x : Str} {st : Stmt} {ps : List Str} (X : K.In h) (G : h.Ns mainGlobals mg) {f : Addr} {od an : Option Addr} {sl : Array (Option Value)} {oc kV dc pm cd ct : Value}
    (a : PySem.W.nsIn K mainGlobals x = some (some (.ref f))) (l : K.lookup f = some ⟨oc, od, .func (PySem.W.fnOf x x (defArgs st) (defBody st) (defScope st) .none kV dc pm an cd ct), sl⟩) (c : PySem.W.codeIn K cd x = true) (k : PySem.W.keepIn K (.ref f) = true)
    (hb : ∀ (kV dc pm : Value) (an : Option Addr) (cd ct : Value) (us : List Value), us.length = ps.length → bindArgs (PySem.W.fnOf x x (defArgs st) (defBody st) (defScope st) .none kV dc pm an cd ct) ⟨us, []⟩ = pure (ps.zip us)) : FunT K mg x st ps :=
  ⟨f, _, ⟨⟨oc, od, kV, dc, pm, an, cd, ct, sl, rfl, l, c⟩, k⟩, PySem.W.mg_of X G a, .all fun us hl => hb kV dc pm an cd ct us hl⟩
theorem kb_of {K : PySem.W.Frag} {x : Str} {st : Stmt} {f : Addr} {fd : FuncData} {ps ks : List Str} {p : Nat} {l : List Nat} (F : Fun K x x st f fd)
    (h : ∀ (kV dc pm : Value) (an : Option Addr) (cd ct : Value) (us ws : List Value), us.length = p → ws.length = ks.length → bindArgs (PySem.W.fnOf x x (defArgs st) (defBody st) (defScope st) .none kV dc pm an cd ct) ⟨us, ks.zip ws⟩ = pure (ps.zip (perm l (us ++ ws)))) : KB fd ps p ks l := by
  obtain ⟨oc, od, kV, doc, pm, an, cdv, ct, osl, rfl, lk, hcd⟩ := F.ex
  exact fun us ws h1 h2 => h kV doc pm an cdv ct us ws h1 h2
/-- the promise of a law -/
def spLaw (K : PySem.W.Frag) : Sp := fun vs H Q _ => ∃ (a : Addr) (ns : List Int), vs = [.ref a] ∧ SqL K H a (ns.map V.int) ∧ ns.length ≤ 63 ∧ ∀ H', Q (.bl true) H'
theorem law_sp {K : PySem.W.Frag} {mg : Str → Option Value} {g : Fn} (ht : ∀ ns : List Int, ns.length ≤ 63 → g [.a (.lst (ns.map .int))] = .ok (.d (.bl true)) []) {vs : List V} {H : Hp} {Q : VK} {E : XK} (h : spLaw K vs H Q E) : spM K mg 1 g vs H Q E := by
  obtain ⟨a, ns, rfl, h1, h2, h4⟩ := h
  have nums : ∀ ns : List Int, DenAll K mg H (ns.map V.int) (ns.map D.int) := fun ns => by
    induction ns with
    | nil => exact .nil
    | cons n ns ih => exact .cons (.int n) ih
  refine ⟨[.a (.lst (ns.map .int))], [], H, Same.refl H, .a ?_ .nil, rfl, ?_⟩
  · exact .lst h1 (nums ns)
  · rw [ht ns h2]
    intro v B' H' xf hc dr
    cases dr
    exact h4 H'
end Py
end
section
set_option Elab.async false
set_option linter.all false
set_option maxRecDepth 100000
namespace Py
open PySem PySem.Spec PyProof.Rows L2 RT
section
variable {X : Cx} {Wx : WX} {a tg : Expr} {ma : M W} {pos : Pos} {B H : Hp} {σ : L2.St} {env : Env}
theorem rev_at {xs : List V} {k : Nat} (h : k < xs.length) : xs.reverse[k]? = xs[xs.length - 1 - k]? := by
  rw [List.getElem?_reverse h]
theorem it_revL {l : Addr} {xs : List V} {ds : List D} (h : SqL X.K B l xs) (hd : DenAll X.K X.mg B xs ds) : ItOk X.K X.mg B (Itv X.K l xs.length) ds.reverse where
  go := fun B' H' e1 e2 k d q => by
    obtain ⟨v, h1, _⟩ := hd.reverse.get q
    have hk : k < xs.length := by simpa using (List.getElem?_eq_some_iff.mp h1).1
    rw [rev_at hk] at h1
    exact ⟨hk, xs, v, same_l (e1.trans e2) h, h1⟩
  yld := fun B' H' e1 e2 k d q x H'' y => by
    obtain ⟨v, h1, h2⟩ := hd.reverse.get q
    have hk : k < xs.length := by simpa using (List.getElem?_eq_some_iff.mp h1).1
    rw [rev_at hk] at h1
    obtain ⟨rfl, y2⟩ := y
    have h3 := y2 xs (same_l (e1.trans e2) h)
    rw [h1] at h3
    cases h3
    exact .inl ⟨rfl, h2.mono e1⟩
  stop := fun B' H' e1 e2 k q => by
    rw [List.length_reverse, ← hd.length] at q
    exact q
theorem it_revT {l : Addr} {xs : List V} {ds : List D} (h : SqT X.K B l xs) (hd : DenAll X.K X.mg B xs ds) : ItOk X.K X.mg B (ItvT X.K l xs.length) ds.reverse where
  go := fun B' H' e1 e2 k d q => by
    obtain ⟨v, h1, _⟩ := hd.reverse.get q
    have hk : k < xs.length := by simpa using (List.getElem?_eq_some_iff.mp h1).1
    rw [rev_at hk] at h1
    exact ⟨hk, xs, v, same_t (e1.trans e2) h, h1⟩
  yld := fun B' H' e1 e2 k d q x H'' y => by
    obtain ⟨v, h1, h2⟩ := hd.reverse.get q
    have hk : k < xs.length := by simpa using (List.getElem?_eq_some_iff.mp h1).1
    rw [rev_at hk] at h1
    obtain ⟨rfl, y2⟩ := y
    have h3 := y2 xs (same_t (e1.trans e2) h)
    rw [h1] at h3
    cases h3
    exact .inl ⟨rfl, h2.mono e1⟩
  stop := fun B' H' e1 e2 k q => by
    rw [List.length_reverse, ← hd.length] at q
    exact q
theorem si_reversed {p0 : Pos} (hm : X.mg "reversed" = none) (ha : SE X Wx a ma) (hg : Gl X "reversed" := by rfl) (hs : starEach [a] X.env = (false, eval a X.env) :: starEach [] X.env := by rfl) : SI X Wx tg (.Call (.Name "reversed" p0) [a] [] pos) (iRevd ma) := by
  obtain ⟨ta, pa, sa⟩ := ha.ex
  refine .of ⟨_, pi_revA hg hm pa hs, fun e μ B H σ Q rl p => ?_⟩
  refine Snd.bnd (t := ta) (R' := fun v H1 => ∃ (a : Addr) (xs : List V), v = .ref a ∧ ((SqL X.K H1 a xs ∧ Q (Itv X.K a xs.length) H1) ∨ (SqT X.K H1 a xs ∧ Q (ItvT X.K a xs.length) H1))) sa Ext.refl rl p fun wa e1 x μ1 B1 H1 x1 _ r1 d1 p1 => ?_
  refine frz_ok x1 r1 d1 p1 fun t e2 μ2 B2 x2 r2 dt _ p2 _ => ?_
  cases t with
  | lst ds =>
    cases dt with
    | lst h1 h2 => exact ⟨_, _, rfl, .inl ⟨same_l r2.ex h1, p2.ok x2 r2 (it_revL h1 h2)⟩⟩
  | tup ds =>
    cases dt with
    | tup h1 h2 => exact ⟨_, _, rfl, .inr ⟨same_t r2.ex h1, p2.ok x2 r2 (it_revT h1 h2)⟩⟩
  | _ => exact p2.elim
end
end Py
end
section
set_option Elab.async false
set_option linter.all false
set_option maxRecDepth 100000
namespace Py
open PySem PySem.Spec PyProof.Rows L2
/-! ### a caught exception is an object like others -/
theorem exq_own {a C d x : Addr} : exq a C d ≠ .own x := fun z => by
  have z' : HO.ext _ = HO.own x := z
  cases z'
theorem exq_tup {a C d : Addr} {xs : List V} : exq a C d ≠ .tup xs := fun z => by
  have z' : HO.ext _ = HO.tup xs := z
  cases z'
theorem exq_ok {P : Program} {w : World} {H : Hp} {h : Heap} {a C d : Addr} {o : Obj} {vs : Array Value} (he : h.get? a = some o) (h1 : o.cls = .ref C) (h2 : o.dict = some d) (h3 : o.data = .fields vs) : ObjOk P w H h a (exq a C d) :=
  ⟨⟨o, vs, he, h1, h2, h3⟩, ⟨o, he⟩, fun h1 h2 z k => by
    obtain ⟨o, vs, q, r⟩ := z
    exact ⟨o, vs, k _ q, r⟩⟩
section
variable {X : Cx} {pins : List (Addr × Obj)} {σ : L2.St} {H : Hp} {s : Shared}
theorem inv_adopt {a C d : Addr} {o : Obj} {vs : Array Value} (I : Inv X pins σ H s) (he : s.heap.get? a = some o) (h1 : o.cls = .ref C) (h2 : o.dict = some d) (h3 : o.data = .fields vs)
    (na : H a = none) (old : X.s_0.heap.get? a = none) (np : ∀ p ∈ X.pn ++ pins, p.1 ≠ a) (nL : a ≠ X.env.locals) : Inv X pins σ (L2.upd H a (exq a C d)) s where
  ok := I.ok
  os := I.os
  bare := I.bare
  base := ⟨I.base.keep, I.base.slot, fun b o' q n hx => by
      rw [upd_ne (fun z => by rw [z, old] at q; cases q)]
      exact I.base.free b o' q n hx, I.base.there, fun b xs q => by
      have q' := I.base.tups b xs q
      rw [upd_ne (fun z => by rw [z, na] at q'; cases q')]
      exact q', fun b o' u q => by
      have q' := I.base.frzs b o' u q
      rw [upd_ne (fun z => by rw [z, na] at q'; cases q')]
      exact q', fun b ps q => by
      obtain ⟨m, q'⟩ := I.base.tbls b ps q
      exact ⟨m, by rw [upd_ne (fun z => by rw [z, na] at q'; cases q')]; exact q'⟩⟩
  loc := I.loc
  cell := I.cell
  free := by rw [upd_ne (Ne.symm nL)]; exact I.free
  freeC := fun x c hc => by
    refine (upd_ne (fun z => ?_)).trans (I.freeC x c hc)
    obtain ⟨v, hv⟩ := I.cell x c hc
    obtain ⟨o', e1, e2⟩ := hv
    rw [z, he] at e1
    cases e1
    rw [h3] at e2
    cases e2
  pin := fun p hp => by
    obtain ⟨e1, e2, e3⟩ := I.pin p hp
    exact ⟨e1, by rw [upd_ne (np p hp)]; exact e2, e3⟩
  hok := fun b o' q => by
    by_cases hb : b = a
    · subst hb
      rw [upd_same] at q
      cases q
      exact exq_ok he h1 h2 h3
    · rw [upd_ne hb] at q
      have nn : ∀ {c : Addr} {u : HO}, H c = some u → c ≠ a := fun {c u} z e => by rw [e, na] at z; cases z
      exact (I.hok b o' q).stay (fun c u hc z => z) (fun c hc => by rw [upd_ne (nn hc)]; exact hc) fun c xs hc => by rw [upd_ne (nn hc)]; exact hc
  len := I.len
theorem inv_suite0 (I : Inv X pins σ H s) (a : Addr) : Inv (X.suite a (X.pn ++ pins)) [] σ H s :=
  ⟨I.ok.suite _ _, I.os, I.bare, I.base, I.loc, I.cell, I.free, I.freeC, fun p hp => I.pin p (by rw [List.append_nil] at hp; exact hp), I.hok, I.len⟩
theorem inv_unsuite0 {a : Addr} {pn' : List (Addr × Obj)} (I : Inv (X.suite a (X.pn ++ pins)) pn' σ H s) (ok : X.Ok) : Inv X pins σ H s :=
  ⟨ok, I.os, I.bare, I.base, I.loc, I.cell, I.free, I.freeC, fun p hp => I.pin p (List.mem_append_left _ hp), I.hok, I.len⟩
end
/-- what the clauses wish of an exception of the body -/
def wGen (K : PySem.W.Frag) (Wout : WX) (D : Ends) : List (Value × Option Nat × TS) → WX
  | [] => Wout
  | (c, n, ts) :: r => fun cls d σ H => ∃ (C dd : Addr) (b : Bool), cls = .ref C ∧ d = some dd ∧ PySem.W.exmOne K cls c = some b ∧
      (b = true → ∀ a, H a = none → match n with
        | none => ts D σ (L2.upd H a (exq a C dd))
        | some i => ts { nx := fun σ' H' => D.nx (σ'.set i none) H', rt := D.rt, bk := fun σ' H' => D.bk (σ'.set i none) H', ct := fun σ' H' => D.ct (σ'.set i none) H' } (σ.set i (some (.ref a))) (L2.upd H a (exq a C dd))) ∧
      (b = false → wGen K Wout D r cls d σ H)
inductive HdsG (X : Cx) : List ExceptHandler → List (Value × Option Nat × TS) → Prop
  | nil : HdsG X [] []
  | one {x : Str} {c : Value} {ts : TS} {b₀ : Stmt} {suite : List Stmt} {np pos' : Pos} {hds : List ExceptHandler} {l : List (Value × Option Nat × TS)} (hc : Names X x c)
      (hsu : ∀ (a : Addr) (pn : List (Addr × Obj)), PSs (X.suite a pn) (b₀ :: suite) ts) (r : HdsG X hds l) : HdsG X (.ExceptHandler (some (.Name x np)) none (b₀ :: suite) pos' :: hds) ((c, none, ts) :: l)
  | named {x n : Str} {i : Nat} {c : Value} {ts : TS} {b₀ : Stmt} {suite : List Stmt} {np pos' : Pos} {hds : List ExceptHandler} {l : List (Value × Option Nat × TS)} (hc : Names X x c) (hi : X.N[i]? = some n) (hln : X.env.kindOf n = some .local)
      (hsu : ∀ (a : Addr) (pn : List (Addr × Obj)), PSs (X.suite a pn) (b₀ :: suite) ts) (r : HdsG X hds l) : HdsG X (.ExceptHandler (some (.Name x np)) (some n) (b₀ :: suite) pos' :: hds) ((c, some i, ts) :: l)
section
variable {X : Cx} {body : List Stmt} {h₀ : ExceptHandler} {hds : List ExceptHandler} {l : List (Value × Option Nat × TS)} {pos : Pos} {tb : WX → TS} {Wout : WX}
theorem ps_try_gen (hs : X.stack = X.env :: X.outer) (hf : X.env.frame = some X.env.locals) (hex : X.ex = []) (hN : X.N.Nodup) (tk : Takes X Wout)
    (hb : ∀ (W : WX) (pn : List (Addr × Obj)) (xe : Value → Shared → Prop), Takes (X.tr pn xe) W → PassesOwn (model X.prog X.w) X.A X.env xe → PSs (X.tr pn xe) body (tb W))
    (hh : HdsG X (h₀ :: hds) l) : PS X (.Try body (h₀ :: hds) [] [] pos) (fun D σ H => tb (wGen X.K Wout D l) D σ H) := by
  refine ⟨fun pins s σ H D I h => ?_⟩
  have ok := I.ok
  have hfr : X.A.frames = some (X.env :: X.outer) := by rw [ok.frames, hs]
  refine wpAny_Try_except ?_
  refine wpAny_mono ((hb (wGen X.K Wout D l) (X.pn ++ pins) (fun e s₁ => wpAny (model X.prog X.w) X.A (noteFrame e X.env) (fun _ s₂ => wpAny (model X.prog X.w) X.A (setFlight e none) (fun _ s₃ =>
    wpAny (model X.prog X.w) X.A (handleBy e X.env (h₀ :: hds)) (SP X pins D) X.xe s₃) X.xe s₂) X.xe s₁) (fun u s' xx => ?_) PassesOwn.looking).run [] s σ H D (I.toTry _) h) (fun f s1 hsp => ?_) (fun e s1 he => he)
  · -- the catch
    obtain ⟨a, B, sI, pins', σ', H', cls, d, rfl, J', nb, up, sky, na, os, ag, w⟩ := xx
    have J : Inv X pins σ' H' sI := J'.ofTry ok
    have sky' : Sky B (X.env :: X.outer) a (Zc cls d) X.env.locals s'.heap := by rw [← hs]; exact sky
    show wpAny (model X.prog X.w) X.A (noteFrame (.ref a) X.env) _ _ _
    refine Sky.land Zc.steady hfr hf sky' fun h3 fl3 up3 => ?_
    have J3 : Inv X pins σ' H' { s' with heap := h3 } := J.landed nb fl3.1 (up.trans up3) os ag
    obtain ⟨oe3, vs3, he3, hz3, hd3⟩ := fl3.there
    have notFr : ∀ {h : Heap} {o : Obj} {vs : Array Value}, h.FunFrames B (X.env :: X.outer) → h.get? a = some o → o.data = .fields vs → a ∉ frs (X.env :: X.outer) := fun {h o vs} ff e dd hm => by
      obtain ⟨_, o', e', hnf⟩ := ff.mem hm
      rw [e] at e'; cases e'
      exact hnf _ dd
    have nfr := notFr fl3.2.2.1 he3 hd3
    have nL : a ≠ X.env.locals := fun z => nfr (List.mem_filterMap.mpr ⟨X.env, List.mem_cons_self, by rw [hf, z]⟩)
    have nI : sI.heap.get? a = none := by
      cases q : sI.heap.get? a with
      | none => rfl
      | some o =>
        have z := nb a o q (by rw [hs]; exact nfr)
        rw [fl3.2.1] at z
        cases z
    have n0 : X.s_0.heap.get? a = none := by
      cases q : X.s_0.heap.get? a with
      | none => rfl
      | some o =>
        obtain ⟨o', z⟩ := J.base.there a o q (by rw [hex]; simp)
        rw [nI] at z
        cases z
    have npn : ∀ p ∈ X.pn ++ pins, p.1 ≠ a := fun p hp z => by
      have q := (J.pin p hp).1
      rw [z, nI] at q
      cases q
    have S3 := inv_suite0 J3 a
    have go : ∀ {hds' : List ExceptHandler} {l' : List (Value × Option Nat × TS)}, HdsG X hds' l' → wGen X.K Wout D l' cls d σ' H' →
        wpAny (model X.prog X.w) X.A (handleBy (.ref a) X.env hds') (SP X pins D) X.xe { s' with heap := h3 } := by
      intro hds' l' hk
      induction hk with
      | nil =>
        intro w
        refine wpAny_handleBy_nil ?_
        obtain ⟨k1, k2, k3, oe, vs, T, oT, ts', he, hz, hd, h1, hr⟩ := id fl3
        unfold PySem.passOn
        refine wpAny_bind (wpAny_field he hd h1 ?_)
        rw [if_neg (show ¬ ((Value.ref T == Value.none) = true) from by simp)]
        have fin : wpAny (model X.prog X.w) X.A (setFlight (.ref a) X.env.frame) (fun _ s4 => wpAny (model X.prog X.w) X.A (throw (.ref a) : Sem Flow) (SP X pins D) X.xe s4) X.xe { s' with heap := h3 } := by
          rw [hf]
          refine HandSPX.setFlight_upZ fl3 fun h4 hh4 up4 => wpAny_throw (tk _ _ ?_)
          exact ⟨a, B, sI, pins, σ', H', cls, d, rfl, J, nb, (up.trans up3).trans up4, .inr (.inr (by rw [hs]; exact hh4)), na, os, ag, w⟩
        first
          | exact wpAny_bind (wpAny_pure (wpAny_bind fin))
          | exact wpAny_bind fin
      | @one x c ts b₀ suite np pos' hds2 l2 hc hsu r ih =>
        intro w
        obtain ⟨C, dd, b, e1, e2, hb1, hyes, hno⟩ := w
        subst e1
        subst e2
        refine wpAny_handleBy_cons (codeAny_handlers_test ?_) (by intro q; cases q)
        have LT : PySem.W.Looks (model X.prog X.w) h3 (typeOf (.ref a)) (.ref C) := fun A Q E s k q => wpAny_typeOf_ref (k _ _ he3) (by rw [hz3.1]; exact q)
        have LM := PySem.W.exm_one (M := model X.prog X.w) (J3.kIn) LT hb1
        have test : ∀ {Q : Value → Shared → Prop} {E : Value → Shared → Prop}, Q c { s' with heap := h3 } → wpAny (model X.prog X.w) (X.A.mark (some (.ref a))) (eval (.Name x np) X.env) Q E { s' with heap := h3 } := fun {Q E} q => by
          obtain ⟨hg, hdbg, hm | ⟨hm, hv, hnn⟩⟩ := hc
          · exact ld_glob (X := X.suite a (X.pn ++ pins)) S3 hg hm q hdbg
          · exact ld_blt (X := X.suite a (X.pn ++ pins)) S3 hg hm hv q hnn hdbg
        refine test (LM.here ?_)
        cases b with
        | true =>
          refine codeAny_handlers_suite ?_
          refine HandSPX.lands_againZ fl3 fun h4 fl4 up4 => ?_
          have J4 : Inv X pins σ' H' { s' with heap := h4 } := J.landed nb fl4.1 ((up.trans up3).trans up4) os ag
          obtain ⟨oe4, vs4, he4, hz4, hd4⟩ := fl4.there
          have S4 := inv_suite0 (inv_adopt J4 he4 hz4.1 hz4.2 hd4 na n0 npn nL) a
          refine wpAny_mono ((hsu a (X.pn ++ pins)).run [] _ _ _ _ S4 (hyes rfl a na)) (fun f s6 hsp => ?_) (fun _ _ z => False.elim z)
          cases f with
          | next =>
            obtain ⟨σ6, H6, S6, q6⟩ := hsp
            exact ⟨_, _, inv_unsuite0 S6 ok, q6⟩
          | brk =>
            obtain ⟨σ6, H6, S6, q6⟩ := hsp
            exact ⟨_, _, inv_unsuite0 S6 ok, q6⟩
          | cont =>
            obtain ⟨σ6, H6, S6, q6⟩ := hsp
            exact ⟨_, _, inv_unsuite0 S6 ok, q6⟩
          | ret u =>
            obtain ⟨v6, σ6, H6, S6, r6, q6⟩ := hsp
            exact ⟨_, _, _, inv_unsuite0 S6 ok, r6, q6⟩
        | false =>
          show wpAny _ X.A (handleBy (.ref a) X.env hds2) _ _ _
          exact ih (hno rfl)
      | @named x n i c ts b₀ suite np pos' hds2 l2 hc hi hln hsu r ih =>
        intro w
        obtain ⟨C, dd, b, e1, e2, hb1, hyes, hno⟩ := w
        subst e1
        subst e2
        have hloc : Loc X.env.scope n := .inl hln
        refine wpAny_handleBy_cons (codeAny_handlers_test ?_) (by intro q; cases q)
        have LT : PySem.W.Looks (model X.prog X.w) h3 (typeOf (.ref a)) (.ref C) := fun A Q E s k q => wpAny_typeOf_ref (k _ _ he3) (by rw [hz3.1]; exact q)
        have LM := PySem.W.exm_one (M := model X.prog X.w) (J3.kIn) LT hb1
        have test : ∀ {Q : Value → Shared → Prop} {E : Value → Shared → Prop}, Q c { s' with heap := h3 } → wpAny (model X.prog X.w) (X.A.mark (some (.ref a))) (eval (.Name x np) X.env) Q E { s' with heap := h3 } := fun {Q E} q => by
          obtain ⟨hg, hdbg, hm | ⟨hm, hv, hnn⟩⟩ := hc
          · exact ld_glob (X := X.suite a (X.pn ++ pins)) S3 hg hm q hdbg
          · exact ld_blt (X := X.suite a (X.pn ++ pins)) S3 hg hm hv q hnn hdbg
        refine test (LM.here ?_)
        cases b with
        | true =>
          refine codeAny_handlers_suite_as ?_
          refine HandSPX.lands_againZ fl3 fun h4 fl4 up4 => ?_
          have J4 : Inv X pins σ' H' { s' with heap := h4 } := J.landed nb fl4.1 ((up.trans up3).trans up4) os ag
          obtain ⟨oe4, vs4, he4, hz4, hd4⟩ := fl4.there
          have S4 := inv_suite0 (inv_adopt J4 he4 hz4.1 hz4.2 hd4 na n0 npn nL) a
          refine store_ok (X := X.suite a (X.pn ++ pins)) (v := .ref a) S4 hN hi hloc rfl (fun s5 S5 => ?_) (.inr hln)
          refine wpAny_mono ((hsu a (X.pn ++ pins)).run [] s5 _ _ _ S5 (hyes rfl a na)) (fun f s6 hsp => ?_) (fun _ _ z => False.elim z)
          have end_ : ∀ {σ6 : L2.St} {H6 : Hp} {Q : Shared → Prop}, Inv (X.suite a (X.pn ++ pins)) [] σ6 H6 s6 → (∀ s7, Inv X pins (σ6.set i none) H6 s7 → Q s7) →
              wpAny (model X.prog X.w) X.A (do bindName X.env n .none; unbindBehindTheSuite X.env n pos') (fun _ s7 => Q s7) X.xe s6 := fun {σ6 H6 Q} S6 hq => gone_ok (inv_unsuite0 S6 ok) hN hi hln hq
          cases f with
          | next =>
            obtain ⟨σ6, H6, S6, q6⟩ := hsp
            exact end_ S6 fun s7 J7 => ⟨_, _, J7, q6⟩
          | brk =>
            obtain ⟨σ6, H6, S6, q6⟩ := hsp
            exact end_ S6 fun s7 J7 => ⟨_, _, J7, q6⟩
          | cont =>
            obtain ⟨σ6, H6, S6, q6⟩ := hsp
            exact end_ S6 fun s7 J7 => ⟨_, _, J7, q6⟩
          | ret u =>
            obtain ⟨v6, σ6, H6, S6, r6, q6⟩ := hsp
            exact end_ S6 fun s7 J7 => ⟨_, _, _, J7, r6, q6⟩
        | false =>
          show wpAny _ X.A (handleBy (.ref a) X.env hds2) _ _ _
          exact ih (hno rfl)
    exact go hh w
  · cases f with
    | next =>
      obtain ⟨σ', H', J', q⟩ := hsp
      exact wpAny_execs_nil ⟨σ', H', J'.ofTry ok, q⟩
    | brk =>
      obtain ⟨σ', H', J', q⟩ := hsp
      exact ⟨σ', H', J'.ofTry ok, q⟩
    | cont =>
      obtain ⟨σ', H', J', q⟩ := hsp
      exact ⟨σ', H', J'.ofTry ok, q⟩
    | ret u =>
      obtain ⟨v, σ', H', J', r, q⟩ := hsp
      exact ⟨v, σ', H', J'.ofTry ok, r, q⟩
end
end Py
end
section
set_option Elab.async false
set_option linter.all false
set_option maxRecDepth 100000
namespace Py
open PySem PySem.Spec PyProof.Rows L2
/-! ### exceptions: raise, try, e.f, isinstance -/
theorem ofString_inj {a b : String} (h : Str.ofString a = Str.ofString b) : a = b := by
  rw [Str.ofString_eq_toList, Str.ofString_eq_toList] at h
  have h2 : a.toList.map Char.toNat = b.toList.map Char.toNat := by
    have := congrArg (fun s : Str => s.cps.toList) h
    simpa using this
  have h3 : a.toList = b.toList := List.map_inj_right (f := Char.toNat) (fun x y e => Char.ext (UInt32.toNat_inj.mp e)) |>.mp h2
  exact String.toList_inj.mp h3
structure ClsOk (K : PySem.W.Frag) (C : Addr) : Prop where
  xf : XfC K C
  cl : (PySem.W.clsIn K C).isSome = true
  ha : PySem.W.findIn K (.ref C) "__class__" = some (some (.builtin "object.__class__"))
  hn : PySem.W.specialIn K (.builtin "object.__class__") "__get__" = some (some (.builtin "getset_descriptor.__get__"))
  ht : PySem.W.takesIn K (.builtin "object.__class__") = some true
  hm : PySem.W.mroIn K C (.type "object") = some true
/-- the written part knows the exception classes of T, and none has the names of fls -/
structure CtOk (K : PySem.W.Frag) (mg : Str → Option Value) (T : CT) (fls : List String) : Prop where
  cls : ∀ c l, T.lookup c = some l → ∀ C, mg (Str.ofString c) = some (.ref C) → ClsOk K C ∧ ∀ n ∈ fls, PySem.W.findIn K (.ref C) (Str.ofString n) = some none
/-- what d names, as an except clause or isinstance asks for it -/
structure DOk (K : PySem.W.Frag) (mg : Str → Option Value) (T : CT) (d : String) (dv : Value) : Prop where
  exm : ∀ c l, T.lookup c = some l → ∀ C, mg (Str.ofString c) = some (.ref C) → PySem.W.exmOne K (.ref C) dv = some (l.contains d)
  kit : ∀ c l, T.lookup c = some l → ∀ C, mg (Str.ofString c) = some (.ref C) → PySem.W.kitOne K (.ref C) dv = some (l.contains d)
theorem lookup_mem {α : Type} {T : List (String × α)} {c : String} {l : α} (h : T.lookup c = some l) : (c, l) ∈ T := by
  induction T with
  | nil => cases h
  | cons p T ih =>
    obtain ⟨d, m⟩ := p
    rw [List.lookup_cons] at h
    split at h
    · rename_i e
      cases h
      have e' : c = d := by simpa using e
      subst e'
      exact List.mem_cons_self ..
    · exact List.mem_cons_of_mem _ (ih h)
theorem denF_get {K : PySem.W.Frag} {mg : Str → Option Value} {B : Hp} {n : String} {d : D} : ∀ {fs : List (Str × V)} {gs : List (String × D)}, DenF K mg B fs gs → gs.lookup n = some d → ∃ v, fs.lookup (Str.ofString n) = some v ∧ Den K mg B v d
  | _, _, .nil, h => by cases h
  | _, _, @DenF.cons _ _ _ m v fs e gs h1 h2, h => by
    rw [List.lookup_cons] at h
    rw [List.lookup_cons]
    by_cases z : n = m
    · subst z
      simp only [beq_self_eq_true] at h ⊢
      cases h
      exact ⟨v, rfl, h1⟩
    · have z1 : (n == m) = false := by simpa using z
      have z2 : (Str.ofString n == Str.ofString m) = false := by
        have : Str.ofString n ≠ Str.ofString m := fun e => z (ofString_inj e)
        simpa using this
      simp only [z1] at h
      simp only [z2]
      exact denF_get h2 h
section
variable {X : Cx} {Wx : WX} {e a b c tg elt iter : Expr} {es : List Expr} {ma mb mc : M W} {pos : Pos} {μ : Mu} {B H : Hp} {σ : L2.St} {env : Env} {T : CT}
/-! e.f -/
def rExf (K : PySem.W.Frag) (n : Str) : V → Hp → VK → Prop := fun x H Q => ∃ (a C dd : Addr) (fs : List (Str × V)) (v : V), x = .ref a ∧ H a = some (exq a C dd) ∧ H dd = some (.xd fs) ∧ XfC K C ∧ PySem.W.findIn K (.ref C) n = some none ∧ fs.lookup n = some v ∧ Q v H
theorem pe_exf {n : Str} {te : TE} (he : PE X e te) (hb : attributeBase e n X.env (eval e X.env) = eval e X.env := by rfl) : PE X (.Attribute e n pos) (fun σ H Q => te σ H fun x H1 => rExf X.K n x H1 Q) := by
  refine ⟨fun pins s σ H Q I h => ?_⟩
  refine attr_of hb (thn (he.run pins s σ H _ I h) fun u s1 hh => ?_)
  obtain ⟨x, H1, I1, rx, a, C, dd, fs, v, ex, ea, ed, T, hno, l, q⟩ := hh
  subst ex
  obtain rfl : u = Value.ref a := rx
  have xa : ObjOk X.prog X.w H1 s1.heap a (exq a C dd) := I1.hok a _ ea
  obtain ⟨o, vs, ha, k1, k2, k3⟩ := xa.1
  have hx : ObjOk X.prog X.w H1 s1.heap dd (.xd fs) := I1.hok dd _ ed
  obtain ⟨mA, hns, hr⟩ := hx
  obtain ⟨od, ho, hl⟩ := lookIn_ns hns
  obtain ⟨u, hu, ru⟩ := RelO.some_of (v := v) (o := mA n) (by rw [← l]; exact hr n)
  have J : PySem.W.InstAt s1.heap a o C (some od) := ⟨ha, k1, by unfold PySem.W.notCls; rw [k3] <;> rfl, by rw [k2]; exact ho⟩
  exact HandSPX.exc_get I1.kIn J T.ga T.gg T.exC (PySem.W.findObj_own T.hdC hno rfl (by rw [hl, hu])) (handed_of ru) ⟨v, H1, I1.tok _, ru, q⟩
theorem View.exn {K : PySem.W.Frag} {mg : Str → Option Value} {v : V} {c : String} {gs : List (String × D)} (ex : Same B H) (h : View K mg B H v (.exn c gs)) :
    ∃ a C dd fs, v = .ref a ∧ H a = some (exq a C dd) ∧ H dd = some (.xd fs) ∧ mg (Str.ofString c) = some (.ref C) ∧ DenF K mg B fs gs := by
  rcases h with h | ⟨a, k, h1, h2, h3⟩
  · cases h with
    | exn h1 h2 h3 h4 => exact ⟨_, _, _, _, rfl, ex _ _ h1, ex _ _ h2, h3, h4⟩
  · cases k <;> cases h2
theorem se_exf {fls : List String} {n : String} {x : Str} (ct : CtOk X.K X.mg T fls) (hn : n ∈ fls) (ha : SE X Wx a ma) (hx : x = Str.ofString n := by rfl) (hb : attributeBase a x X.env (eval a X.env) = eval a X.env := by rfl) : SE X Wx (.Attribute a x pos) (eUn (oAttr T n) ma) := by
  subst hx
  obtain ⟨ta, pa, sa⟩ := ha.ex
  refine .of ⟨_, pe_exf pa hb, snd_un (r := rExf X.K (Str.ofString n)) (fun B H x d w Q ex vx q k => ?_) sa⟩
  cases d with
  | exn c gs =>
    simp only [oAttr] at q
    cases z : T.lookup c with
    | none => rw [z] at q; cases q
    | some l =>
      rw [z] at q
      simp only [Option.bind_some] at q
      cases z2 : gs.lookup n with
      | none => rw [z2] at q; cases q
      | some t =>
        rw [z2] at q
        cases q
        obtain ⟨a, C, dd, fs, rfl, h1, h2, h3, h4⟩ := vx.exn ex
        obtain ⟨v, h5, h6⟩ := denF_get h4 z2
        obtain ⟨h7, h8⟩ := ct.cls c l z C h3
        exact ⟨a, C, dd, fs, v, rfl, h1, h2, h7.xf, h8 n hn, h5, k _ _ (.inl ⟨rfl, h6⟩)⟩
  | _ => cases q
/-! isinstance(e, d) -/
def rIsX (K : PySem.W.Frag) (cv : Value) : V → Hp → VK → Prop := fun x H Q => ∃ (a C dd : Addr) (fs : List (Str × V)) (b : Bool), x = .ref a ∧ H a = some (exq a C dd) ∧ H dd = some (.xd fs) ∧ ClsOk K C ∧ PySem.W.kitOne K (.ref C) cv = some b ∧ Q (.bl b) H
theorem call_isX {c : V} {cv : Value} (hcv : ∀ u, RelV c u → u = cv) : CallR X (.builtin "isinstance") (fun xs H Q => ∃ x, xs = [x, c] ∧ rIsX X.K cv x H Q) := by
  intro pins s σ H xs us Q I r h
  obtain ⟨x, rfl, a, C, dd, fs, b, rfl, ea, ed, hc, hk, q⟩ := h
  cases r with
  | cons rx rr =>
    cases rr with
    | cons rt rr =>
      cases rr
      cases rx
      have ec := hcv _ rt
      subst ec
      have xa : ObjOk X.prog X.w H s.heap a (exq a C dd) := I.hok a _ ea
      obtain ⟨o, vs, ha, k1, k2, k3⟩ := xa.1
      have hx : ObjOk X.prog X.w H s.heap dd (.xd fs) := I.hok dd _ ed
      obtain ⟨mA, hns, hr⟩ := hx
      obtain ⟨od, ho, hl⟩ := lookIn_ns hns
      have J : PySem.W.InstAt s.heap a o C (some od) := ⟨ha, k1, by unfold PySem.W.notCls; rw [k3] <;> rfl, by rw [k2]; exact ho⟩
      exact PySem.W.kia_one (PySem.W.kitx_exc hc.cl hc.xf.ga hc.xf.gg hc.xf.exC hc.ha hc.hn hc.ht hc.hm) I.kIn J hk (fun z => nomatch z) fun tk => ⟨.bl b, H, I.kept (t' := tk) fun _ _ z => z, rfl, q⟩
theorem se_isX {fls : List String} {d : String} {dv : Value} {c : V} {p0 : Pos} (ct : CtOk X.K X.mg T fls) (hd : DOk X.K X.mg T d dv) (hcv : ∀ u, RelV c u → u = dv) (hm : X.mg "isinstance" = none) (ha : SE X Wx a ma) (hb : PE X b (tC c)) (hg : Gl X "isinstance" := by rfl)
    (he : starEach [a, b] X.env = (false, eval a X.env) :: starEach [b] X.env := by rfl) (he2 : starEach [b] X.env = [(false, eval b X.env)] := by rfl) (hpl : (backTo pos (starEach [b] X.env)).any (·.1) = false := by rfl) :
    SE X Wx (.Call (.Name "isinstance" p0) [a, b] [] pos) (eUn (oIsC T d) ma) := by
  obtain ⟨ta, pa, sa⟩ := ha.ex
  have pp := pe_callB (p := p0) (pos := pos) (call_isX (X := X) (c := c) hcv) hg hm (by decide +kernel) (pa_cons pa (pa_cons hb pa_nil (by exact he2)) (by rw [he, he2])) (by decide) (by decide) he hpl
  refine .of ⟨_, pp, fun e μ B H σ Q rl h => ?_⟩
  refine Snd.bnd (t := ta) (R' := fun x H1 => ∃ y, [x, c] = [y, c] ∧ rIsX X.K dv y H1 Q) sa Ext.refl rl h fun wa e1 x μ1 B1 H1 x1 _ r1 d1 p1 => ?_
  cases q1 : vw wa e1 with
  | none => rw [q1] at p1; exact p1.elim
  | some u =>
    rw [q1] at p1
    simp only at p1
    have vx := view_of r1 d1 q1
    cases u with
    | exn k' gs =>
      simp only [oIsC, isSub] at p1
      cases z : T.lookup k' with
      | none => rw [z] at p1; exact p1.elim
      | some l =>
        rw [z] at p1
        obtain ⟨a, C, dd, fs, rfl, h1, h2, h3, h4⟩ := vx.exn r1.ex
        obtain ⟨h7, _⟩ := ct.cls k' l z C h3
        exact ⟨_, rfl, a, C, dd, fs, l.contains d, rfl, h1, h2, h7, hd.kit k' l z C h3, p1.ok x1 r1 (show DenW X.K X.mg X.N.length H μ1 B1 H1 σ (.bl (l.contains d)) (.d (.bl (l.contains d))) from .bl _)⟩
    | _ => exact p1.elim
/-! raise -/
/-- what __init__ does: its parameters are stored one by one -/
def spI (K : PySem.W.Frag) (fs : List Str) : Sp := fun vs H Q _ => ∃ (a C : Addr) (ys : List V), vs = .ref a :: ys ∧ ys.length = fs.length ∧ OexC K C ∧ (∀ f ∈ fs, PySem.W.findIn K (.ref C) f = some none) ∧ H a = some (exo a C none) ∧
  ∀ dx, H dx = none → dx ≠ a → Q .non (L2.upd (L2.upd H dx (exd dx (fs.zip ys).reverse)) a (exo a C (some dx)))
theorem denF_app {K : PySem.W.Frag} {mg : Str → Option Value} {B : Hp} : ∀ {fs : List (Str × V)} {gs : List (String × D)} {fs2 : List (Str × V)} {gs2 : List (String × D)}, DenF K mg B fs gs → DenF K mg B fs2 gs2 → DenF K mg B (fs ++ fs2) (gs ++ gs2)
  | _, _, _, _, .nil, r => r
  | _, _, _, _, .cons h t, r => .cons h (denF_app t r)
theorem denF_zip {K : PySem.W.Frag} {mg : Str → Option Value} {B : Hp} : ∀ {ns : List String} {vs : List V} {ds : List D}, DenAll K mg B vs ds → DenF K mg B (((ns.map Str.ofString).zip vs).reverse) ((ns.zip ds).reverse)
  | [], _, _, _ => .nil
  | n :: ns, _, _, .nil => .nil
  | n :: ns, _, _, .cons h t => by
    simp only [List.map_cons, List.zip_cons_cons, List.reverse_cons]
    exact denF_app (denF_zip t) (.cons h .nil)
theorem dats_all {K : PySem.W.Frag} {mg : Str → Option Value} {N : Nat} {H0 B H : Hp} {μ : Mu} : ∀ {vs : List V} {ws : List W} {ds : List D}, Paired (fun v w => DenW K mg N H0 μ B H σ v w) vs ws → dats ws = some ds → DenAll K mg B vs ds
  | _, _, _, .nil, h => by cases h; exact .nil
  | _, _, _, @Paired.cons _ _ _ v w vs ws h r, q => by
    cases w with
    | d x =>
      rw [dats] at q
      cases z : dats ws with
      | none => rw [z] at q; cases q
      | some es =>
        rw [z] at q
        cases q
        exact .cons h (dats_all r z)
    | fr c => cases q
    | pl i => cases q
theorem ss_raise {c : String} {ns : List String} {C : Addr} {ms : M (List W)} (hc : X.calm = true) (tk : Takes X Wx) (hm : X.mg (Str.ofString c) = some (.ref C)) (ox : OexC X.K C) (hf : ∀ f ∈ ns.map Str.ofString, PySem.W.findIn X.K (.ref C) f = some none)
    (he : ∀ ta, PA X es ta → PMk X e (tMkO C (spI X.K (ns.map Str.ofString)) [] ta)) (ha : SA X Wx es ms) (hl0 : ns.length ≤ 1000 := by decide) : SS X Wx (.Raise (some e) none pos) (sRaise c ns ms) := by
  obtain ⟨ta, pa, sa⟩ := ha.ex
  refine .of ⟨_, L2.ps_raise hc tk (he ta pa), fun e μ B H σ D rl p => ?_⟩
  refine Snd.bndS (t := ta) (R' := fun vs H1 => vs.length ≤ 1000 ∧ ∀ a, H1 a = none → spI X.K (ns.map Str.ofString) (.ref a :: (vs ++ [])) (L2.upd H1 a (exo a C none))
    (fun v H2 => v = .non ∧ ∃ (d : Addr) (fs : List (Str × V)), H2 a = some (exo a C (some d)) ∧ H2 d = some (exd d fs) ∧ H1 d = none ∧ Wx (.ref C) (some d) σ (L2.upd (del H2 a) d (.xd fs))) (fun _ _ _ => False)) sa Ext.refl rl p fun ws e1 vs μ1 B1 H1 x1 _ r1 d1 p1 _ => ?_
  cases z : dats ws with
  | none => rw [z] at p1; exact p1.elim
  | some ds =>
    rw [z] at p1
    simp only at p1
    have da := dats_all d1 z
    by_cases hl : ds.length = ns.length
    · rw [if_pos hl] at p1
      have hlv : vs.length = ns.length := da.length.trans hl
      refine ⟨by omega, fun a na => ⟨a, C, vs, by simp, by rw [hlv, List.length_map], ox, hf, upd_same, fun dx hdx hne => ⟨rfl, dx, _, upd_same, by rw [upd_ne hne]; exact upd_same, by rw [upd_ne hne] at hdx; exact hdx, ?_⟩⟩⟩
      have hd : H1 dx = none := by rw [upd_ne hne] at hdx; exact hdx
      have eq : L2.upd (del (L2.upd (L2.upd (L2.upd H1 a (exo a C none)) dx (exd dx (((ns.map Str.ofString).zip vs).reverse))) a (exo a C (some dx))) a) dx (.xd (((ns.map Str.ofString).zip vs).reverse)) = L2.upd H1 dx (.xd (((ns.map Str.ofString).zip vs).reverse)) := by
        funext b
        by_cases h1 : b = dx
        · subst h1; rw [upd_same, upd_same]
        · rw [upd_ne h1, upd_ne h1]
          by_cases h2 : b = a
          · subst h2; rw [del_same, na]
          · rw [del_ne h2, upd_ne h2, upd_ne h1, upd_ne h2]
      rw [eq]
      exact p1 (.ref C) (some dx) σ μ1 B1 _ (x1.trans (ext_new hd)) (r1.new hd) ⟨C, dx, _, rfl, rfl, hm, upd_same, denF_zip da, none_back x1.t hd⟩
    · rw [if_neg hl] at p1
      exact p1.elim
/-! try -/
inductive HR (X : Cx) (T : CT) : List (Value × Option Nat × TS) → List Hn → Prop
  | nil : HR X T [] []
  | cons {dv : Value} {d : String} {n : Option Nat} {m : M Ctl} {l : List (Value × Option Nat × TS)} {hs : List Hn} (hd : DOk X.K X.mg T d dv) (hi : ∀ i, n = some i → i < X.N.length) (r : HR X T l hs) :
      HR X T ((dv, n, rdS X.K X.mg X.N.length W0 m) :: l) (⟨d, n, m⟩ :: hs)
structure SHds (X : Cx) (T : CT) (hds : List ExceptHandler) (hs : List Hn) : Prop where
  p : ∃ l, HdsG X hds l ∧ HR X T l hs
theorem sh_nil : SHds X T [] [] := ⟨[], .nil, .nil⟩
theorem sh_one {d : String} {dv : Value} {x : Str} {m : M Ctl} {b₀ : Stmt} {suite : List Stmt} {np pos' : Pos} {hds : List ExceptHandler} {hs : List Hn} (hd : DOk X.K X.mg T d dv) (hc : Names X x dv) (h : ∀ (a : Addr) (pn : List (Addr × Obj)), SSs (X.suite a pn) W0 (b₀ :: suite) m) (r : SHds X T hds hs) :
    SHds X T (.ExceptHandler (some (.Name x np)) none (b₀ :: suite) pos' :: hds) (⟨d, none, m⟩ :: hs) := by
  obtain ⟨l, h1, h2⟩ := r.p
  exact ⟨_, .one hc (fun a pn => (h a pn).p) h1, .cons hd (fun i z => nomatch z) h2⟩
theorem sh_named {d : String} {dv : Value} {x n : Str} {i : Nat} {m : M Ctl} {b₀ : Stmt} {suite : List Stmt} {np pos' : Pos} {hds : List ExceptHandler} {hs : List Hn} (hd : DOk X.K X.mg T d dv) (hc : Names X x dv) (h : ∀ (a : Addr) (pn : List (Addr × Obj)), SSs (X.suite a pn) W0 (b₀ :: suite) m) (r : SHds X T hds hs) (hi : X.N[i]? = some n := by rfl)
    (hln : X.env.kindOf n = some .local := by rfl) : SHds X T (.ExceptHandler (some (.Name x np)) (some n) (b₀ :: suite) pos' :: hds) (⟨d, some i, m⟩ :: hs) := by
  obtain ⟨l, h1, h2⟩ := r.p
  exact ⟨_, .named hc hi hln (fun a pn => (h a pn).p) h1, .cons hd (fun j z => by cases z; exact (List.getElem?_eq_some_iff.mp hi).1) h2⟩
theorem ext_addG {N : Nat} {μ' : Mu} {B' H' : Hp} {p : Addr} {o : HO} (x : Ext N μ B H μ' B' H') (hB : B' p = none) (hp : H p = none) : Ext N μ B H μ' (L2.upd B' p o) H' :=
  ⟨x.b.trans (same_new hB), x.h, x.m, fun a u q => by
    by_cases hz : a = p
    · subst hz; exact .inr (.inl hp)
    · rw [upd_ne hz] at q; exact x.n a u q, x.l, x.t⟩
theorem nomu_xd {K : PySem.W.Frag} {mg : Str → Option Value} {N : Nat} {dd : Addr} {fs : List (Str × V)} (r : Rel K mg N env μ B H σ) (h : H dd = some (.xd fs)) : ∀ i, μ i ≠ some dd := fun i q => by
  have key : ∀ c, CellAt K mg B H dd c → False := fun c z => by
    cases c with
    | lst ds => obtain ⟨xs, e, _⟩ := z; rw [h] at e; cases e
    | obj c gs => obtain ⟨C, dx, fs, e, _⟩ := z; rw [h] at e; cases e
  by_cases hi : i < env.length
  · have c := r.cell i env[i] (List.getElem?_eq_getElem hi)
    cases hs : env[i] with
    | own c' => rw [hs] at c; obtain ⟨a, h1, _, h3⟩ := c; rw [h1] at q; cases q; exact key _ h3
    | lent c' => rw [hs] at c; obtain ⟨a, h1, _, h3⟩ := c; rw [h1] at q; cases q; exact key _ h3
    | un => rw [hs] at c; rw [show μ i = none from c] at q; cases q
    | val d => rw [hs] at c; rw [show μ i = none from c] at q; cases q
    | al h => rw [hs] at c; rw [show μ i = none from c] at q; cases q
  · rw [r.out i (by omega)] at q; cases q
/-- the caught exception is data -/
theorem adopt {K : PySem.W.Frag} {mg : Str → Option Value} {N : Nat} {μ' : Mu} {B' H' : Hp} {C dd a : Addr} {fs : List (Str × V)} {c : String} {gs : List (String × D)} (x : Ext N μ B H μ' B' H') (r : Rel K mg N env μ' B' H' σ) (hm : mg (Str.ofString c) = some (.ref C))
    (hx : H' dd = some (.xd fs)) (hf : DenF K mg B' fs gs) (h0 : H dd = none) (na : H' a = none) :
    ∃ B2, Ext N μ B H μ' B2 (L2.upd H' a (exq a C dd)) ∧ Rel K mg N env μ' B2 (L2.upd H' a (exq a C dd)) σ ∧ Den K mg B2 (.ref a) (.exn c gs) := by
  have nda : dd ≠ a := fun z => by rw [z, na] at hx; cases hx
  have x1 := x.trans (ext_new (N := N) (μ := μ') (B := B') (o := exq a C dd) na)
  have r1 := r.new (o := exq a C dd) na
  have hBa := r.base na
  have x2 := ext_addG (o := exq a C dd) x1 hBa (none_back x.t na)
  have r2 := r1.add hBa upd_same (r.nomu na)
  have hx2 : L2.upd H' a (exq a C dd) dd = some (.xd fs) := by rw [upd_ne nda]; exact hx
  cases q : L2.upd B' a (exq a C dd) dd with
  | none =>
    refine ⟨_, ext_addG (o := .xd fs) x2 q h0, r2.add q hx2 (nomu_xd r2 hx2), ?_⟩
    refine .exn (C := C) (d := dd) ?_ upd_same hm ((hf.mono (same_new hBa)).mono (same_new q))
    rw [upd_ne (Ne.symm nda)]
    exact upd_same
  | some u =>
    have e := r2.ex dd u q
    rw [hx2] at e
    cases e
    exact ⟨_, x2, r2, .exn upd_same q hm (hf.mono (same_new hBa))⟩
theorem ss_try {mb : M Ctl} {body : List Stmt} {h₀ : ExceptHandler} {hds : List ExceptHandler} {hs : List Hn} (hN : X.N.Nodup) (tk : Takes X Wx)
    (hb : ∀ (W : WX) (pn : List (Addr × Obj)) (xe : Value → Shared → Prop), Takes (X.tr pn xe) W → PassesOwn (model X.prog X.w) X.A X.env xe → SSs (X.tr pn xe) W body mb)
    (hh : SHds X T (h₀ :: hds) hs) (hst : X.stack = X.env :: X.outer := by rfl) (hfr : X.env.frame = some X.env.locals := by rfl) (hex : X.ex = [] := by rfl) : SS X Wx (.Try body (h₀ :: hds) [] [] pos) (sTry T mb hs) := by
  obtain ⟨l, h1, h2⟩ := hh.p
  refine .of ⟨_, ps_try_gen (tb := fun W => rdS X.K X.mg X.N.length W mb) hst hfr hex hN tk (fun W pn xe tk' po => (hb W pn xe tk' po).p) h1, fun e μ B H σ D rl p => ?_⟩
  refine ⟨e, μ, B, rl, ?_⟩
  unfold sTry at p
  cases q : mb e with
  | fail => rw [q] at p; exact p.elim
  | ok c e1 =>
    rw [q] at p
    cases c with
    | next => exact p
    | brk => exact p
    | cont => exact p
    | ret w => exact p
  | exc x e1 =>
    rw [q] at p
    intro cls d σ' μ' B' H' xt r dx
    obtain ⟨C, dd, fs, rfl, rfl, hm, hx, hf, h0⟩ := dx
    have key : ∀ {l : List (Value × Option Nat × TS)} {hs : List Hn}, HR X T l hs → PostS X.K X.mg X.N.length Wx μ B H D (pick T x hs e1) → wGen X.K Wx D l (.ref C) (some dd) σ' H' := by
      intro l hs hr
      induction hr with
      | nil => exact fun p => p _ _ _ _ _ _ xt r ⟨C, dd, fs, rfl, rfl, hm, hx, hf, h0⟩
      | @cons dv d n m l hs hd hi hr ih =>
        intro p
        unfold pick isSub at p
        simp only at p
        cases z : T.lookup x.c with
        | none => rw [z] at p; exact p.elim
        | some cs =>
          rw [z] at p
          simp only [Option.map_some] at p
          refine ⟨C, dd, cs.contains d, rfl, rfl, hd.exm x.c cs z C hm, fun hb a na => ?_, fun hb => ?_⟩
          · rw [hb] at p
            obtain ⟨B2, x2, r2, den⟩ := adopt xt r hm hx hf h0 na
            cases n with
            | none =>
              simp only [caught] at p
              refine ⟨e1, μ', B2, r2, ?_⟩
              cases q2 : m e1 with
              | fail => rw [q2] at p; exact p.elim
              | exc y e2 => rw [q2] at p; exact p.elim
              | ok c e2 =>
                rw [q2] at p
                cases c with
                | next => exact PostS.go x2 p
                | brk => exact PostS.go x2 p
                | cont => exact PostS.go x2 p
                | ret w => exact PostS.go (D := D) (r := .ok (.ret w) e2) x2 p
            | some i =>
              have hi' := hi i rfl
              simp only [caught] at p
              have r3 := r2.setName hi' den
              have x3 := x2.trans (ext_cut hi')
              refine ⟨_, _, B2, r3, ?_⟩
              have back_ : ∀ {σ3 : L2.St} {μ3 : Mu} {B3 H3 : Hp} {e2 : Env}, Ext X.N.length (cutMu μ' i) B2 (L2.upd H' a (exq a C dd)) μ3 B3 H3 → Rel X.K X.mg X.N.length e2 μ3 B3 H3 σ3 →
                  Ext X.N.length μ B H (cutMu μ3 i) B3 H3 ∧ Rel X.K X.mg X.N.length (e2.set i .un) (cutMu μ3 i) B3 H3 (σ3.set i none) := fun {σ3 μ3 B3 H3 e2} x4 r4 =>
                ⟨(x3.trans x4).trans (ext_cut hi'), (r4.un hi').sig (o := none) (List.getElem?_set_self (Nat.lt_of_lt_of_le hi' r4.le))⟩
              cases q2 : m (e1.set i (.val (.exn x.c x.fs))) with
              | fail => rw [q2] at p; exact p.elim
              | exc y e2 => rw [q2] at p; exact p.elim
              | ok c e2 =>
                rw [q2] at p
                cases c with
                | next => exact fun σ3 μ3 B3 H3 x4 r4 => p _ _ _ _ (back_ x4 r4).1 (back_ x4 r4).2
                | brk => exact fun σ3 μ3 B3 H3 x4 r4 => p _ _ _ _ (back_ x4 r4).1 (back_ x4 r4).2
                | cont => exact fun σ3 μ3 B3 H3 x4 r4 => p _ _ _ _ (back_ x4 r4).1 (back_ x4 r4).2
                | ret w => exact fun v σ3 μ3 B3 H3 x4 r4 dw => p v _ _ _ _ (x3.trans x4) r4 (dw.back x3.t)
          · rw [hb] at p
            exact ih p
    exact key h2 p
end
end Py
end
section
set_option Elab.async false
set_option linter.all false
set_option maxRecDepth 100000
namespace Py
open PySem PySem.Spec PyProof.Rows L2
/-! ### the exception classes of a module -/
structure ErrT (K : PySem.W.Frag) (mg : Str → Option Value) (c : String) (qual : Str) (st : Stmt) (ps : List Str) where
  C : Addr
  fI : Addr
  fd : FuncData
  m : mg (Str.ofString c) = some (.ref C)
  ox : OexC K C
  ok : ClsOk K C
  iC : PySem.W.findIn K (.ref C) "__init__" = some (some (.ref fI))
  tI : PySem.W.typeIn K (.ref fI) = some (.type "function")
  F : Fun K "__init__" qual st fI fd
  b : Binds K fd ps []
section
variable {P : Program} {w : World} {K : PySem.W.Frag} {mg : Str → Option Value} {base : Heap}
theorem init1 {f qual : Str} {st : Stmt} {fI : Addr} {fd : FuncData} (F : Fun K "__init__" qual st fI fd) (S : FnScope ["self", f] ["self", f] (defScope st))
    (hb : ∀ (cdv : Value) (A : Around) (outer : List PySem.Env) (s : Shared) (H : Hp) (E : XK), PSs (cxOf CX0 P w K mg base ["self", f] qual (defScope st) fI cdv A outer s H E).nox (defBody st) (tOst K f (tVar 0) (tVar 1))) :
    FnOk P w K mg base CX0 1 fI fd ["self", f] (spI K [f]) := by
  refine F.ok S (fun vs H Q E h => ?_) (fun cdv A outer s H vs Q E hr h => ⟨_, hb cdv A outer s H E, ?_⟩)
  · obtain ⟨a, C, ys, rfl, hl, _⟩ := h
    rw [List.length_cons, hl]
    rfl
  · obtain ⟨a, C, ys, rfl, hl, ox, hf, ha, q⟩ := h
    match ys, hl with
    | [y], _ => exact ⟨y, rfl, .ref a, rfl, a, C, rfl, ox, hf f (List.mem_cons_self ..), .inl ⟨ha, fun dx n ne => q dx n ne⟩⟩
theorem init2 {f g qual : Str} {st : Stmt} {fI : Addr} {fd : FuncData} (F : Fun K "__init__" qual st fI fd) (S : FnScope ["self", f, g] ["self", f, g] (defScope st))
    (hb : ∀ (cdv : Value) (A : Around) (outer : List PySem.Env) (s : Shared) (H : Hp) (E : XK), ∃ t, PSs (cxOf CX0 P w K mg base ["self", f, g] qual (defScope st) fI cdv A outer s H E).nox (defBody st) t ∧
      ∀ D σ H, tOst K f (tVar 0) (tVar 1) { D with nx := fun σ' H' => tOst K g (tVar 0) (tVar 2) D σ' H' } σ H → t D σ H) :
    FnOk P w K mg base CX0 1 fI fd ["self", f, g] (spI K [f, g]) := by
  refine F.ok S (fun vs H Q E h => ?_) (fun cdv A outer s H vs Q E hr h => ?_)
  · obtain ⟨a, C, ys, rfl, hl, _⟩ := h
    rw [List.length_cons, hl]
    rfl
  · obtain ⟨t, pt, ht⟩ := hb cdv A outer s H E
    refine ⟨t, pt, ht _ _ _ ?_⟩
    obtain ⟨a, C, ys, rfl, hl, ox, hf, ha, q⟩ := h
    match ys, hl with
    | [y, z], _ =>
      refine ⟨y, rfl, .ref a, rfl, a, C, rfl, ox, hf f (List.mem_cons_self ..), .inl ⟨ha, fun dx n ne => ?_⟩⟩
      refine ⟨z, rfl, .ref a, rfl, a, C, rfl, ox, hf g (List.mem_cons_of_mem _ (List.mem_cons_self ..)), .inr ⟨dx, [(f, y)], upd_same, by rw [upd_ne ne]; exact upd_same, by show 1 ≤ 900; decide, ?_⟩⟩
      have e : L2.upd (L2.upd (L2.upd H dx (exd dx [(f, y)])) a (exo a C (some dx))) dx (exd dx [(g, z), (f, y)]) = L2.upd (L2.upd H dx (exd dx [(g, z), (f, y)])) a (exo a C (some dx)) := by
        funext b
        by_cases h1 : b = dx
        · subst h1; rw [upd_same, upd_ne ne, upd_same]
        · by_cases h2 : b = a
          · subst h2; rw [upd_ne h1, upd_same, upd_same]
          · rw [upd_ne h1, upd_ne h2, upd_ne h1, upd_ne h2, upd_ne h1]
      have q2 : Q .non (L2.upd (L2.upd H dx (exd dx [(g, z), (f, y)])) a (exo a C (some dx))) := q dx n ne
      rw [← e] at q2
      exact q2
end
section
variable {X : Cx} {Wx : WX} {e : Expr} {es : List Expr} {pos : Pos}
theorem mk_err {c : String} {qual x : Str} {st : Stmt} {ps fs : List Str} {k : Nat} {p0 : Pos} (T : ErrT X.K X.mg c qual st ps) (F1 : FnOk X.prog X.w X.K X.mg X.base CX0 1 T.fI T.fd ps (spI X.K fs)) (hr : Roomy k X.A) (hk : 2 ≤ k) (hx : x = Str.ofString c) (hg : Gl X x)
    (hdb : (x == ("__debug__" : Str)) = false) (he : starEach (e :: es) X.env = (false, eval e X.env) :: starEach es X.env) (hpl : (backTo pos (starEach es X.env)).any (·.1) = false) (ta : TA) (ha : PA X (e :: es) ta) :
    PMk X (.Call (.Name x p0) (e :: es) [] pos) (tMkO T.C (spI X.K fs) [] ta) := by
  subst hx
  exact pmk_oex T.ox T.iC T.tI F1 (hr.r.mono hk) T.b .nil (fun _ _ _ _ _ _ _ h => h.elim) hg T.m ha hdb he hpl
theorem ss_raiseC {c : String} {ns : List String} {qual x : Str} {st : Stmt} {ps : List Str} {k : Nat} {p0 p1 : Pos} {ms : M (List W)} (T : ErrT X.K X.mg c qual st ps) (F1 : FnOk X.prog X.w X.K X.mg X.base CX0 1 T.fI T.fd ps (spI X.K (ns.map Str.ofString))) (hr : Roomy k X.A) (tk : Takes X Wx)
    (hf : ∀ f ∈ ns.map Str.ofString, PySem.W.findIn X.K (.ref T.C) f = some none) (ha : SA X Wx (e :: es) ms) (hk : 2 ≤ k := by decide) (hc : X.calm = true := by rfl) (hx : x = Str.ofString c := by rfl) (hg : Gl X x := by rfl)
    (hdb : (x == ("__debug__" : Str)) = false := by decide) (he : starEach (e :: es) X.env = (false, eval e X.env) :: starEach es X.env := by rfl) (hpl : (backTo p1 (starEach es X.env)).any (·.1) = false := by rfl) (hl0 : ns.length ≤ 1000 := by decide) :
    SS X Wx (.Raise (some (.Call (.Name x p0) (e :: es) [] p1)) none pos) (sRaise c ns ms) :=
  ss_raise hc tk T.m T.ox hf (fun ta pa => mk_err T F1 hr hk hx hg hdb he hpl ta pa) ha hl0
end
/-- a class of the written part -/
theorem clsOk_of {K : PySem.W.Frag} {C : Addr} (h1 : PySem.W.findIn K (.ref C) "__getattribute__" = some (some (.builtin "BaseException.__getattribute__"))) (h2 : PySem.W.findIn K (.ref C) "__getattr__" = some none) (h3 : PySem.W.subIn K (.ref C) (.type "BaseException") = some true) (h4 : PySem.W.hasDictIn K C = true)
    (h5 : PySem.W.findIn K (.ref C) "__class__" = some (some (.builtin "object.__class__"))) (h6 : PySem.W.specialIn K (.builtin "object.__class__") "__get__" = some (some (.builtin "getset_descriptor.__get__"))) (h7 : PySem.W.takesIn K (.builtin "object.__class__") = some true) (h8 : PySem.W.mroIn K C (.type "object") = some true)
    (h9 : PySem.W.isClsIn K C = true) : ClsOk K C := ⟨⟨h1, h2, h3, h4⟩, h9, h5, h6, h7, h8⟩
/-- an own class in an except clause, in isinstance -/
theorem dok_at {K : PySem.W.Frag} {C D : Addr} {b : Bool} (hs : PySem.W.subIn K (.ref C) (.ref D) = some b) (h1 : PySem.W.subIn K (.ref D) (.type "BaseException") = some true) (h2 : PySem.W.isClsIn K D = true) (h3 : PySem.W.typeIn K (.ref D) = some (.type "type")) (hb : C = D → b = true) :
    PySem.W.exmOne K (.ref C) (.ref D) = some b ∧ PySem.W.kitOne K (.ref C) (.ref D) = some b := by
  have e1 : (PySem.W.subIn K (.ref D) (.type "BaseException") == some true) = true := by rw [h1]; rfl
  have e2 : ((PySem.W.clsIn K D).isSome && PySem.W.typeIn K (.ref D) == some (.type "type")) = true := by
    rw [show (PySem.W.clsIn K D).isSome = true from h2, h3]
    rfl
  have e3 : PySem.W.kitCls K (.ref C) (.ref D) = some b := by
    show (if ((PySem.W.clsIn K D).isSome && PySem.W.typeIn K (.ref D) == some (.type "type")) = true then PySem.W.subIn K (.ref C) (.ref D) else none) = some b
    rw [if_pos e2]
    exact hs
  refine ⟨?_, ?_⟩
  · unfold PySem.W.exmOne
    rw [if_pos e1]
    exact e3
  · unfold PySem.W.kitOne
    by_cases z : C = D
    · subst z
      rw [if_pos (beq_self_eq_true _), hb rfl]
    · rw [if_neg (by simpa using z)]
      exact e3
theorem dok_VE {K : PySem.W.Frag} {C : Addr} (hs : PySem.W.subIn K (.ref C) (.type "ValueError") = some true) : PySem.W.exmOne K (.ref C) (.type "ValueError") = some true ∧ PySem.W.kitOne K (.ref C) (.type "ValueError") = some true := by
  have e3 : PySem.W.kitCls K (.ref C) (.type "ValueError") = some true := by
    show (if PySem.W.kitMeta "ValueError" = true then PySem.W.subIn K (.ref C) (.type "ValueError") else none) = some true
    rw [if_pos (by decide +kernel)]
    exact hs
  have e1 : (PySem.W.subIn K (.type "ValueError") (.type "BaseException") == some true) = true := by
    show ((PySem.fastBuiltinMro "ValueError").map (·.contains (Value.type "BaseException")) == some true) = true
    decide +kernel
  refine ⟨?_, ?_⟩
  · unfold PySem.W.exmOne
    rw [if_pos e1]
    exact e3
  · unfold PySem.W.kitOne
    rw [if_neg (by simp)]
    exact e3
theorem kit_VE {K : PySem.W.Frag} {C : Addr} (hs : PySem.W.subIn K (.ref C) (.type "ValueError") = some true) : PySem.W.kitOne K (.ref C) (.type "ValueError") = some true := by
  unfold PySem.W.kitOne
  rw [if_neg (by simp)]
  show (if PySem.W.kitMeta "ValueError" = true then PySem.W.subIn K (.ref C) (.type "ValueError") else none) = some true
  rw [if_pos (by decide +kernel)]
  exact hs
theorem forall_nil {α : Type} {p : α → Prop} : ∀ x ∈ ([] : List α), p x := fun x h => by cases h
theorem forall_cons {α : Type} {p : α → Prop} {a : α} {l : List α} (h : p a) (r : ∀ x ∈ l, p x) : ∀ x ∈ a :: l, p x := fun x hx => by
  rcases List.mem_cons.mp hx with rfl | hx
  · exact h
  · exact r x hx
theorem ct_mk {K : PySem.W.Frag} {mg : Str → Option Value} {T : CT} {fls : List String} (h : ∀ p ∈ T, ∃ C, mg (Str.ofString p.1) = some (.ref C) ∧ ClsOk K C ∧ ∀ n ∈ fls, PySem.W.findIn K (.ref C) (Str.ofString n) = some none) : CtOk K mg T fls :=
  ⟨fun c l z C hm => by
    obtain ⟨C', h1, h2⟩ := h _ (lookup_mem z)
    rw [hm] at h1
    cases h1
    exact h2⟩
theorem d_mk {K : PySem.W.Frag} {mg : Str → Option Value} {T : CT} {d : String} {dv : Value} (h : ∀ p ∈ T, ∃ C, mg (Str.ofString p.1) = some (.ref C) ∧ PySem.W.exmOne K (.ref C) dv = some (p.2.contains d) ∧ PySem.W.kitOne K (.ref C) dv = some (p.2.contains d)) : DOk K mg T d dv :=
  ⟨fun c l z C hm => by
    obtain ⟨C', h1, h2, h3⟩ := h _ (lookup_mem z)
    rw [hm] at h1
    cases h1
    exact h2, fun c l z C hm => by
    obtain ⟨C', h1, h2, h3⟩ := h _ (lookup_mem z)
    rw [hm] at h1
    cases h1
    exact h3⟩
end Py
namespace Py
open PySem PySem.Spec PyProof.Rows L2
theorem prom_fail {P : Program} {w : World} {K : PySem.W.Frag} {mg : Str → Option Value} {base : Heap} {k p : Nat} {f : Addr} {fd : FuncData} {ps : List Str} : Prom P w K mg base k f fd ps (spM K mg p (fun _ => .fail)) :=
  ⟨fun vs H Q E h => by obtain ⟨_, _, _, _, _, _, z⟩ := h; exact z.elim, fun A o s H as us vs Q E q e b v h => by obtain ⟨_, _, _, _, _, _, z⟩ := h; exact z.elim⟩
end Py
end
section
set_option Elab.async false
set_option linter.all false
set_option maxRecDepth 100000
namespace Py
open PySem PySem.Spec PyProof.Rows L2
section
variable {K : PySem.W.Frag} {mg : Str → Option Value} {B H : Hp}
theorem see_all (ex : Same B H) : ∀ {vs : List V} {ds : List D}, Paired (View K mg B H) vs ds → ∃ B2, Same B B2 ∧ Same B2 H ∧ DenAll K mg B2 vs ds ∧ ∀ a u, B2 a = some u → B a = some u ∨ (∃ xs, u = .lst xs) ∨ ∃ C dx fs, u = .ins C dx fs
  | _, _, .nil => ⟨B, Same.refl B, ex, .nil, fun _ _ h => .inl h⟩
  | _, _, .cons h r => by
    obtain ⟨B2, e1, e2, ih, ho⟩ := see_all ex r
    rcases h with h | ⟨a, c, rfl, rfl, hc⟩
    · exact ⟨B2, e1, e2, .cons (h.mono e1) ih, ho⟩
    · have add : ∀ u, H a = some u → ((∃ xs, u = .lst xs) ∨ ∃ C dx fs, u = .ins C dx fs) → ∃ B3, Same B2 B3 ∧ Same B3 H ∧ B3 a = some u ∧ ∀ a u, B3 a = some u → B a = some u ∨ (∃ xs, u = .lst xs) ∨ ∃ C dx fs, u = .ins C dx fs := fun u hu hk => by
        cases q : B2 a with
        | some u' =>
          have := e2 a u' q
          rw [hu] at this
          cases this
          exact ⟨B2, Same.refl B2, e2, q, ho⟩
        | none =>
          refine ⟨L2.upd B2 a u, same_new q, fun b o z => ?_, upd_same, fun b o z => ?_⟩
          · by_cases hb : b = a
            · subst hb; rw [upd_same] at z; cases z; exact hu
            · rw [upd_ne hb] at z; exact e2 b o z
          · by_cases hb : b = a
            · subst hb; rw [upd_same] at z; cases z; exact .inr hk
            · rw [upd_ne hb] at z; exact ho b o z
      cases c with
      | lst ds =>
        obtain ⟨xs, h1, h2⟩ := hc
        obtain ⟨B3, k1, k2, k3, k4⟩ := add _ h1 (.inl ⟨_, rfl⟩)
        exact ⟨B3, e1.trans k1, k2, .cons (.lst (.of k3) (h2.mono (e1.trans k1))) (ih.mono k1), k4⟩
      | obj c gs =>
        obtain ⟨C, dx, fs, h1, h2, h3⟩ := hc
        obtain ⟨B3, k1, k2, k3, k4⟩ := add _ h1 (.inr ⟨_, _, _, rfl⟩)
        exact ⟨B3, e1.trans k1, k2, .cons (.ins k3 h2 (h3.mono (e1.trans k1))) (ih.mono k1), k4⟩
theorem argsAt_a : ∀ {vs : List V} {ds : List D}, DenAll K mg B vs ds → ArgsAt K mg B H vs (toA ds) []
  | _, _, .nil => .nil
  | _, _, .cons h r => .a h (argsAt_a r)
theorem den_flat {B' : Hp} {v : V} {d : D} (h : Den K mg B v d) (f : flatD d = true) : Den K mg B' v d := by
  cases h <;> first | exact .non | exact .bl _ | exact .int _ | exact .str _ | cases f
theorem denAll_flat {B' : Hp} : ∀ {vs : List V} {ds : List D}, DenAll K mg B vs ds → ds.all flatD = true → DenAll K mg B' vs ds
  | _, _, .nil, _ => .nil
  | _, _, .cons h r, f => by
    rw [List.all_cons, Bool.and_eq_true] at f
    exact .cons (den_flat h f.1) (denAll_flat r f.2)
end
section
variable {X : Cx} {Wx : WX} {e a b c : Expr} {es : List Expr} {ma mb mc : M W} {pos : Pos} {μ : Mu} {B H : Hp} {σ : L2.St} {env : Env}
theorem views_at {H0 : Hp} (r : Rel X.K X.mg X.N.length env μ B H σ) : ∀ {vs : List V} {ws : List W} {ds : List D}, dA X H0 μ B H σ vs ws → vws ws env = some ds → Paired (View X.K X.mg B H) vs ds
  | _, _, _, .nil, q => by cases q; exact .nil
  | _, _, _, @Paired.cons _ _ _ v w vs ws h t, q => by
    simp only [vws] at q
    cases q1 : vw w env with
    | none => rw [q1] at q; cases q
    | some d =>
      cases q2 : vws ws env with
      | none => rw [q1, q2] at q; cases q
      | some ds =>
        rw [q1, q2] at q
        cases q
        exact .cons (view_of r h q1) (views_at r t q2)
theorem snd_callV {g : Fn} {ms : M (List W)} {ta : TA} {P : Nat} (sa : SndX X Wx (dA X) ta ms) (hP : ∀ as, g as ≠ .fail → as.length = P) : SndX X Wx (dW X) (tCallS (spM X.K X.mg P g) (WE Wx) ta) (eCallV g ms) := by
  intro e μ B H σ Q rl p
  refine Snd.bnd (t := ta) (R' := fun vs H1 => spM X.K X.mg P g vs H1 Q (WE Wx σ)) sa Ext.refl rl p fun ws e1 vs μ1 B1 H1 x1 _ r1 d1 p1 => ?_
  cases q1 : vws ws e1 with
  | none => rw [q1] at p1; exact p1.elim
  | some ds =>
    rw [q1] at p1
    simp only at p1
    obtain ⟨B2, k1, k2, k3, k4⟩ := see_all r1.ex (views_at r1 d1 q1)
    refine ⟨toA ds, [], B2, k2, argsAt_a k3, hP _ (fun z => by rw [z] at p1; exact p1), ?_⟩
    cases q2 : g (toA ds) with
    | fail => rw [q2] at p1; exact p1
    | exc xx cs => rw [q2] at p1; exact p1.elim
    | ok r cs =>
      rw [q2] at p1
      cases cs with
      | cons c cs => exact p1.elim
      | nil =>
        simp only [aftV] at p1
        by_cases hf : flatW r = true
        · rw [if_pos hf] at p1
          intro v B' H' xf hc dr
          have exH : Same H1 H' := fun a o q => xf.h a o q (by simp)
          have r2 : Rel X.K X.mg X.N.length e1 μ1 B1 H' σ := r1.more (Same.refl B1) (r1.ex.trans exH) (fun _ _ _ q => q) fun i a o _ q => exH a o q
          have x2 : Ext X.N.length μ1 B1 H1 μ1 B1 H' := ⟨Same.refl B1, fun a o q _ => exH a o q, fun i a q => .inl ⟨i, q⟩, fun a o q => .inl q, fun _ _ => rfl, fun a o q => ⟨o, exH a o q⟩⟩
          cases r with
          | pl i => exact dr.elim
          | fr c =>
            cases c with
            | obj c gs => cases hf
            | lst es =>
              obtain ⟨a, rfl, h0, h1, xs, h2, h3⟩ := dr
              refine p1.ok (x1.trans x2) r2 ⟨a, rfl, none_back x1.t h0, r1.base h0, r1.nomu h0, xs, h2, denAll_flat h3 hf⟩
          | d x =>
            cases x with
            | tup es =>
              cases (show Den X.K X.mg B' v (.tup es) from dr) with
              | @tup a xs _ hs ha =>
                rcases hs with hs | hs
                · have key : ∀ u, B' a = some u → (u = .tup xs ∨ ∃ o, u = .frz o (.tup xs)) → Q (.ref a) H' := fun u hu hu2 => by
                    cases q : B1 a with
                    | some u' =>
                      have e1' := xf.b a u' (k1 a u' q)
                      rw [hu] at e1'
                      cases e1'
                      refine p1.ok (x1.trans x2) r2 (show Den X.K X.mg B1 (.ref a) (.tup es) from .tup (.inl ?_) (denAll_flat ha hf))
                      rcases hu2 with rfl | ⟨o, rfl⟩
                      · exact .inl q
                      · exact .inr ⟨o, q⟩
                    | none =>
                      have hn : H1 a = none := by
                        rcases xf.n a u hu with z | z
                        · exfalso
                          rcases k4 a u z with y | ⟨xs, y⟩ | ⟨C, dx, fs, y⟩
                          · rw [q] at y; cases y
                          · subst y; rcases hu2 with y | ⟨o, y⟩ <;> cases y
                          · subst y; rcases hu2 with y | ⟨o, y⟩ <;> cases y
                        · exact z
                      have hH' := xf.e a u hu
                      refine p1.ok (x1.trans (ext_addG (o := u) x2 q hn)) (r2.add q hH' (r1.nomu hn)) (show Den X.K X.mg (L2.upd B1 a u) (.ref a) (.tup es) from .tup (.inl ?_) (denAll_flat ha hf))
                      rcases hu2 with rfl | ⟨o, rfl⟩
                      · exact .inl upd_same
                      · exact .inr ⟨o, upd_same⟩
                  rcases hs with hs | ⟨o, hs⟩
                  · exact key _ hs (.inl rfl)
                  · exact key _ hs (.inr ⟨o, rfl⟩)
                · exact p1.ok (x1.trans x2) r2 (show Den X.K X.mg B1 (.ref a) (.tup es) from .tup (.inr hs) (denAll_flat ha hf))
            | non => exact p1.ok (x1.trans x2) r2 (show Den X.K X.mg B1 v _ from den_flat dr hf)
            | bl _ => exact p1.ok (x1.trans x2) r2 (show Den X.K X.mg B1 v _ from den_flat dr hf)
            | int _ => exact p1.ok (x1.trans x2) r2 (show Den X.K X.mg B1 v _ from den_flat dr hf)
            | str _ => exact p1.ok (x1.trans x2) r2 (show Den X.K X.mg B1 v _ from den_flat dr hf)
            | _ => cases hf
        · rw [if_neg hf] at p1
          exact p1.elim
theorem se_callV {g : Fn} {ms : M (List W)} {P : Nat} {f : Addr} {fd : FuncData} {ps : List Str} {k : Nat} {x : Str} {p0 : Pos} (F : Prom X.prog X.w X.K X.mg X.base k f fd ps (spM X.K X.mg P g)) (hr : Roomy k X.A) (hm : X.mg x = some (.ref f)) (hk : PySem.W.keepIn X.K (.ref f) = true) (hb : Binds X.K fd ps []) (tk : Takes X Wx)
    (hP : ∀ as, g as ≠ .fail → as.length = P) (ha : SA X Wx (a :: es) ms) (hg : Gl X x := by rfl) (hdb : (x == ("__debug__" : Str)) = false := by decide) (he : starEach (a :: es) X.env = (false, eval a X.env) :: starEach es X.env := by rfl) (hpl : (backTo pos (starEach es X.env)).any (·.1) = false := by rfl) :
    SE X Wx (.Call (.Name x p0) (a :: es) [] pos) (eCallV g ms) := by
  obtain ⟨ta, pa, sa⟩ := ha.ex
  exact .of ⟨_, pe_prom F hr hg hm hk hb (fun σ => passAt tk σ) pa hdb he hpl, snd_callV sa hP⟩
/-! ### [..] * n -/
theorem denAll_rep {K : PySem.W.Frag} {mg : Str → Option Value} {B : Hp} {xs : List V} {ds : List D} (h : DenAll K mg B xs ds) : ∀ n : Nat, DenAll K mg B (List.replicate n xs).flatten (List.replicate n ds).flatten
  | 0 => .nil
  | n + 1 => by
    rw [List.replicate_succ, List.replicate_succ, List.flatten_cons, List.flatten_cons]
    exact h.append (denAll_rep h n)
theorem se_rep (ha : SE X Wx a ma) (hb : SE X Wx b mb) : SE X Wx (.BinOp a .Mult b pos) (eRep ma mb) := by
  obtain ⟨ta, pa, sa⟩ := ha.ex
  obtain ⟨tb, pb, sb⟩ := hb.ex
  refine .of ⟨_, pe_op op_rep pa pb, fun e μ B H σ Q rl p => ?_⟩
  refine Snd.bnd (t := ta) (R' := fun x H1 => tb σ H1 fun y H2 => rRep x y H2 Q) sa Ext.refl rl p fun wa e1 x μ1 B1 H1 x1 _ r1 d1 p1 => ?_
  refine Snd.bnd sb x1 r1 p1 fun wb e2 y μ2 B2 H2 x2 y2 r2 d2 p2 => ?_
  have d1' := DenW.go y2 d1
  cases wa with
  | fr c =>
    cases c with
    | lst ds =>
      cases wb with
      | d t =>
        cases t with
        | int k =>
          simp only at p2
          by_cases hk : -(2 ^ 62) ≤ k ∧ k < 2 ^ 62 ∧ ds.length * k.toNat ≤ lim
          · rw [if_pos hk] at p2
            cases (show Den X.K X.mg B2 y (.int k) from d2)
            obtain ⟨l, rfl, h0, h1, h2, xs, h3, h4⟩ := d1'
            refine ⟨l, k, xs, rfl, rfl, h3, by omega, by omega, by rw [h4.length]; exact lim_line hk.2.2, fun q hq => ?_⟩
            exact p2.ok (x2.trans (ext_new hq)) (r2.new hq) ⟨q, rfl, none_back x2.t hq, r2.base hq, r2.nomu hq, _, upd_same, denAll_rep h4 _⟩
          · rw [if_neg hk] at p2; exact p2.elim
        | _ => exact p2.elim
      | _ => exact p2.elim
    | obj c gs => exact p2.elim
  | _ => exact p2.elim
end
end Py
end
section
set_option linter.all false
set_option maxRecDepth 100000
namespace Py
/-! ### the meanings, worked out -/
theorem eqI {α : Sort _} {a b : α} (h : a = b) : a = b := h
section
variable {α β : Type} {e : Env} {i : Nat} {d : D} {c : Cell}
@[simp] theorem ret_u (a : α) (e : Env) : ret a e = .ok a e := eqI rfl
@[simp] theorem bnd_u (m : M α) (f : α → M β) (e : Env) : bnd m f e = match m e with
  | .ok a e' => f a e'
  | .exc x e' => .exc x e'
  | .fail => .fail := eqI rfl
@[simp] theorem eC_u (d : D) (e : Env) : eC d e = .ok (.d d) e := eqI rfl
@[simp] theorem eVar_u (i : Nat) (e : Env) : eVar i e = match e[i]? with
  | some (.val d) => .ok (.d d) e
  | some (.own _) => .ok (.pl i) e
  | some (.al h) => .ok (.pl h) e
  | _ => .fail := eqI rfl
@[simp] theorem vw_pl (i : Nat) (e : Env) : vw (.pl i) e = match e[i]? with
  | some (.own c) => some c.toD
  | some (.lent c) => some c.toD
  | some (.val d) => some d
  | _ => none := eqI rfl
@[simp] theorem frz_pl (i : Nat) (e : Env) : frz (.pl i) e = match e[i]? with
  | some (.own c) => .ok c.toD (e.set i (.val c.toD))
  | some (.val d) => .ok d e
  | _ => .fail := eqI rfl
@[simp] theorem aNil_u (e : Env) : aNil e = .ok [] e := eqI rfl
@[simp] theorem aCons_u (a : M W) (r : M (List W)) (e : Env) : aCons a r e = bnd a (fun w => bnd r fun ws => ret (w :: ws)) e := eqI rfl
@[simp] theorem aConsF_u (a : M W) (r : M (List W)) (e : Env) : aConsF a r e = bnd a (fun w => bnd (frz w) fun d => bnd r fun ws => ret (.d d :: ws)) e := eqI rfl
@[simp] theorem eOp_u (f : D → D → Option W) (a b : M W) (e : Env) : eOp f a b e = bnd a (fun x => bnd b fun y => fun e => match vw x e, vw y e with
  | some u, some v => lft (f u v) e
  | _, _ => .fail) e := eqI rfl
@[simp] theorem eUn_u (f : D → Option W) (a : M W) (e : Env) : eUn f a e = bnd a (fun x => fun e => match vw x e with
  | some u => lft (f u) e
  | _ => .fail) e := eqI rfl
@[simp] theorem vws_nil (e : Env) : vws [] e = some [] := eqI rfl
@[simp] theorem vws_cons (w : W) (ws : List W) (e : Env) : vws (w :: ws) e = match vw w e, vws ws e with
    | some d, some ds => some (d :: ds)
    | _, _ => none := eqI rfl
@[simp] theorem eB_u (f : List D → Option W) (a : M (List W)) (e : Env) : eB f a e = bnd a (fun ws => fun e => match vws ws e with
  | some ds => lft (f ds) e
  | none => .fail) e := eqI rfl
@[simp] theorem dats_nil : dats [] = some [] := eqI rfl
@[simp] theorem dats_cons (x : D) (r : List W) : dats (.d x :: r) = (dats r).map (x :: ·) := eqI rfl
@[simp] theorem eLst_u (a : M (List W)) (e : Env) : eLst a e = bnd a (fun ws => lft ((dats ws).bind fun ds => if ds.length ≤ lim then some (.fr (.lst ds)) else none)) e := eqI rfl
@[simp] theorem eTup_u (a : M (List W)) (e : Env) : eTup a e = bnd a (fun ws => lft ((dats ws).bind fun ds => if ds.length ≤ lim then some (.d (.tup ds)) else none)) e := eqI rfl
@[simp] theorem tTru_u (a : M W) (e : Env) : tTru a e = bnd a (fun w => fun e => match vw w e with
  | some d => lft (tru d) e
  | none => .fail) e := eqI rfl
@[simp] theorem tBl_u (a : M W) (e : Env) : tBl a e = bnd a (fun w => match w with
  | .d (.bl b) => ret b
  | _ => fun _ => .fail) e := eqI rfl
@[simp] theorem tAnd_u (a b : M Bool) (e : Env) : tAnd a b e = bnd a (fun x => if x then b else ret false) e := eqI rfl
@[simp] theorem tOr_u (a b : M Bool) (e : Env) : tOr a b e = bnd a (fun x => if x then ret true else b) e := eqI rfl
@[simp] theorem tNot_u (a : M Bool) (e : Env) : tNot a e = bnd a (fun x => ret (!x)) e := eqI rfl
@[simp] theorem tYes_u (e : Env) : tYes e = .ok true e := eqI rfl
@[simp] theorem eAnd_u (a b : M W) (e : Env) : eAnd a b e = bnd (tBl a) (fun x => if x then b else ret (.d (.bl false))) e := eqI rfl
@[simp] theorem eOr_u (a b : M W) (e : Env) : eOr a b e = bnd (tBl a) (fun x => if x then ret (.d (.bl true)) else b) e := eqI rfl
@[simp] theorem eNot_u (a : M W) (e : Env) : eNot a e = bnd (tBl a) (fun x => ret (.d (.bl (!x)))) e := eqI rfl
@[simp] theorem eIf_u (t : M Bool) (a b : M W) (e : Env) : eIf t a b e = bnd t (fun x => if x then a else b) e := eqI rfl
@[simp] theorem ite_app {p : Prop} [Decidable p] (a b : M α) (e : Env) : (if p then a else b) e = if p then a e else b e := by split <;> rfl
@[simp] theorem eChain_u (f g : D → D → Option W) (a b c : M W) (e : Env) : eChain f g a b c e = bnd a (fun x => bnd b fun y => fun e => match vw x e, vw y e with
  | some u, some v => match f u v with
    | some (.d (.bl true)) => bnd c (fun z e => match vw y e, vw z e with
      | some v, some t => lft (g v t) e
      | _, _ => .fail) e
    | some (.d (.bl false)) => .ok (.d (.bl false)) e
    | _ => .fail
  | _, _ => .fail) e := eqI rfl
@[simp] theorem oPart_none (e : Env) : oPart none e = .ok none e := eqI rfl
@[simp] theorem oPart_some (m : M W) (e : Env) : oPart (some m) e = bnd m (fun w => match w with
    | .d (.int i) => ret (some i)
    | _ => fun _ => .fail) e := eqI rfl
@[simp] theorem eSl_u (a : M W) (lo hi : Option (M W)) (e : Env) : eSl a lo hi e = bnd a (fun x => bnd (oPart lo) fun l => bnd (oPart hi) fun h => fun e => match vw x e with
  | some (.lst ds) => .ok (.fr (.lst (cut ds l h))) e
  | some (.tup ds) => .ok (.d (.tup (cut ds l h))) e
  | _ => .fail) e := eqI rfl
@[simp] theorem sNext_u (e : Env) : sNext e = .ok .next e := eqI rfl
@[simp] theorem sBrk_u (e : Env) : sBrk e = .ok .brk e := eqI rfl
@[simp] theorem sCont_u (e : Env) : sCont e = .ok .cont e := eqI rfl
@[simp] theorem sRetN_u (e : Env) : sRetN e = .ok (.ret (.d .non)) e := eqI rfl
@[simp] theorem sSeq_u (a b : M Ctl) (e : Env) : sSeq a b e = bnd a (fun c => match c with
  | .next => b
  | c => ret c) e := eqI rfl
@[simp] theorem sIf_u (t : M Bool) (a b : M Ctl) (e : Env) : sIf t a b e = bnd t (fun x => if x then a else b) e := eqI rfl
@[simp] theorem put_d (i : Nat) (x : D) (e : Env) : put i (.d x) e = .ok .next (e.set i (.val x)) := eqI rfl
@[simp] theorem put_fr (i : Nat) (c : Cell) (e : Env) : put i (.fr c) e = .ok .next (e.set i (.own c)) := eqI rfl
@[simp] theorem put_pl (i j : Nat) (e : Env) : put i (.pl j) e = match frz (.pl j) e with
    | .ok d e' => .ok .next (e'.set i (.val d))
    | _ => .fail := eqI rfl
@[simp] theorem sSet_u (i : Nat) (a : M W) (e : Env) : sSet i a e = bnd a (put i) e := eqI rfl
@[simp] theorem sRet_u (a : M W) (e : Env) : sRet a e = bnd a (fun w => ret (.ret w)) e := eqI rfl
@[simp] theorem sDrop_u (a : M W) (e : Env) : sDrop a e = bnd a (fun _ => ret .next) e := eqI rfl
@[simp] theorem upd_pl (i : Nat) (f : Cell → Option Cell) (e : Env) : upd (.pl i) f e = match e[i]? with
    | some (.own c) => match f c with
      | some c' => .ok .next (e.set i (.own c'))
      | none => .fail
    | some (.lent c) => match f c with
      | some c' => .ok .next (e.set i (.lent c'))
      | none => .fail
    | _ => .fail := eqI rfl
@[simp] theorem chkL_u (x : W) (e : Env) : chkL x e = match vw x e with
  | some (.lst _) => .ok () e
  | _ => .fail := eqI rfl
@[simp] theorem sApp_u (a b : M W) (e : Env) : sApp a b e = bnd a (fun x => bnd (chkL x) fun _ => bnd b fun w => bnd (frz w) fun d => upd x (cApp d)) e := eqI rfl
@[simp] theorem sPut_u (v a b : M W) (e : Env) : sPut v a b e = bnd v (fun w => bnd (frz w) fun d => bnd a fun x => bnd b fun i => fun e => match vw i e with
  | some k => upd x (cSet k d) e
  | none => .fail) e := eqI rfl
@[simp] theorem sAug_u (i : Nat) (f : D → D → Option W) (a : M W) (e : Env) : sAug i f a e = match e[i]? with
  | some (.val u) => bnd a (fun w e => match vw w e with
    | some v => match f u v with
      | some r => put i r e
      | none => .fail
    | none => .fail) e
  | _ => .fail := eqI rfl
@[simp] theorem sAugS_u (f : D → D → Option W) (a b v : M W) (e : Env) : sAugS f a b v e = bnd a (fun x => bnd b fun i => fun e => match vw x e, vw i e with
  | some (.lst us), some (.int k) => match (ixn us.length k).bind fun j => us[j]? with
    | some q => bnd v (fun w e => match vw w e with
      | some t => match f q t with
        | some (.d z) => upd x (cSet (.int k) z) e
        | _ => .fail
      | none => .fail) e
    | none => .fail
  | _, _ => .fail) e := eqI rfl
@[simp] theorem sTgt_u (g : D → M Unit) (a : M W) (e : Env) : sTgt g a e = bnd a (fun w => bnd (frz w) fun d => bnd (g d) fun _ => ret .next) e := eqI rfl
@[simp] theorem lend_nil (m : List Bool) (e : Env) : lend [] m e = some [] := eqI rfl
@[simp] theorem lend_pl (i : Nat) (ws : List W) (ms : List Bool) (e : Env) : lend (.pl i :: ws) (true :: ms) e = match e[i]? with
    | some (.own c) => (lend ws ms e).map (.l c :: ·)
    | some (.lent c) => (lend ws ms e).map (.l c :: ·)
    | _ => none := eqI rfl
@[simp] theorem lend_d (x : D) (ws : List W) (ms : List Bool) (e : Env) : lend (.d x :: ws) ms e = (lend ws ms.tail e).map (.a x :: ·) := by cases ms <;> rfl
@[simp] theorem pls_nil : pls [] = [] := eqI rfl
@[simp] theorem pls_pl (i : Nat) (ws : List W) : pls (.pl i :: ws) = i :: pls ws := eqI rfl
@[simp] theorem pls_d (x : D) (ws : List W) : pls (.d x :: ws) = pls ws := eqI rfl
@[simp] theorem back_nil (cs : List Cell) (e : Env) : back [] cs e = e := eqI rfl
@[simp] theorem back_cons (i : Nat) (is : List Nat) (c : Cell) (cs : List Cell) (e : Env) : back (i :: is) (c :: cs) e = match e[i]? with
    | some s => back is cs (e.set i (recell c s))
    | none => back is cs e := eqI rfl
@[simp] theorem recell_own (c c0 : Cell) : recell c (.own c0) = .own c := eqI rfl
@[simp] theorem recell_lent (c c0 : Cell) : recell c (.lent c0) = .lent c := eqI rfl
@[simp] theorem aft_ok (is : List Nat) (e : Env) (r : W) (cs : List Cell) : aft is e (.ok r cs) = .ok r (back is cs e) := eqI rfl
@[simp] theorem aft_exc (is : List Nat) (e : Env) (r : Er) (cs : List Cell) : aft is e (.exc r cs) = .exc r (back is cs e) := eqI rfl
@[simp] theorem aftV_ok (e : Env) (r : W) : aftV e (.ok r []) = if flatW r then .ok r e else .fail := eqI rfl
@[simp] theorem eCall_u (g : Fn) (mask : List Bool) (a : M (List W)) (e : Env) : eCall g mask a e = bnd a (fun ws => fun e => match lend ws mask e with
  | some as => if (pls ws).Nodup then aft (pls ws) e (g as) else .fail
  | none => .fail) e := eqI rfl
@[simp] theorem aKw_u (p q : Nat) (l : List Nat) (a b : M (List W)) (e : Env) : aKw p q l a b e = bnd a (fun xs => bnd b fun ys e => if xs.length = p ∧ ys.length = q then .ok (perm l (xs ++ ys)) e else .fail) e := eqI rfl
/-- the end of a def -/
def fin (N : Nat) (r : R Ctl) : FR := match r with
  | .ok (.ret w) e => match leave w e, cellsOf (e.drop N) with
    | some r, some cs => .ok r cs
    | _, _ => .fail
  | .ok .next e => match cellsOf (e.drop N) with
    | some cs => .ok (.d .non) cs
    | none => .fail
  | .exc x e => match cellsOf (e.drop N) with
    | some cs => .exc x cs
    | none => .fail
  | _ => .fail
@[simp] theorem fin_ret (N : Nat) (w : W) (e : Env) : fin N (.ok (.ret w) e) = match leave w e, cellsOf (e.drop N) with
    | some r, some cs => .ok r cs
    | _, _ => .fail := eqI rfl
@[simp] theorem fin_next (N : Nat) (e : Env) : fin N (.ok .next e) = match cellsOf (e.drop N) with
    | some cs => .ok (.d .non) cs
    | none => .fail := eqI rfl
@[simp] theorem fin_exc (N : Nat) (x : Er) (e : Env) : fin N (.exc x e) = match cellsOf (e.drop N) with
    | some cs => .exc x cs
    | none => .fail := eqI rfl
@[simp] theorem leave_d (x : D) (e : Env) : leave (.d x) e = some (.d x) := eqI rfl
@[simp] theorem leave_fr (x : Cell) (e : Env) : leave (.fr x) e = some (.fr x) := eqI rfl
@[simp] theorem leave_pl (i : Nat) (e : Env) : leave (.pl i) e = match e[i]? with
    | some (.own c) => some (.fr c)
    | some (.val d) => some (.d d)
    | _ => none := eqI rfl
@[simp] theorem cellsOf_nil : cellsOf [] = some [] := eqI rfl
@[simp] theorem cellsOf_cons (c : Cell) (r : List Sl) : cellsOf (.lent c :: r) = (cellsOf r).map (c :: ·) := eqI rfl
theorem mk_fin {N P : Nat} {b : M Ctl} {as : List Arg} (h : as.length = P ∧ P ≤ N) : mkFn N P b as = fin N (b (start N as)) := by
  unfold mkFn
  rw [if_pos h]
  rfl
@[simp] theorem iSeq_u (a : M W) (e : Env) : iSeq a e = bnd a (fun w => bnd (frz w) fun d => match d with
  | .lst ds => ret ds
  | .tup ds => ret ds
  | _ => fun _ => .fail) e := eqI rfl
@[simp] theorem iRevd_u (a : M W) (e : Env) : iRevd a e = bnd a (fun w => bnd (frz w) fun d => match d with
  | .lst ds => ret ds.reverse
  | .tup ds => ret ds.reverse
  | _ => fun _ => .fail) e := eqI rfl
@[simp] theorem iRng1_u (a : M W) (e : Env) : iRng1 a e = bnd a (fun w => match w with
  | .d (.int j) => if big j then ret (rngD 0 j.toNat) else fun _ => .fail
  | _ => fun _ => .fail) e := eqI rfl
@[simp] theorem iRng2_u (a b : M W) (e : Env) : iRng2 a b e = bnd a (fun x => bnd b fun y => match x, y with
  | .d (.int i), .d (.int j) => if big i && big j then ret (rngD i (j - i).toNat) else fun _ => .fail
  | _, _ => fun _ => .fail) e := eqI rfl
@[simp] theorem iEnum_u (a : M W) (e : Env) : iEnum a e = bnd a (fun w => bnd (frz w) fun d => match d with
  | .lst ds => ret (enumD ds)
  | _ => fun _ => .fail) e := eqI rfl
@[simp] theorem iZip_u (a : M (List W)) (e : Env) : iZip a e = bnd a (fun ws => match ws with
  | [.d (.lst xs), .d (.lst ys)] => ret (zipD xs ys)
  | [.d (.tup xs), .d (.tup ys)] => ret (zipD xs ys)
  | _ => fun _ => .fail) e := eqI rfl
@[simp] theorem gName_u (i : Nat) (d : D) (e : Env) : gName i d e = .ok () (e.set i (.val d)) := eqI rfl
@[simp] theorem gTup_u (is : List Nat) (ds : List D) (e : Env) : gTup is (.tup ds) e = gNames is ds e := eqI rfl
@[simp] theorem gNames_nil (e : Env) : gNames [] [] e = .ok () e := eqI rfl
@[simp] theorem gNames_cons (i : Nat) (is : List Nat) (d : D) (ds : List D) (e : Env) : gNames (i :: is) (d :: ds) e = gNames is ds (e.set i (.val d)) := eqI rfl
/-! ### numbers -/
@[simp] theorem oAdd_int (i j : Int) : oAdd (.int i) (.int j) = some (.d (.int (i + j))) := eqI rfl
@[simp] theorem aAdd_int (i j : Int) : aAdd (.int i) (.int j) = some (.d (.int (i + j))) := eqI rfl
@[simp] theorem oSub_int (i j : Int) : oSub (.int i) (.int j) = some (.d (.int (i - j))) := eqI rfl
@[simp] theorem oMul_int (i j : Int) : oMul (.int i) (.int j) = (if small64 i || small64 j then some (D.int (i * j)) else none).map .d := eqI rfl
@[simp] theorem oDiv_int (i j : Int) : oDiv (.int i) (.int j) = (if 0 < j ∧ j < 1073741824 then some (D.int (i / j)) else none).map .d := eqI rfl
@[simp] theorem oMod_int (i j : Int) : oMod (.int i) (.int j) = (if 0 < j then some (D.int (i % j)) else none).map .d := eqI rfl
@[simp] theorem oPow_int (i j : Int) : oPow (.int i) (.int j) = (if okPow i j then some (D.int (i ^ j.toNat)) else none).map .d := eqI rfl
@[simp] theorem oShl_int (i j : Int) : oShl (.int i) (.int j) = (if okPow i j then some (D.int (i * 2 ^ j.toNat)) else none).map .d := eqI rfl
@[simp] theorem oShr_int (i j : Int) : oShr (.int i) (.int j) = (if 0 ≤ j then some (D.int (i / 2 ^ j.toNat)) else none).map .d := eqI rfl
@[simp] theorem oAnd_int (i j : Int) : oAnd (.int i) (.int j) = some (.d (.int (PySem.Builtin.bitAnd i j))) := eqI rfl
@[simp] theorem oOr_int (i j : Int) : oOr (.int i) (.int j) = some (.d (.int (PySem.Builtin.bitOr i j))) := eqI rfl
@[simp] theorem oXor_int (i j : Int) : oXor (.int i) (.int j) = some (.d (.int (PySem.Builtin.bitXor i j))) := eqI rfl
@[simp] theorem oNeg_int (i : Int) : oNeg (.int i) = some (.d (.int (-i))) := eqI rfl
@[simp] theorem oLt_int (i j : Int) : oLt (.int i) (.int j) = some (.d (.bl (decide (i < j)))) := eqI rfl
@[simp] theorem oLe_int (i j : Int) : oLe (.int i) (.int j) = some (.d (.bl (decide (i ≤ j)))) := eqI rfl
@[simp] theorem oGt_int (i j : Int) : oGt (.int i) (.int j) = some (.d (.bl (decide (j < i)))) := eqI rfl
@[simp] theorem oGe_int (i j : Int) : oGe (.int i) (.int j) = some (.d (.bl (decide (j ≤ i)))) := eqI rfl
theorem py_int (i : Int) : D.py (.int i) = some (.int i) := by rw [D.py]
theorem py_str (i : PySem.Str) : D.py (.str i) = some (.str i) := by rw [D.py]
@[simp] theorem oEq_int (i j : Int) : oEq (.int i) (.int j) = some (.d (.bl (decide (i = j)))) := eqI rfl
@[simp] theorem oNe_int (i j : Int) : oNe (.int i) (.int j) = some (.d (.bl (!decide (i = j)))) := eqI rfl
@[simp] theorem oEq_str (i j : PySem.Str) : oEq (.str i) (.str j) = some (.d (.bl (decide (i = j)))) := eqI rfl
@[simp] theorem oNe_str (i j : PySem.Str) : oNe (.str i) (.str j) = some (.d (.bl (!decide (i = j)))) := eqI rfl
@[simp] theorem bLen_lst (xs : List D) : bLen [.lst xs] = some (.d (.int xs.length)) := eqI rfl
@[simp] theorem bLen_tup (xs : List D) : bLen [.tup xs] = some (.d (.int xs.length)) := eqI rfl
@[simp] theorem bInt_int (i : Int) : bInt [.int i] = some (.d (.int i)) := eqI rfl
@[simp] theorem bAbs_int (i : Int) : bAbs [.int i] = some (.d (.int (if i < 0 then -i else i))) := eqI rfl
@[simp] theorem bMin_int (i j : Int) : bMin [.int i, .int j] = some (.d (.int (if j < i then j else i))) := eqI rfl
@[simp] theorem bMax_int (i j : Int) : bMax [.int i, .int j] = some (.d (.int (if j > i then j else i))) := eqI rfl
@[simp] theorem bTuple_lst (xs : List D) : bTuple [.lst xs] = some (.d (.tup xs)) := eqI rfl
@[simp] theorem bTuple_tup (xs : List D) : bTuple [.tup xs] = some (.d (.tup xs)) := eqI rfl
@[simp] theorem bList_lst (xs : List D) : bList [.lst xs] = some (.fr (.lst xs)) := eqI rfl
@[simp] theorem bList_tup (xs : List D) : bList [.tup xs] = some (.fr (.lst xs)) := eqI rfl
@[simp] theorem ints_map : ∀ ns : List Int, ints? (ns.map .int) = some ns
  | [] => rfl
  | n :: ns => by rw [List.map_cons, ints?, ints_map ns]; rfl
@[simp] theorem bls_map : ∀ ns : List Bool, bls? (ns.map .bl) = some ns
  | [] => rfl
  | n :: ns => by rw [List.map_cons, bls?, bls_map ns]; rfl
@[simp] theorem bSum_lst (ns : List Int) : bSum [.lst (ns.map .int)] = some (.d (.int ns.sum)) := by
  show (ints? (ns.map .int)).map _ = _
  rw [ints_map]; rfl
@[simp] theorem bSum_tup (ns : List Int) : bSum [.tup (ns.map .int)] = some (.d (.int ns.sum)) := by
  show (ints? (ns.map .int)).map _ = _
  rw [ints_map]; rfl
@[simp] theorem bAll_lst (ns : List Bool) : bAll [.lst (ns.map .bl)] = some (.d (.bl (ns.all id))) := by
  show (bls? (ns.map .bl)).map _ = _
  rw [bls_map]; rfl
@[simp] theorem bAny_lst (ns : List Bool) : bAny [.lst (ns.map .bl)] = some (.d (.bl (ns.any id))) := by
  show (bls? (ns.map .bl)).map _ = _
  rw [bls_map]; rfl
theorem ixn_ok {n : Nat} {i : Int} (h0 : 0 ≤ i) (h : i < n) : ixn n i = some i.toNat := by unfold ixn; rw [if_pos h0, if_pos h]
theorem ixn_nat {n i : Nat} (h : i < n) : ixn n (i : Int) = some i := by rw [ixn_ok (by omega) (by omega)]; rfl
@[simp] theorem oIx_lst (ds : List D) (i : Int) : oIx (.lst ds) (.int i) = ((ixn ds.length i).bind fun j => ds[j]?).map .d := eqI rfl
@[simp] theorem oIx_tup (ds : List D) (i : Int) : oIx (.tup ds) (.int i) = ((ixn ds.length i).bind fun j => ds[j]?).map .d := eqI rfl
@[simp] theorem cApp_lst (d : D) (ds : List D) : cApp d (.lst ds) = if ds.length < lim then some (.lst (ds ++ [d])) else none := eqI rfl
@[simp] theorem cSet_lst (d : D) (ds : List D) (k : Int) : cSet (.int k) d (.lst ds) = (ixn ds.length k).map fun j => Cell.lst (ds.set j d) := eqI rfl
@[simp] theorem oAdd_lst (a b : List D) : oAdd (.lst a) (.lst b) = if a.length + b.length ≤ lim then some (.fr (.lst (a ++ b))) else none := eqI rfl
@[simp] theorem oAdd_tup (a b : List D) : oAdd (.tup a) (.tup b) = if a.length + b.length ≤ lim then some (.d (.tup (a ++ b))) else none := eqI rfl
@[simp] theorem oRev_lst (a : List D) : oRev (.lst a) = some (.fr (.lst a.reverse)) := eqI rfl
@[simp] theorem oRev_tup (a : List D) : oRev (.tup a) = some (.d (.tup a.reverse)) := eqI rfl
@[simp] theorem tru_bl (b : Bool) : tru (.bl b) = some b := eqI rfl
@[simp] theorem tru_int (i : Int) : tru (.int i) = some (i != 0) := eqI rfl
@[simp] theorem tru_non : tru .non = some false := eqI rfl
@[simp] theorem cls_int (i : Int) : cls (.int i) = some "int" := eqI rfl
@[simp] theorem cls_bl (i : Bool) : cls (.bl i) = some "bool" := eqI rfl
@[simp] theorem cls_non : cls .non = some "NoneType" := eqI rfl
@[simp] theorem cls_lst (i : List D) : cls (.lst i) = some "list" := eqI rfl
@[simp] theorem cls_tup (i : List D) : cls (.tup i) = some "tuple" := eqI rfl
@[simp] theorem bIsi_u (x : D) (t : String) : bIsi [x, .ty t] = (cls x).bind fun c => if t = "int" ∨ t = "bool" ∨ t = "tuple" ∨ t = "list" ∨ t = "str" then some (.d (.bl (isT c t))) else none := eqI rfl
theorem small_of {i : Int} (h1 : -(2 ^ 64) < i) (h2 : i < 2 ^ 64) : small64 i = true := by
  unfold small64
  simp only [decide_eq_true_eq, Bool.and_eq_true]
  exact ⟨h1, h2⟩
theorem big_of {i : Int} (h1 : -(2 ^ 62) ≤ i) (h2 : i < 2 ^ 62) : big i = true := by
  unfold big
  simp only [decide_eq_true_eq, Bool.and_eq_true]
  exact ⟨h1, h2⟩
/-! ### loops -/
theorem forL_inv {g : D → M Unit} {b : M Ctl} (P : Nat → Env → Prop) (ds : List D)
    (step : ∀ k d e, ds[k]? = some d → P k e → ∃ e1 e2 c, g d e = .ok () e1 ∧ b e1 = .ok c e2 ∧ (c = .next ∨ c = .cont) ∧ P (k + 1) e2) (e : Env) (h : P 0 e) : ∃ e', forL g b ds e = .ok .next e' ∧ P ds.length e' := by
  have go : ∀ (l : List D) (k : Nat) (e : Env), ds.drop k = l → k ≤ ds.length → P k e → ∃ e', forL g b l e = .ok .next e' ∧ P ds.length e' := by
    intro l
    induction l with
    | nil =>
      intro k e hl hk hp
      have : k = ds.length := by
        have := congrArg List.length hl
        simp at this
        omega
      subst this
      exact ⟨e, rfl, hp⟩
    | cons d l ih =>
      intro k e hl hk hp
      have hd : ds[k]? = some d := by
        have := congrArg (·[0]?) hl
        simpa using this
      have hk' : k < ds.length := by
        rcases Nat.lt_or_ge k ds.length with h | h
        · exact h
        · rw [List.getElem?_eq_none h] at hd; cases hd
      obtain ⟨e1, e2, c, h1, h2, h3, h4⟩ := step k d e hd hp
      have hl' : ds.drop (k + 1) = l := by
        rw [← List.drop_drop, hl]; rfl
      obtain ⟨e', h5, h6⟩ := ih (k + 1) e2 hl' hk' h4
      refine ⟨e', ?_, h6⟩
      show bnd (g d) _ e = _
      rw [bnd_ok h1, bnd_ok h2]
      rcases h3 with rfl | rfl <;> exact h5
  exact go ds 0 e rfl (Nat.zero_le _) h
theorem sFor_ok {i : M (List D)} {g : D → M Unit} {b : M Ctl} {e e' : Env} {ds : List D} (h : i e = .ok ds e') : sFor i g b e = forL g b ds e' := bnd_ok h
theorem compL_inv {g : D → M Unit} {t : M Bool} {b : M W} {vs : List Nat} (P : Nat → List D → Env → Prop) (ds : List D)
    (step : ∀ k d acc e, ds[k]? = some d → P k acc e → ∃ e1 e2 x, g d e = .ok () e1 ∧ t e1 = .ok x e2 ∧ if x then ∃ w e3 z e4, b e2 = .ok w e3 ∧ frz w e3 = .ok z e4 ∧ P (k + 1) (acc ++ [z]) (wipe vs e4) else P (k + 1) acc (wipe vs e2))
    (e : Env) (h : P 0 [] e) : ∃ acc e', compL g t b vs ds [] e = .ok acc e' ∧ P ds.length acc e' := by
  have go : ∀ (l : List D) (k : Nat) (acc : List D) (e : Env), ds.drop k = l → k ≤ ds.length → P k acc e → ∃ acc' e', compL g t b vs l acc e = .ok acc' e' ∧ P ds.length acc' e' := by
    intro l
    induction l with
    | nil =>
      intro k acc e hl hk hp
      have : k = ds.length := by
        have := congrArg List.length hl
        simp at this
        omega
      subst this
      exact ⟨acc, e, rfl, hp⟩
    | cons d l ih =>
      intro k acc e hl hk hp
      have hd : ds[k]? = some d := by
        have := congrArg (·[0]?) hl
        simpa using this
      have hk' : k < ds.length := by
        rcases Nat.lt_or_ge k ds.length with h | h
        · exact h
        · rw [List.getElem?_eq_none h] at hd; cases hd
      have hl' : ds.drop (k + 1) = l := by
        rw [← List.drop_drop, hl]; rfl
      obtain ⟨e1, e2, x, h1, h2, h3⟩ := step k d acc e hd hp
      show ∃ acc' e', bnd (g d) _ e = _ ∧ _
      rw [bnd_ok h1, bnd_ok h2]
      cases x with
      | false => exact ih (k + 1) _ _ hl' hk' (by simpa using h3)
      | true =>
        simp only [if_true] at h3 ⊢
        obtain ⟨w, e3, z, e4, h4, h5, h6⟩ := h3
        rw [bnd_ok h4, bnd_ok h5]
        exact ih (k + 1) _ _ hl' hk' h6
  exact go ds 0 [] e rfl (Nat.zero_le _) h
theorem eComp_ok {i : M (List D)} {g : D → M Unit} {t : M Bool} {b : M W} {vs : List Nat} {e e1 e2 : Env} {ds xs : List D} (h : i e = .ok ds e1) (hl : ds.length < lim) (hc : compL g t b vs ds [] (wipe vs e1) = .ok xs e2) :
    eComp i g t b vs e = .ok (.fr (.lst xs)) (unwipe vs e1 e2) := by
  show bnd i _ e = _
  rw [bnd_ok h, if_pos hl, hc]
/-- a comprehension that changes nothing -/
theorem compL_map {g : D → M Unit} {t : M Bool} {b : M W} {vs : List Nat} {e : Env} (f : D → D) (p : D → Bool) : ∀ (ds acc : List D), (∀ d, d ∈ ds → ∃ e1, g d e = .ok () e1 ∧ t e1 = .ok (p d) e1 ∧ wipe vs e1 = e ∧ (p d = true → b e1 = .ok (.d (f d)) e1)) →
    compL g t b vs ds acc e = .ok (acc ++ (ds.filter p).map f) e
  | [], acc, _ => by show R.ok _ _ = _; simp
  | d :: ds, acc, h => by
    obtain ⟨e1, h1, h2, h3, h4⟩ := h d (List.mem_cons_self ..)
    show bnd (g d) _ e = _
    rw [bnd_ok h1, bnd_ok h2]
    cases q : p d with
    | false =>
      simp only [Bool.false_eq_true, if_false]
      rw [h3, compL_map f p ds acc fun d hd => h d (List.mem_cons_of_mem _ hd)]
      simp [q]
    | true =>
      simp only [if_true]
      rw [bnd_ok (h4 q), bnd_ok (show frz (.d (f d)) e1 = _ from rfl), h3, compL_map f p ds _ fun d hd => h d (List.mem_cons_of_mem _ hd)]
      simp [q]
theorem rngD_gt {lo : Int} {n k : Nat} {d : D} (h : (rngD lo n)[k]? = some d) : k < n ∧ d = .int (lo + k) := by
  unfold rngD at h
  rw [List.getElem?_map, Option.map_eq_some_iff] at h
  obtain ⟨j, h1, h2⟩ := h
  obtain ⟨h3, h4⟩ := List.getElem?_eq_some_iff.mp h1
  simp at h3 h4
  subst h4
  exact ⟨h3, h2.symm⟩
theorem rngD_at {lo : Int} {n k : Nat} {d : D} (h : (rngD lo n)[k]? = some d) : k < n ∧ ∃ i : Int, i = lo + k ∧ d = .int i := ⟨(rngD_gt h).1, _, rfl, (rngD_gt h).2⟩
@[simp] theorem rngD_ln (lo : Int) (n : Nat) : (rngD lo n).length = n := by simp [rngD]
theorem rngD_mem {lo : Int} {n : Nat} {d : D} (h : d ∈ rngD lo n) : ∃ k : Nat, k < n ∧ d = .int (lo + k) := by
  unfold rngD at h
  simp only [List.mem_map, List.mem_range] at h
  obtain ⟨k, h1, h2⟩ := h
  exact ⟨k, h1, h2.symm⟩
/-! ### texts of rows -/
def Rep (w k : Nat) (d : D) : Prop := ∃ p, d.py = some p ∧ PySem.PyData.leavesShort 64 p = true ∧ PySem.PyData.weight p ≤ w ∧ PySem.PyData.depth p ≤ k ∧ PySem.PyData.showable p = true ∧ PySem.PyData.hasDict p = false
def D.text (d : D) : PySem.Str := (d.py.map PySem.PyData.shown).getD ""
theorem bRepr_ok {d : D} {w k : Nat} (h : Rep w k d) (hw : w ≤ 150000) (hk : k ≤ 40) : bRepr [d] = some (.d (.str d.text)) := by
  obtain ⟨p, h1, h2, h3, h4, h5, h6⟩ := h
  have : rOk p = true := by
    unfold rOk
    rw [h2, h5, h6, decide_eq_true (Nat.le_trans h3 hw), decide_eq_true (Nat.le_trans h4 hk)]
    rfl
  unfold bRepr D.text
  simp only [h1, this, if_true, Option.map_some, Option.getD_some]
theorem rep_int {i : Int} (h : i.natAbs < 2 ^ 64) : Rep 65 0 (.int i) := by
  refine ⟨.int i, py_int i, ?_, ?_, Nat.le_refl _, ?_, rfl⟩
  · have := PySem.int_text_length_le10 (a := i) (k := 60) (by decide) (by omega)
    simp only [PySem.PyData.leavesShort, decide_eq_true_eq]
    have e : (PySem.PyData.shown (.int i)).length = (toString i).length := by
      show (PySem.Str.ofString (toString i)).length = _
      exact PySem.ofString_length _
    omega
  · unfold PySem.PyData.weight
    split
    · omega
    · rename_i hz
      have hz' : i.natAbs ≠ 0 := by
        intro z
        exact hz (by simp at z; simp [z])
      have := (Nat.log2_lt hz').mpr h
      omega
  · have : i.natAbs.log2 < 1920 := by
      by_cases z : i.natAbs = 0
      · rw [z]; decide
      · have := (Nat.log2_lt z).mpr h
        omega
    simpa [PySem.PyData.showable] using this
theorem rep_all {w k : Nat} : ∀ ds : List D, (∀ d ∈ ds, Rep w k d) → ∃ ps, pys ds = some ps ∧ PySem.PyData.leavesShortAll 64 ps = true ∧ PySem.PyData.weightAll ps ≤ (w + 1) * ds.length ∧ PySem.PyData.depthAll ps ≤ k ∧ PySem.PyData.showableAll ps = true ∧ PySem.PyData.hasDictAll ps = false
  | [], _ => ⟨[], by rw [pys], rfl, by simp [PySem.PyData.weightAll], by simp [PySem.PyData.depthAll], rfl, rfl⟩
  | d :: ds, h => by
    obtain ⟨p, h1, h2, h3, h4, h5, h6⟩ := h d (List.mem_cons_self ..)
    obtain ⟨ps, g1, g2, g3, g4, g5, g6⟩ := rep_all ds fun x hx => h x (List.mem_cons_of_mem _ hx)
    refine ⟨p :: ps, by rw [pys, h1, g1], ?_, ?_, ?_, ?_, ?_⟩
    · simp [PySem.PyData.leavesShortAll, h2, g2]
    · simp only [PySem.PyData.weightAll, List.length_cons, Nat.mul_add]
      omega
    · simp only [PySem.PyData.depthAll]
      omega
    · simp [PySem.PyData.showableAll, h5, g5]
    · simp [PySem.PyData.hasDictAll, h6, g6]
theorem rep_tup {w k : Nat} {ds : List D} (h : ∀ d ∈ ds, Rep w k d) : Rep ((w + 1) * ds.length) (k + 1) (.tup ds) := by
  obtain ⟨ps, g1, g2, g3, g4, g5, g6⟩ := rep_all ds h
  refine ⟨.tuple ps, by rw [D.py, g1]; rfl, ?_, ?_, ?_, ?_, ?_⟩
  · simpa [PySem.PyData.leavesShort] using g2
  · simpa [PySem.PyData.weight] using g3
  · simp [PySem.PyData.depth]; exact g4
  · simpa [PySem.PyData.showable] using g5
  · simpa [PySem.PyData.hasDict] using g6
theorem rep_lst {w k : Nat} {ds : List D} (h : ∀ d ∈ ds, Rep w k d) : Rep ((w + 1) * ds.length) (k + 1) (.lst ds) := by
  obtain ⟨ps, g1, g2, g3, g4, g5, g6⟩ := rep_all ds h
  refine ⟨.list ps, by rw [D.py, g1]; rfl, ?_, ?_, ?_, ?_, ?_⟩
  · simpa [PySem.PyData.leavesShort] using g2
  · simpa [PySem.PyData.weight] using g3
  · simp [PySem.PyData.depth]; exact g4
  · simpa [PySem.PyData.showable] using g5
  · simpa [PySem.PyData.hasDict] using g6
@[simp] theorem wipe_nil (e : Env) : wipe [] e = e := eqI rfl
@[simp] theorem wipe_cons (i : Nat) (vs : List Nat) (e : Env) : wipe (i :: vs) e = (wipe vs e).set i .un := eqI rfl
@[simp] theorem unwipe_nil (e0 e : Env) : unwipe [] e0 e = e := eqI rfl
@[simp] theorem unwipe_cons (i : Nat) (vs : List Nat) (e0 e : Env) : unwipe (i :: vs) e0 e = match e0[i]? with
  | some s => (unwipe vs e0 e).set i s
  | none => unwipe vs e0 e := eqI rfl
/-! ### what a step comes to -/
def Ok {α : Type} (r : R α) (Q : α → Env → Prop) : Prop := ∃ a e, r = .ok a e ∧ Q a e
theorem Ok.of {α : Type} {r : R α} {Q : α → Env → Prop} {a : α} {e : Env} (h : r = .ok a e) (q : Q a e) : Ok r Q := ⟨a, e, h, q⟩
theorem Ok.imp {α : Type} {r : R α} {Q Q' : α → Env → Prop} (h : Ok r Q) (k : ∀ a e, Q a e → Q' a e) : Ok r Q' := let ⟨a, e, h1, h2⟩ := h; ⟨a, e, h1, k a e h2⟩
theorem ok_bnd {α β : Type} {m : M α} {f : α → M β} {e : Env} {Q : β → Env → Prop} (h : Ok (m e) fun a e' => Ok (f a e') Q) : Ok (bnd m f e) Q := by
  obtain ⟨a, e', h1, h2⟩ := h
  rw [bnd_ok h1]
  exact h2
/-- a; b -/
theorem ok_step {a b : M Ctl} {e e' : Env} {Q : Ctl → Env → Prop} (h : a e = .ok .next e') (k : Ok (b e') Q) : Ok (sSeq a b e) Q := by
  rw [sSeq_u, bnd_ok h]; exact k
theorem ok_seq {a b : M Ctl} {e : Env} {Q : Ctl → Env → Prop} (h : Ok (a e) fun c e' => c = .next ∧ Ok (b e') Q) : Ok (sSeq a b e) Q := by
  obtain ⟨c, e', h1, rfl, h2⟩ := h
  exact ok_step h1 h2
theorem ok_cut {a b : M Ctl} {e e' : Env} {c : Ctl} {Q : Ctl → Env → Prop} (h : a e = .ok c e') (hc : c ≠ .next) (q : Q c e') : Ok (sSeq a b e) Q := by
  rw [sSeq_u, bnd_ok h]
  cases c <;> first | exact absurd rfl hc | exact .of rfl q
theorem ok_seqc {a b : M Ctl} {e : Env} {Q : Ctl → Env → Prop} (h : Ok (a e) fun c e' => (c = .next → Ok (b e') Q) ∧ (c ≠ .next → Q c e')) : Ok (sSeq a b e) Q := by
  obtain ⟨c, e', h1, h2, h3⟩ := h
  by_cases z : c = .next
  · subst z; exact ok_step h1 (h2 rfl)
  · exact ok_cut h1 z (h3 z)
theorem ok_set {i : Nat} {m : M W} {e : Env} {Q : Ctl → Env → Prop} (h : Ok (m e) fun w e' => Ok (put i w e') Q) : Ok (sSet i m e) Q := ok_bnd h
theorem ok_if {t : M Bool} {a b : M Ctl} {e e' : Env} {Q : Ctl → Env → Prop} {x : Bool} (h : t e = .ok x e') (h1 : x = true → Ok (a e') Q) (h2 : x = false → Ok (b e') Q) : Ok (sIf t a b e) Q := by
  rw [sIf_u, bnd_ok h]
  cases x with
  | true => exact h1 rfl
  | false => exact h2 rfl
theorem ok_for {i : M (List D)} {g : D → M Unit} {b : M Ctl} {e e0 : Env} {ds : List D} {Q : Ctl → Env → Prop} (P : Nat → Env → Prop) (h : i e = .ok ds e0) (p : P 0 e0)
    (step : ∀ k d e, ds[k]? = some d → P k e → ∃ e1, g d e = .ok () e1 ∧ Ok (b e1) fun c e2 => (c = .next ∨ c = .cont) ∧ P (k + 1) e2) (q : ∀ e', P ds.length e' → Q .next e') : Ok (sFor i g b e) Q := by
  obtain ⟨e', h1, h2⟩ := forL_inv (g := g) (b := b) P ds (fun k d e hd hp => by
    obtain ⟨e1, h1, c, e2, h2, h3, h4⟩ := step k d e hd hp
    exact ⟨e1, e2, c, h1, h2, h3, h4⟩) e0 p
  exact ⟨.next, e', (sFor_ok h).trans h1, q e' h2⟩
/-- a comprehension that changes nothing but its own names -/
theorem comp_map {i : M (List D)} {g : D → M Unit} {t : M Bool} {b : M W} {vs : List Nat} {e e1 : Env} {ds : List D} (f : D → D) (p : D → Bool) (h : i e = .ok ds e1) (hl : ds.length < lim)
    (hs : ∀ d, d ∈ ds → ∃ e2, g d (wipe vs e1) = .ok () e2 ∧ t e2 = .ok (p d) e2 ∧ wipe vs e2 = wipe vs e1 ∧ (p d = true → b e2 = .ok (.d (f d)) e2)) :
    eComp i g t b vs e = .ok (.fr (.lst ((ds.filter p).map f))) (unwipe vs e1 (wipe vs e1)) := by
  have := compL_map (g := g) (t := t) (b := b) (vs := vs) (e := wipe vs e1) f p ds [] hs
  exact eComp_ok h hl this
/-- over a range -/
theorem comp_rng {i : M (List D)} {g : D → M Unit} {b : M W} {vs : List Nat} {e e1 : Env} {lo : Int} {n : Nat} (f : Nat → D) (h : i e = .ok (rngD lo n) e1) (hl : n < lim)
    (hs : ∀ (k : Nat) (i : Int), k < n → i = lo + k → ∃ e2, g (.int i) (wipe vs e1) = .ok () e2 ∧ wipe vs e2 = wipe vs e1 ∧ b e2 = .ok (.d (f k)) e2) :
    eComp i g tYes b vs e = .ok (.fr (.lst ((List.range n).map f))) (unwipe vs e1 (wipe vs e1)) := by
  refine (comp_map (ds := rngD lo n) (fun d => match d with | .int j => f (j - lo).toNat | d => d) (fun _ => true) h (by simpa using hl) ?_).trans ?_
  · intro d hd
    obtain ⟨k, hk, rfl⟩ := rngD_mem hd
    obtain ⟨e2, h1, h2, h3⟩ := hs k _ hk rfl
    refine ⟨e2, h1, rfl, h2, fun _ => ?_⟩
    rw [h3]
    have : (lo + (k : Int) - lo).toNat = k := by omega
    simp only [this]
  · congr 3
    unfold rngD
    rw [List.filter_eq_self.mpr (by simp), List.map_map]
    refine List.map_congr_left fun k _ => ?_
    have : (lo + (k : Int) - lo).toNat = k := by omega
    simp only [Function.comp, this]
theorem small_emod (x m : Int) (h : 0 < m) (h2 : m ≤ 2 ^ 64) : small64 (x % m) = true := by
  have h1 := Int.emod_nonneg x (show m ≠ 0 by omega)
  have h3 := Int.emod_lt_of_pos x h
  exact small_of (by omega) (by omega)
theorem map_set_int (rs : List Int) (i : Nat) (x : Int) : (rs.map D.int).set i (.int x) = (rs.set i x).map D.int := by rw [List.map_set]
theorem map_app_int (rs : List Int) (x : Int) : rs.map D.int ++ [.int x] = (rs ++ [x]).map D.int := by simp
theorem get_int {rs : List Int} {i : Nat} (h : i < rs.length) : (rs.map D.int)[i]? = some (.int rs[i]) := by simp [h]
/-- the end of a def -/
theorem fin_ok {N : Nat} {b : M Ctl} {e : Env} {Q : W → List Cell → Prop} (h : Ok (b e) fun c e' => ∃ w r cs, c = .ret w ∧ leave w e' = some r ∧ cellsOf (e'.drop N) = some cs ∧ Q r cs) : ∃ r cs, fin N (b e) = .ok r cs ∧ Q r cs := by
  obtain ⟨c, e', h1, w, r, cs, rfl, h2, h3, h4⟩ := h
  refine ⟨r, cs, ?_, h4⟩
  rw [h1, fin_ret, h2, h3]
end
theorem ok_ret {a b : M Ctl} {e : Env} {Q : Ctl → Env → Prop} (h : Ok (a e) fun c e' => c ≠ .next ∧ Q c e') : Ok (sSeq a b e) Q :=
  ok_seqc (h.imp fun c e' z => ⟨fun y => absurd y z.1, fun _ => z.2⟩)
theorem ok_ifT {t : M Bool} {a b : M Ctl} {e e' : Env} {Q : Ctl → Env → Prop} (h : t e = .ok true e') (k : Ok (a e') Q) : Ok (sIf t a b e) Q := ok_if h (fun _ => k) (fun z => nomatch z)
theorem ok_ifF {t : M Bool} {a b : M Ctl} {e e' : Env} {Q : Ctl → Env → Prop} (h : t e = .ok false e') (k : Ok (b e') Q) : Ok (sIf t a b e) Q := ok_if h (fun z => nomatch z) (fun _ => k)
/-- return e -/
theorem ok_sret {m : M W} {e e' : Env} {w : W} {Q : Ctl → Env → Prop} (h : m e = .ok w e') (q : Q (.ret w) e') : Ok (sRet m e) Q := by
  refine .of (a := .ret w) (e := e') ?_ q
  rw [sRet_u, bnd_ok h]; rfl
/-- what a def gives, from its body: the answer is told -/
theorem fn_is {N : Nat} {b : M Ctl} {e : Env} {r : W} {cs : List Cell} (h : Ok (b e) fun c e' => ∃ w, c = .ret w ∧ leave w e' = some r ∧ cellsOf (e'.drop N) = some cs) : fin N (b e) = .ok r cs := by
  obtain ⟨c, e', h1, w, rfl, h2, h3⟩ := h
  rw [h1, fin_ret, h2, h3]
theorem ixn_at {n : Nat} {a : Int} (h0 : 0 ≤ a) (h1 : a < n) : ixn n a = some a.toNat := by unfold ixn; rw [if_pos h0, if_pos h1]
@[simp] theorem ixn_1_0 : ixn 1 0 = some 0 := eqI rfl
@[simp] theorem ixn_1_l : ixn 1 (-1) = some 0 := eqI rfl
@[simp] theorem ixn_2_0 : ixn 2 0 = some 0 := eqI rfl
@[simp] theorem ixn_2_1 : ixn 2 1 = some 1 := eqI rfl
@[simp] theorem ixn_2_l : ixn 2 (-1) = some 1 := eqI rfl
@[simp] theorem ixn_3_0 : ixn 3 0 = some 0 := eqI rfl
@[simp] theorem ixn_3_1 : ixn 3 1 = some 1 := eqI rfl
@[simp] theorem ixn_3_2 : ixn 3 2 = some 2 := eqI rfl
@[simp] theorem ixn_3_l : ixn 3 (-1) = some 2 := eqI rfl
@[simp] theorem ixn_4_0 : ixn 4 0 = some 0 := eqI rfl
@[simp] theorem ixn_4_1 : ixn 4 1 = some 1 := eqI rfl
@[simp] theorem ixn_4_2 : ixn 4 2 = some 2 := eqI rfl
@[simp] theorem ixn_4_3 : ixn 4 3 = some 3 := eqI rfl
@[simp] theorem ixn_4_l : ixn 4 (-1) = some 3 := eqI rfl
@[simp] theorem ixn_5_0 : ixn 5 0 = some 0 := eqI rfl
@[simp] theorem ixn_5_1 : ixn 5 1 = some 1 := eqI rfl
@[simp] theorem ixn_5_2 : ixn 5 2 = some 2 := eqI rfl
@[simp] theorem ixn_5_3 : ixn 5 3 = some 3 := eqI rfl
@[simp] theorem ixn_5_4 : ixn 5 4 = some 4 := eqI rfl
@[simp] theorem ixn_5_l : ixn 5 (-1) = some 4 := eqI rfl
@[simp] theorem ixn_6_0 : ixn 6 0 = some 0 := eqI rfl
@[simp] theorem ixn_6_1 : ixn 6 1 = some 1 := eqI rfl
@[simp] theorem ixn_6_2 : ixn 6 2 = some 2 := eqI rfl
@[simp] theorem ixn_6_3 : ixn 6 3 = some 3 := eqI rfl
@[simp] theorem ixn_6_4 : ixn 6 4 = some 4 := eqI rfl
@[simp] theorem ixn_6_5 : ixn 6 5 = some 5 := eqI rfl
@[simp] theorem ixn_6_l : ixn 6 (-1) = some 5 := eqI rfl
@[simp] theorem ixn_7_0 : ixn 7 0 = some 0 := eqI rfl
@[simp] theorem ixn_7_1 : ixn 7 1 = some 1 := eqI rfl
@[simp] theorem ixn_7_2 : ixn 7 2 = some 2 := eqI rfl
@[simp] theorem ixn_7_3 : ixn 7 3 = some 3 := eqI rfl
@[simp] theorem ixn_7_4 : ixn 7 4 = some 4 := eqI rfl
@[simp] theorem ixn_7_5 : ixn 7 5 = some 5 := eqI rfl
@[simp] theorem ixn_7_6 : ixn 7 6 = some 6 := eqI rfl
@[simp] theorem ixn_7_l : ixn 7 (-1) = some 6 := eqI rfl
@[simp] theorem ixn_8_0 : ixn 8 0 = some 0 := eqI rfl
@[simp] theorem ixn_8_1 : ixn 8 1 = some 1 := eqI rfl
@[simp] theorem ixn_8_2 : ixn 8 2 = some 2 := eqI rfl
@[simp] theorem ixn_8_3 : ixn 8 3 = some 3 := eqI rfl
@[simp] theorem ixn_8_4 : ixn 8 4 = some 4 := eqI rfl
@[simp] theorem ixn_8_5 : ixn 8 5 = some 5 := eqI rfl
@[simp] theorem ixn_8_6 : ixn 8 6 = some 6 := eqI rfl
@[simp] theorem ixn_8_7 : ixn 8 7 = some 7 := eqI rfl
@[simp] theorem ixn_8_l : ixn 8 (-1) = some 7 := eqI rfl
@[simp] theorem ixn_9_0 : ixn 9 0 = some 0 := eqI rfl
@[simp] theorem ixn_9_1 : ixn 9 1 = some 1 := eqI rfl
@[simp] theorem ixn_9_2 : ixn 9 2 = some 2 := eqI rfl
@[simp] theorem ixn_9_3 : ixn 9 3 = some 3 := eqI rfl
@[simp] theorem ixn_9_4 : ixn 9 4 = some 4 := eqI rfl
@[simp] theorem ixn_9_5 : ixn 9 5 = some 5 := eqI rfl
@[simp] theorem ixn_9_6 : ixn 9 6 = some 6 := eqI rfl
@[simp] theorem ixn_9_7 : ixn 9 7 = some 7 := eqI rfl
@[simp] theorem ixn_9_8 : ixn 9 8 = some 8 := eqI rfl
@[simp] theorem ixn_9_l : ixn 9 (-1) = some 8 := eqI rfl
@[simp] theorem eCallV_u (g : Fn) (a : M (List W)) (e : Env) : eCallV g a e = bnd a (fun ws => fun e => match vws ws e with
  | some ds => aftV e (g (toA ds))
  | none => .fail) e := eqI rfl
@[simp] theorem eRep_u (a b : M W) (e : Env) : eRep a b e = bnd a (fun x => bnd b fun y => fun e => match x, y with
  | .fr (.lst ds), .d (.int k) => if -(2 ^ 62) ≤ k ∧ k < 2 ^ 62 ∧ ds.length * k.toNat ≤ lim then .ok (.fr (.lst (List.replicate k.toNat ds).flatten)) e else .fail
  | _, _ => .fail) e := eqI rfl
@[simp] theorem toA_nil : toA [] = [] := eqI rfl
@[simp] theorem toA_cons (d : D) (ds : List D) : toA (d :: ds) = .a d :: toA ds := eqI rfl
@[simp] theorem flatW_int (i : Int) : flatW (.d (.int i)) = true := eqI rfl
@[simp] theorem flatW_bl (i : Bool) : flatW (.d (.bl i)) = true := eqI rfl
@[simp] theorem flatW_non : flatW (.d .non) = true := eqI rfl
@[simp] theorem flat_ints (l : List Int) : (l.map D.int).all flatD = true := by
  rw [List.all_eq_true]
  intro x hx
  obtain ⟨i, _, rfl⟩ := List.mem_map.mp hx
  rfl
@[simp] theorem flatW_tup (l : List Int) : flatW (.d (.tup (l.map .int))) = true := flat_ints l
@[simp] theorem flatW_lst (l : List Int) : flatW (.fr (.lst (l.map .int))) = true := flat_ints l
@[simp] theorem small64_0 : small64 0 = true := eqI rfl
@[simp] theorem small64_1 : small64 1 = true := eqI rfl
@[simp] theorem small64_2 : small64 2 = true := eqI rfl
@[simp] theorem small64_3 : small64 3 = true := eqI rfl
@[simp] theorem small64_4 : small64 4 = true := eqI rfl
@[simp] theorem small64_5 : small64 5 = true := eqI rfl
@[simp] theorem small64_6 : small64 6 = true := eqI rfl
@[simp] theorem small64_7 : small64 7 = true := eqI rfl
@[simp] theorem small64_8 : small64 8 = true := eqI rfl
@[simp] theorem small64_9 : small64 9 = true := eqI rfl
@[simp] theorem small64_10 : small64 10 = true := eqI rfl
@[simp] theorem small64_11 : small64 11 = true := eqI rfl
@[simp] theorem small64_12 : small64 12 = true := eqI rfl
@[simp] theorem small64_48271 : small64 48271 = true := eqI rfl
@[simp] theorem small64_69621 : small64 69621 = true := eqI rfl
@[simp] theorem small64_16807 : small64 16807 = true := eqI rfl
@[simp] theorem small64_7919 : small64 7919 = true := eqI rfl
@[simp] theorem small64_1000003 : small64 1000003 = true := eqI rfl
/-- a loop that may be left -/
theorem ok_forR {i : M (List D)} {g : D → M Unit} {b : M Ctl} {e e0 : Env} {ds : List D} {Q : Ctl → Env → Prop} (P : Nat → Env → Prop) (h : i e = .ok ds e0) (p : P 0 e0)
    (step : ∀ k d e, ds[k]? = some d → P k e → ∃ e1, g d e = .ok () e1 ∧ Ok (b e1) fun c e2 => ((c = .next ∨ c = .cont) ∧ P (k + 1) e2) ∨ (c = .brk ∧ Q .next e2) ∨ ∃ w, c = .ret w ∧ Q (.ret w) e2) (q : ∀ e', P ds.length e' → Q .next e') : Ok (sFor i g b e) Q := by
  have go : ∀ (l : List D) (k : Nat) (e : Env), ds.drop k = l → k ≤ ds.length → P k e → Ok (forL g b l e) Q := by
    intro l
    induction l with
    | nil =>
      intro k e hl hk hp
      have : k = ds.length := by
        have := congrArg List.length hl
        simp at this
        omega
      subst this
      exact ⟨.next, e, rfl, q e hp⟩
    | cons d l ih =>
      intro k e hl hk hp
      have hd : ds[k]? = some d := by
        have := congrArg (·[0]?) hl
        simpa using this
      have hk' : k < ds.length := by
        rcases Nat.lt_or_ge k ds.length with h | h
        · exact h
        · rw [List.getElem?_eq_none h] at hd; cases hd
      have hl' : ds.drop (k + 1) = l := by
        rw [← List.drop_drop, hl]; rfl
      obtain ⟨e1, h1, c, e2, h2, h3⟩ := step k d e hd hp
      show Ok (bnd (g d) _ e) Q
      rw [bnd_ok h1, bnd_ok h2]
      rcases h3 with ⟨h3 | h3, h4⟩ | ⟨h3, h4⟩ | ⟨w, h3, h4⟩
      · subst h3; exact ih (k + 1) e2 hl' hk' h4
      · subst h3; exact ih (k + 1) e2 hl' hk' h4
      · subst h3; exact ⟨_, _, rfl, h4⟩
      · subst h3; exact ⟨_, _, rfl, h4⟩
  obtain ⟨c, e', h1, h2⟩ := go ds 0 e0 rfl (Nat.zero_le _) p
  exact ⟨c, e', (sFor_ok h).trans h1, h2⟩
/-- while, by a measure -/
theorem ok_while {t : M Bool} {b : M Ctl} {e : Env} {n : Nat} {Q : Ctl → Env → Prop} (P : Nat → Env → Prop) (p : P n e)
    (step : ∀ m e, P m e → ∃ x e1, t e = .ok x e1 ∧ (x = true → 1 ≤ m ∧ Ok (b e1) fun c e2 => ((c = .next ∨ c = .cont) ∧ P (m - 1) e2) ∨ (c = .brk ∧ Q .next e2) ∨ ∃ w, c = .ret w ∧ Q (.ret w) e2) ∧ (x = false → Q .next e1)) : Ok (sWhile t b (n + 1) e) Q := by
  induction n generalizing e with
  | zero =>
    obtain ⟨x, e1, h1, h2, h3⟩ := step 0 e p
    unfold sWhile
    rw [bnd_ok h1]
    cases x with
    | true => exact absurd (h2 rfl).1 (by omega)
    | false => exact ⟨.next, e1, rfl, h3 rfl⟩
  | succ n ih =>
    obtain ⟨x, e1, h1, h2, h3⟩ := step (n + 1) e p
    unfold sWhile
    rw [bnd_ok h1]
    cases x with
    | false => exact ⟨.next, e1, rfl, h3 rfl⟩
    | true =>
      obtain ⟨_, c, e2, h4, h5⟩ := h2 rfl
      simp only [if_true]
      rw [bnd_ok h4]
      rcases h5 with ⟨h5 | h5, h6⟩ | ⟨h5, h6⟩ | ⟨w, h5, h6⟩
      · subst h5; exact ih h6
      · subst h5; exact ih h6
      · subst h5; exact ⟨_, _, rfl, h6⟩
      · subst h5; exact ⟨_, _, rfl, h6⟩
/-! ### rows of ints, compared -/
theorem pys_ints : ∀ ns : List Int, pys (ns.map .int) = some (ns.map .int)
  | [] => rfl
  | n :: ns => by rw [List.map_cons, pys, py_int, pys_ints ns]; rfl
theorem lay_ints : ∀ ns : List Int, PySem.PyData.canLayAll0 (ns.map .int) = true
  | [] => rfl
  | n :: ns => by rw [List.map_cons, PySem.PyData.canLayAll0, lay_ints ns]; rfl
theorem dep_ints : ∀ ns : List Int, PySem.PyData.depthAll (ns.map .int) = 0
  | [] => rfl
  | n :: ns => by
    show max (PySem.PyData.depth (.int n)) (PySem.PyData.depthAll (ns.map .int)) = 0
    rw [dep_ints ns]
    rfl
theorem eqv_ints : ∀ a b : List Int, PySem.PyData.eqvAll (a.map .int) (b.map .int) = decide (a = b)
  | [], [] => rfl
  | [], b :: bs => rfl
  | a :: as, [] => rfl
  | a :: as, b :: bs => by
    show (PySem.PyData.eqv (.int a) (.int b) && PySem.PyData.eqvAll (as.map .int) (bs.map .int)) = _
    rw [eqv_ints as bs]
    show ((a == b) && decide (as = bs)) = _
    by_cases h1 : a = b <;> by_cases h2 : as = bs <;> simp [h1, h2]
theorem eqP_lst (a b : List Int) : eqP (.lst (a.map .int)) (.lst (b.map .int)) = some (decide (a = b)) := by
  unfold eqP
  rw [D.py, pys_ints, D.py, pys_ints]
  have h : ∀ l : List Int, PySem.SeqAt.shaped (.list (l.map .int)) = true := fun l => by
    unfold PySem.SeqAt.shaped
    rw [PySem.PyData.canLay0, lay_ints, PySem.PyData.depth, dep_ints]
    rfl
  simp only [Option.map_some, h, Bool.and_self, if_true]
  rw [PySem.PyData.eqv, eqv_ints]
theorem eqP_tup (a b : List Int) : eqP (.tup (a.map .int)) (.tup (b.map .int)) = some (decide (a = b)) := by
  unfold eqP
  rw [D.py, pys_ints, D.py, pys_ints]
  have h : ∀ l : List Int, PySem.SeqAt.shaped (.tuple (l.map .int)) = true := fun l => by
    unfold PySem.SeqAt.shaped
    rw [PySem.PyData.canLay0, lay_ints, PySem.PyData.depth, dep_ints]
    rfl
  simp only [Option.map_some, h, Bool.and_self, if_true]
  rw [PySem.PyData.eqv, eqv_ints]
theorem eqS_lst (a b : List D) : eqS (.lst a) (.lst b) = none := rfl
theorem eqS_tup (a b : List D) : eqS (.tup a) (.tup b) = none := rfl
theorem oEq_lsts (a b : List Int) : oEq (.lst (a.map .int)) (.lst (b.map .int)) = some (.d (.bl (decide (a = b)))) := by unfold oEq eqD; rw [eqS_lst, eqP_lst]; rfl
theorem oNe_lsts (a b : List Int) : oNe (.lst (a.map .int)) (.lst (b.map .int)) = some (.d (.bl (!decide (a = b)))) := by unfold oNe eqD; rw [eqS_lst, eqP_lst]; rfl
theorem oEq_tups (a b : List Int) : oEq (.tup (a.map .int)) (.tup (b.map .int)) = some (.d (.bl (decide (a = b)))) := by unfold oEq eqD; rw [eqS_tup, eqP_tup]; rfl
theorem oNe_tups (a b : List Int) : oNe (.tup (a.map .int)) (.tup (b.map .int)) = some (.d (.bl (!decide (a = b)))) := by unfold oNe eqD; rw [eqS_tup, eqP_tup]; rfl
/-- a question of an int -/
def onI (q : Int → Bool) : D → Bool
  | .int i => q i
  | _ => false
@[simp] theorem onI_int (q : Int → Bool) (i : Int) : onI q (.int i) = q i := eqI rfl
theorem filter_rng (q : Int → Bool) (n : Nat) : (rngD 0 n).filter (onI q) = ((List.range n).filter fun (k : Nat) => q (k : Int)).map fun (k : Nat) => D.int (k : Int) := by
  unfold rngD
  rw [List.filter_map]
  have : List.filter (onI q ∘ fun (k : Nat) => D.int (0 + (k : Int))) (List.range n) = (List.range n).filter fun (k : Nat) => q (k : Int) := List.filter_congr fun x _ => by simp
  rw [this]
  exact List.map_congr_left fun x _ => by simp
theorem sum_nonneg : ∀ {l : List Int}, (∀ z ∈ l, 0 ≤ z) → 0 ≤ l.sum
  | [], _ => by simp
  | x :: l, h => by
    have := sum_nonneg fun z hz => h z (List.mem_cons_of_mem _ hz)
    have := h x (List.mem_cons_self ..)
    simp only [List.sum_cons]
    omega
end Py
end
section
set_option linter.all false
set_option maxRecDepth 100000
namespace Py
namespace K55
abbrev sNever : M Ctl := fun _ => .fail
def ct : CT := [("InvalidNumber", ["InvalidNumber", "NinthError", "ValueError"]), ("InvalidMap", ["InvalidMap", "NinthError", "ValueError"])]
/- slots of is_integer: 0 value -/
def b_is_integer : M Ctl :=
  (sRet (eAnd (eB bIsi (aCons (eVar 0) (aCons (eC (.ty "int")) aNil))) (eNot (eB bIsi (aCons (eVar 0) (aCons (eC (.ty "bool")) aNil))))))
def g_is_integer : Fn := mkFn 1 1 b_is_integer
theorem e_is_integer (x0 : D) : g_is_integer [.a x0] = fin 1 (b_is_integer [.val x0]) := mk_fin ⟨rfl, by decide⟩
/- slots of is_number: 0 value -/
def b_is_number : M Ctl :=
  (sRet (eAnd (eCall g_is_integer [] (aConsF (eVar 0) aNil)) (eOp oGe (eVar 0) (eC (.int 0)))))
def g_is_number : Fn := mkFn 1 1 b_is_number
theorem e_is_number (x0 : D) : g_is_number [.a x0] = fin 1 (b_is_number [.val x0]) := mk_fin ⟨rfl, by decide⟩
/- slots of is_below: 0 value, 1 bound -/
def b_is_below : M Ctl :=
  (sRet (eAnd (eCall g_is_integer [] (aConsF (eVar 0) aNil)) (eChain oLe oLt (eC (.int 0)) (eVar 0) (eVar 1))))
def g_is_below : Fn := mkFn 2 2 b_is_below
theorem e_is_below (x0 : D) (x1 : D) : g_is_below [.a x0, .a x1] = fin 2 (b_is_below [.val x0, .val x1]) := mk_fin ⟨rfl, by decide⟩
/- slots of row_below: 0 value, 1 length, 2 bound, 3 one -/
def b_row_below : M Ctl :=
  (sSeq (sIf (tOr (tNot (tTru (eB bIsi (aCons (eVar 0) (aCons (eC (.ty "tuple")) aNil))))) (tBl (eOp oNe (eB bLen (aCons (eVar 0) aNil)) (eVar 1)))) (sRet (eC (.bl false))) sNext)
    (sSeq (sFor (iSeq (eVar 0)) (gName 3) (sIf (tNot (tTru (eCall g_is_below [] (aConsF (eVar 3) (aConsF (eVar 2) aNil))))) (sRet (eC (.bl false))) sNext))
    (sRet (eC (.bl true)))))
def g_row_below : Fn := mkFn 4 3 b_row_below
theorem e_row_below (x0 : D) (x1 : D) (x2 : D) : g_row_below [.a x0, .a x1, .a x2] = fin 4 (b_row_below [.val x0, .val x1, .val x2, .un]) := mk_fin ⟨rfl, by decide⟩
/- slots of ways_of: 0 many, 1 found, 2 _, 3 one, 4 other -/
def b_ways_of : M Ctl :=
  (sSeq (sSet 1 (eLst (aConsF (eC (.int 1)) aNil)))
    (sSeq (sFor (iRng1 (eVar 0)) (gName 2) (sSet 1 (eOp oAdd (eOp oAdd (eLst (aConsF (eC (.int 1)) aNil)) (eComp (iZip (aConsF (eVar 1) (aConsF (eSl (eVar 1) (some (eC (.int 1))) none) aNil))) (gTup [3, 4]) tYes (eOp oAdd (eVar 3) (eVar 4)) [3, 4])) (eLst (aConsF (eC (.int 1)) aNil)))))
    (sRet (eVar 1))))
def g_ways_of : Fn := mkFn 5 1 b_ways_of
theorem e_ways_of (x0 : D) : g_ways_of [.a x0] = fin 5 (b_ways_of [.val x0, .un, .un, .un, .un]) := mk_fin ⟨rfl, by decide⟩
/- slots of is_prime: 0 value, 1 most, 2 divisor -/
def b_is_prime : M Ctl :=
  (sSeq (sIf (tOr (tNot (tTru (eCall g_is_number [] (aConsF (eVar 0) aNil)))) (tNot (tBl (eChain oLe oLe (eC (.int 2)) (eVar 0) (eVar 1))))) (sRet (eC (.bl false))) sNext)
    (sRet (eB bAll (aCons (eComp (iRng2 (eC (.int 2)) (eVar 0)) (gName 2) tYes (eOp oNe (eOp oMod (eVar 0) (eVar 2)) (eC (.int 0))) [2]) aNil))))
def g_is_prime : Fn := mkFn 3 2 b_is_prime
theorem e_is_prime (x0 : D) (x1 : D) : g_is_prime [.a x0, .a x1] = fin 3 (b_is_prime [.val x0, .val x1, .un]) := mk_fin ⟨rfl, by decide⟩
/- slots of check_prime: 0 p -/
def b_check_prime : M Ctl :=
  (sIf (tNot (tTru (eCall g_is_prime [] (aConsF (eVar 0) (aConsF (eC (.int (101))) aNil))))) (sRaise "InvalidNumber" ["value"] (aConsF (eVar 0) aNil)) sNext)
def g_check_prime : Fn := mkFn 1 1 b_check_prime
theorem e_check_prime (x0 : D) : g_check_prime [.a x0] = fin 1 (b_check_prime [.val x0]) := mk_fin ⟨rfl, by decide⟩
/- slots of check_table: 0 p, 1 f -/
def b_check_table : M Ctl :=
  (sSeq (sDrop (eCall g_check_prime [] (aConsF (eVar 0) aNil)))
    (sIf (tNot (tTru (eCall g_row_below [] (aConsF (eVar 1) (aConsF (eVar 0) (aConsF (eVar 0) aNil)))))) (sRaise "InvalidMap" ["value"] (aConsF (eVar 1) aNil)) sNext))
def g_check_table : Fn := mkFn 2 2 b_check_table
theorem e_check_table (x0 : D) (x1 : D) : g_check_table [.a x0, .a x1] = fin 2 (b_check_table [.val x0, .val x1]) := mk_fin ⟨rfl, by decide⟩
/- slots of check_degree: 0 p, 1 d, 2 f -/
def b_check_degree : M Ctl :=
  (sSeq (sDrop (eCall g_check_prime [] (aConsF (eVar 0) aNil)))
    (sSeq (sIf (tOr (tNot (tTru (eCall g_is_number [] (aConsF (eVar 1) aNil)))) (tOr (tBl (eOp oGt (eVar 1) (eC (.int (4))))) (tBl (eOp oGt (eOp oAdd (eVar 1) (eC (.int 2))) (eVar 0))))) (sRaise "InvalidNumber" ["value"] (aConsF (eVar 1) aNil)) sNext)
    (sDrop (eCall g_check_table [] (aConsF (eVar 0) (aConsF (eVar 2) aNil))))))
def g_check_degree : Fn := mkFn 3 3 b_check_degree
theorem e_check_degree (x0 : D) (x1 : D) (x2 : D) : g_check_degree [.a x0, .a x1, .a x2] = fin 3 (b_check_degree [.val x0, .val x1, .val x2]) := mk_fin ⟨rfl, by decide⟩
/- slots of factors_of: 0 d, 1 i, 2 way -/
def b_factors_of : M Ctl :=
  (sRet (eComp (iEnum (eCall g_ways_of [] (aConsF (eOp oAdd (eVar 0) (eC (.int 1))) aNil))) (gTup [1, 2]) tYes (eIf (tBl (eOp oEq (eOp oMod (eVar 1) (eC (.int 2))) (eC (.int 0)))) (eVar 2) (eUn oNeg (eVar 2))) [1, 2]))
def g_factors_of : Fn := mkFn 3 1 b_factors_of
theorem e_factors_of (x0 : D) : g_factors_of [.a x0] = fin 3 (b_factors_of [.val x0, .un, .un]) := mk_fin ⟨rfl, by decide⟩
/- slots of step_sum: 0 p, 1 factors, 2 f, 3 x, 4 h, 5 i, 6 factor -/
def b_step_sum : M Ctl :=
  (sRet (eOp oMod (eB bSum (aCons (eComp (iEnum (eVar 1)) (gTup [5, 6]) tYes (eOp oMul (eVar 6) (eOp oIx (eVar 2) (eOp oMod (eOp oAdd (eVar 3) (eOp oMul (eVar 5) (eVar 4))) (eVar 0)))) [5, 6]) aNil)) (eVar 0)))
def g_step_sum : Fn := mkFn 7 5 b_step_sum
theorem e_step_sum (x0 : D) (x1 : D) (x2 : D) (x3 : D) (x4 : D) : g_step_sum [.a x0, .a x1, .a x2, .a x3, .a x4] = fin 7 (b_step_sum [.val x0, .val x1, .val x2, .val x3, .val x4, .un, .un]) := mk_fin ⟨rfl, by decide⟩
/- slots of broken_steps: 0 p, 1 d, 2 f, 3 factors, 4 many, 5 x, 6 h -/
def b_broken_steps : M Ctl :=
  (sSeq (sDrop (eCall g_check_degree [] (aConsF (eVar 0) (aConsF (eVar 1) (aConsF (eVar 2) aNil)))))
    (sSeq (sSet 3 (eCall g_factors_of [] (aConsF (eVar 1) aNil)))
    (sSeq (sSet 4 (eC (.int 0)))
    (sSeq (sFor (iRng1 (eVar 0)) (gName 5) (sAug 4 aAdd (eB bLen (aCons (eComp (iRng1 (eVar 0)) (gName 6) (tBl (eOp oNe (eCallV g_step_sum (aConsF (eVar 0) (aCons (eVar 3) (aConsF (eVar 2) (aConsF (eVar 5) (aConsF (eVar 6) aNil)))))) (eC (.int 0)))) (eVar 6) [6]) aNil))))
    (sRet (eVar 4))))))
def g_broken_steps : Fn := mkFn 7 3 b_broken_steps
theorem e_broken_steps (x0 : D) (x1 : D) (x2 : D) : g_broken_steps [.a x0, .a x1, .a x2] = fin 7 (b_broken_steps [.val x0, .val x1, .val x2, .un, .un, .un, .un]) := mk_fin ⟨rfl, by decide⟩
/- slots of step_votes: 0 p, 1 d, 2 f, 3 x, 4 factors, 5 counts, 6 h, 7 _ -/
def b_step_votes : M Ctl :=
  (sSeq (sDrop (eCall g_check_degree [] (aConsF (eVar 0) (aConsF (eVar 1) (aConsF (eVar 2) aNil)))))
    (sSeq (sIf (tNot (tTru (eCall g_is_below [] (aConsF (eVar 3) (aConsF (eVar 0) aNil))))) (sRaise "InvalidNumber" ["value"] (aConsF (eVar 3) aNil)) sNext)
    (sSeq (sSet 4 (eCall g_factors_of [] (aConsF (eVar 1) aNil)))
    (sSeq (sSet 5 (eComp (iRng1 (eVar 0)) (gName 7) tYes (eC (.int 0)) [7]))
    (sSeq (sFor (iRng1 (eVar 0)) (gName 6) (sAugS aAdd (eVar 5) (eOp oMod (eOp oSub (eOp oIx (eVar 2) (eVar 3)) (eCallV g_step_sum (aConsF (eVar 0) (aCons (eVar 4) (aConsF (eVar 2) (aConsF (eVar 3) (aConsF (eVar 6) aNil))))))) (eVar 0)) (eC (.int 1))))
    (sRet (eB bTuple (aCons (eVar 5) aNil))))))))
def g_step_votes : Fn := mkFn 8 4 b_step_votes
theorem e_step_votes (x0 : D) (x1 : D) (x2 : D) (x3 : D) : g_step_votes [.a x0, .a x1, .a x2, .a x3] = fin 8 (b_step_votes [.val x0, .val x1, .val x2, .val x3, .un, .un, .un, .un]) := mk_fin ⟨rfl, by decide⟩
/- slots of is_near: 0 p, 1 d, 2 f -/
def b_is_near : M Ctl :=
  (sRet (eOp oLt (eOp oMul (eOp oMul (eOp oMul (eCall g_broken_steps [] (aConsF (eVar 0) (aConsF (eVar 1) (aConsF (eVar 2) aNil)))) (eOp oAdd (eVar 1) (eC (.int 1)))) (eOp oAdd (eVar 1) (eC (.int 3)))) (eOp oAdd (eVar 1) (eC (.int 3)))) (eOp oMul (eOp oMul (eOp oAdd (eVar 1) (eC (.int 2))) (eVar 0)) (eVar 0))))
def g_is_near : Fn := mkFn 3 3 b_is_near
theorem e_is_near (x0 : D) (x1 : D) (x2 : D) : g_is_near [.a x0, .a x1, .a x2] = fin 3 (b_is_near [.val x0, .val x1, .val x2]) := mk_fin ⟨rfl, by decide⟩
/- slots of inverse_of: 0 p, 1 number, 2 other -/
def b_inverse_of : M Ctl :=
  (sSeq (sFor (iRng2 (eC (.int 1)) (eVar 0)) (gName 2) (sIf (tBl (eOp oEq (eOp oMod (eOp oMul (eVar 1) (eVar 2)) (eVar 0)) (eC (.int 1)))) (sRet (eVar 2)) sNext))
    (sRet (eC (.int 0))))
def g_inverse_of : Fn := mkFn 3 2 b_inverse_of
theorem e_inverse_of (x0 : D) (x1 : D) : g_inverse_of [.a x0, .a x1] = fin 3 (b_inverse_of [.val x0, .val x1, .un]) := mk_fin ⟨rfl, by decide⟩
/- slots of times_less: 0 p, 1 curve, 2 x, 3 longer, 4 place, 5 number -/
def b_times_less : M Ctl :=
  (sSeq (sSet 3 (eOp oAdd (eLst (aConsF (eC (.int 0)) aNil)) (eB bList (aCons (eVar 1) aNil))))
    (sSeq (sFor (iEnum (eVar 1)) (gTup [4, 5]) (sPut (eOp oMod (eOp oSub (eOp oIx (eVar 3) (eVar 4)) (eOp oMul (eVar 2) (eVar 5))) (eVar 0)) (eVar 3) (eVar 4)))
    (sRet (eVar 3))))
def g_times_less : Fn := mkFn 6 3 b_times_less
theorem e_times_less (x0 : D) (x1 : D) (x2 : D) : g_times_less [.a x0, .a x1, .a x2] = fin 6 (b_times_less [.val x0, .val x1, .val x2, .un, .un, .un]) := mk_fin ⟨rfl, by decide⟩
/- slots of value_of: 0 p, 1 curve, 2 x, 3 total, 4 number -/
def b_value_of : M Ctl :=
  (sSeq (sSet 3 (eC (.int 0)))
    (sSeq (sFor (iRevd (eVar 1)) (gName 4) (sSet 3 (eOp oMod (eOp oAdd (eOp oMul (eVar 3) (eVar 2)) (eVar 4)) (eVar 0))))
    (sRet (eVar 3))))
def g_value_of : Fn := mkFn 5 3 b_value_of
theorem e_value_of (x0 : D) (x1 : D) (x2 : D) : g_value_of [.a x0, .a x1, .a x2] = fin 5 (b_value_of [.val x0, .val x1, .val x2, .un, .un]) := mk_fin ⟨rfl, by decide⟩
/- slots of curve_through: 0 p, 1 values, 2 curve, 3 product, 4 x, 5 value, 6 lack, 7 place, 8 number, 9 _ -/
def b_curve_through : M Ctl :=
  (sSeq (sSet 2 (eComp (iSeq (eVar 1)) (gName 9) tYes (eC (.int 0)) [9]))
    (sSeq (sSet 3 (eLst (aConsF (eC (.int 1)) aNil)))
    (sSeq (sFor (iEnum (eVar 1)) (gTup [4, 5]) (sSeq (sSet 6 (eOp oMul (eOp oSub (eVar 5) (eCallV g_value_of (aConsF (eVar 0) (aCons (eVar 2) (aConsF (eVar 4) aNil))))) (eCall g_inverse_of [] (aConsF (eVar 0) (aConsF (eCallV g_value_of (aConsF (eVar 0) (aCons (eVar 3) (aConsF (eVar 4) aNil)))) aNil)))))
    (sSeq (sFor (iEnum (eVar 3)) (gTup [7, 8]) (sPut (eOp oMod (eOp oAdd (eOp oIx (eVar 2) (eVar 7)) (eOp oMul (eVar 6) (eVar 8))) (eVar 0)) (eVar 2) (eVar 7)))
    (sSet 3 (eCallV g_times_less (aConsF (eVar 0) (aCons (eVar 3) (aConsF (eVar 4) aNil))))))))
    (sRet (eB bTuple (aCons (eVar 2) aNil))))))
def g_curve_through : Fn := mkFn 10 2 b_curve_through
theorem e_curve_through (x0 : D) (x1 : D) : g_curve_through [.a x0, .a x1] = fin 10 (b_curve_through [.val x0, .val x1, .un, .un, .un, .un, .un, .un, .un, .un]) := mk_fin ⟨rfl, by decide⟩
/- slots of places_apart: 0 p, 1 curve, 2 f, 3 x -/
def b_places_apart : M Ctl :=
  (sRet (eB bTuple (aCons (eComp (iRng1 (eVar 0)) (gName 3) (tBl (eOp oNe (eCall g_value_of [] (aConsF (eVar 0) (aConsF (eVar 1) (aConsF (eVar 3) aNil)))) (eOp oIx (eVar 2) (eVar 3)))) (eVar 3) [3]) aNil)))
def g_places_apart : Fn := mkFn 4 3 b_places_apart
theorem e_places_apart (x0 : D) (x1 : D) (x2 : D) : g_places_apart [.a x0, .a x1, .a x2] = fin 4 (b_places_apart [.val x0, .val x1, .val x2, .un]) := mk_fin ⟨rfl, by decide⟩
/- slots of close_curve: 0 p, 1 d, 2 f, 3 values, 4 x, 5 votes, 6 curve, 7 value -/
def b_close_curve : M Ctl :=
  (sSeq (sDrop (eCall g_check_degree [] (aConsF (eVar 0) (aConsF (eVar 1) (aConsF (eVar 2) aNil)))))
    (sSeq (sSet 3 (eLst aNil))
    (sSeq (sFor (iRng1 (eOp oAdd (eVar 1) (eC (.int 1)))) (gName 4) (sSeq (sSet 5 (eCall g_step_votes [] (aConsF (eVar 0) (aConsF (eVar 1) (aConsF (eVar 2) (aConsF (eVar 4) aNil))))))
    (sApp (eVar 3) (eOp oIx (eComp (iRng1 (eVar 0)) (gName 7) (tBl (eOp oEq (eOp oIx (eVar 5) (eVar 7)) (eB bMax (aCons (eVar 5) aNil)))) (eVar 7) [7]) (eC (.int 0))))))
    (sSeq (sSet 6 (eCallV g_curve_through (aConsF (eVar 0) (aCons (eVar 3) aNil))))
    (sRet (eIf (tBl (eOp oLt (eOp oMul (eOp oMul (eC (.int 2)) (eOp oAdd (eVar 1) (eC (.int 1)))) (eB bLen (aCons (eCall g_places_apart [] (aConsF (eVar 0) (aConsF (eVar 6) (aConsF (eVar 2) aNil)))) aNil))) (eVar 0))) (eVar 6) (eC .non)))))))
def g_close_curve : Fn := mkFn 8 3 b_close_curve
theorem e_close_curve (x0 : D) (x1 : D) (x2 : D) : g_close_curve [.a x0, .a x1, .a x2] = fin 8 (b_close_curve [.val x0, .val x1, .val x2, .un, .un, .un, .un, .un]) := mk_fin ⟨rfl, by decide⟩
/- slots of is_curve: 0 p, 1 value -/
def b_is_curve : M Ctl :=
  (sRet (eAnd (eB bIsi (aCons (eVar 1) (aCons (eC (.ty "tuple")) aNil))) (eAnd (eChain oLe oLe (eC (.int 1)) (eB bLen (aCons (eVar 1) aNil)) (eC (.int (5)))) (eCall g_row_below [] (aConsF (eVar 1) (aConsF (eB bLen (aCons (eVar 1) aNil)) (aConsF (eVar 0) aNil)))))))
def g_is_curve : Fn := mkFn 2 2 b_is_curve
theorem e_is_curve (x0 : D) (x1 : D) : g_is_curve [.a x0, .a x1] = fin 2 (b_is_curve [.val x0, .val x1]) := mk_fin ⟨rfl, by decide⟩
/- slots of value_at: 0 p, 1 curve, 2 x -/
def b_value_at : M Ctl :=
  (sSeq (sDrop (eCall g_check_prime [] (aConsF (eVar 0) aNil)))
    (sSeq (sIf (tNot (tTru (eCall g_is_curve [] (aConsF (eVar 0) (aConsF (eVar 1) aNil))))) (sRaise "InvalidMap" ["value"] (aConsF (eVar 1) aNil)) sNext)
    (sSeq (sIf (tNot (tTru (eCall g_is_below [] (aConsF (eVar 2) (aConsF (eVar 0) aNil))))) (sRaise "InvalidNumber" ["value"] (aConsF (eVar 2) aNil)) sNext)
    (sRet (eCall g_value_of [] (aConsF (eVar 0) (aConsF (eVar 1) (aConsF (eVar 2) aNil))))))))
def g_value_at : Fn := mkFn 3 3 b_value_at
theorem e_value_at (x0 : D) (x1 : D) (x2 : D) : g_value_at [.a x0, .a x1, .a x2] = fin 3 (b_value_at [.val x0, .val x1, .val x2]) := mk_fin ⟨rfl, by decide⟩
/- slots of wrong_on: 0 p, 1 curve, 2 f -/
def b_wrong_on : M Ctl :=
  (sSeq (sDrop (eCall g_check_prime [] (aConsF (eVar 0) aNil)))
    (sSeq (sIf (tNot (tTru (eCall g_is_curve [] (aConsF (eVar 0) (aConsF (eVar 1) aNil))))) (sRaise "InvalidMap" ["value"] (aConsF (eVar 1) aNil)) sNext)
    (sSeq (sIf (tNot (tTru (eCall g_row_below [] (aConsF (eVar 2) (aConsF (eVar 0) (aConsF (eVar 0) aNil)))))) (sRaise "InvalidMap" ["value"] (aConsF (eVar 2) aNil)) sNext)
    (sRet (eCall g_places_apart [] (aConsF (eVar 0) (aConsF (eVar 1) (aConsF (eVar 2) aNil))))))))
def g_wrong_on : Fn := mkFn 3 3 b_wrong_on
theorem e_wrong_on (x0 : D) (x1 : D) (x2 : D) : g_wrong_on [.a x0, .a x1, .a x2] = fin 3 (b_wrong_on [.val x0, .val x1, .val x2]) := mk_fin ⟨rfl, by decide⟩
/- slots of _law_draws: 0 script, 1 many, 2 rests, 3 draws, 4 k, 5 cell, 6 at, 7 mixed -/
def b__law_draws : M Ctl :=
  (sSeq (sSet 2 (eComp (iSeq (eVar 0)) (gName 5) tYes (eB bAbs (aCons (eB bInt (aCons (eVar 5) aNil)) aNil)) [5]))
    (sSeq (sSet 3 (eLst aNil))
    (sSeq (sFor (iRng1 (eVar 1)) (gName 4) (sSeq (sSet 5 (eVar 4))
    (sSeq (sIf (tBl (eOp oGt (eB bLen (aCons (eVar 0) aNil)) (eC (.int 0)))) (sSeq (sSet 6 (eOp oMod (eVar 4) (eB bLen (aCons (eVar 0) aNil))))
    (sSeq (sSet 5 (eB bInt (aCons (eOp oIx (eVar 0) (eVar 6)) aNil)))
    (sIf (tAnd (tBl (eOp oGe (eVar 5) (eOp oPow (eC (.int 10)) (eC (.int 18))))) (tBl (eOp oGt (eOp oIx (eVar 2) (eVar 6)) (eC (.int 0))))) (sSeq (sApp (eVar 3) (eOp oMod (eB bInt (aCons (eOp oIx (eVar 2) (eVar 6)) aNil)) (eC (.int 1000003))))
    (sSeq (sPut (eOp oDiv (eB bInt (aCons (eOp oIx (eVar 2) (eVar 6)) aNil)) (eC (.int 1000003))) (eVar 2) (eVar 6))
    sCont)) sNext))) sNext)
    (sSeq (sSet 7 (eOp oMod (eB bInt (aCons (eOp oAdd (eOp oAdd (eOp oMul (eVar 5) (eC (.int 48271))) (eOp oMul (eVar 4) (eC (.int 69621)))) (eC (.int 11))) aNil)) (eC (.int 2147483647))))
    (sSeq (sSet 7 (eOp oMod (eB bInt (aCons (eOp oAdd (eOp oDiv (eOp oMul (eVar 7) (eVar 7)) (eC (.int 4096))) (eVar 7)) aNil)) (eC (.int 2147483629))))
    (sApp (eVar 3) (eOp oMod (eB bInt (aCons (eOp oAdd (eOp oDiv (eOp oMul (eVar 7) (eVar 7)) (eC (.int 4096))) (eOp oMul (eVar 4) (eC (.int 7919)))) aNil)) (eC (.int 2147483629)))))))))
    (sRet (eVar 3)))))
def g__law_draws : Fn := mkFn 8 2 b__law_draws
theorem e__law_draws (x0 : D) (x1 : D) : g__law_draws [.a x0, .a x1] = fin 8 (b__law_draws [.val x0, .val x1, .un, .un, .un, .un, .un, .un]) := mk_fin ⟨rfl, by decide⟩
/- slots of _law_take: 0 hand, 1 many, 2 at, 3 draws -/
def b__law_take : M Ctl :=
  (sSeq (sSet 2 (eOp oIx (eVar 0) (eC (.int 1))))
    (sSeq (sPut (eOp oAdd (eVar 2) (eC (.int 1))) (eVar 0) (eC (.int 1)))
    (sSeq (sSet 3 (eOp oIx (eVar 0) (eC (.int 0))))
    (sSeq (sIf (tBl (eOp oGe (eVar 2) (eB bLen (aCons (eVar 3) aNil)))) (sRet (eC (.int 0))) sNext)
    (sRet (eOp oMod (eOp oDiv (eB bInt (aCons (eOp oIx (eVar 3) (eVar 2)) aNil)) (eC (.int 7))) (eVar 1)))))))
def g__law_take : Fn := mkFn 4 2 b__law_take
theorem e__law_take (x0 : Cell) (x1 : D) : g__law_take [.l x0, .a x1] = fin 4 (b__law_take [.al 4, .val x1, .un, .un, .lent x0]) := mk_fin ⟨rfl, by decide⟩
/- slots of _law_prime: 0 hand, 1 most, 2 primes, 3 p -/
def b__law_prime : M Ctl :=
  (sSeq (sSet 2 (eLst (aConsF (eC (.int 2)) (aConsF (eC (.int 3)) (aConsF (eC (.int 5)) (aConsF (eC (.int 7)) (aConsF (eC (.int 11)) (aConsF (eC (.int 13)) (aConsF (eC (.int 17)) (aConsF (eC (.int 19)) (aConsF (eC (.int 23)) (aConsF (eC (.int 29)) (aConsF (eC (.int 31)) (aConsF (eC (.int 37)) (aConsF (eC (.int 41)) (aConsF (eC (.int 43)) (aConsF (eC (.int 47)) (aConsF (eC (.int 53)) (aConsF (eC (.int 59)) (aConsF (eC (.int 61)) (aConsF (eC (.int 67)) (aConsF (eC (.int 71)) (aConsF (eC (.int 73)) (aConsF (eC (.int 79)) (aConsF (eC (.int 83)) (aConsF (eC (.int 89)) (aConsF (eC (.int 97)) (aConsF (eC (.int 101)) aNil))))))))))))))))))))))))))))
    (sSeq (sSet 2 (eComp (iSeq (eVar 2)) (gName 3) (tBl (eOp oLe (eVar 3) (eVar 1))) (eVar 3) [3]))
    (sRet (eOp oIx (eVar 2) (eCall g__law_take [true, false] (aCons (eVar 0) (aConsF (eB bLen (aCons (eVar 2) aNil)) aNil)))))))
def g__law_prime : Fn := mkFn 4 2 b__law_prime
theorem e__law_prime (x0 : Cell) (x1 : D) : g__law_prime [.l x0, .a x1] = fin 4 (b__law_prime [.al 4, .val x1, .un, .un, .lent x0]) := mk_fin ⟨rfl, by decide⟩
/- slots of _law_value: 0 p, 1 curve, 2 x, 3 total, 4 c -/
def b__law_value : M Ctl :=
  (sSeq (sSet 3 (eC (.int 0)))
    (sSeq (sFor (iSeq (eUn oRev (eVar 1))) (gName 4) (sSet 3 (eOp oMod (eB bInt (aCons (eOp oAdd (eOp oMul (eVar 3) (eVar 2)) (eVar 4)) aNil)) (eVar 0))))
    (sRet (eVar 3))))
def g__law_value : Fn := mkFn 5 3 b__law_value
theorem e__law_value (x0 : D) (x1 : D) (x2 : D) : g__law_value [.a x0, .a x1, .a x2] = fin 5 (b__law_value [.val x0, .val x1, .val x2, .un, .un]) := mk_fin ⟨rfl, by decide⟩
/- slots of _law_curve: 0 hand, 1 p, 2 d, 3 k -/
def b__law_curve : M Ctl :=
  (sRet (eB bTuple (aCons (eComp (iRng1 (eOp oAdd (eVar 2) (eC (.int 1)))) (gName 3) tYes (eCall g__law_take [true, false] (aCons (eVar 0) (aConsF (eVar 1) aNil))) [3]) aNil)))
def g__law_curve : Fn := mkFn 4 3 b__law_curve
theorem e__law_curve (x0 : Cell) (x1 : D) (x2 : D) : g__law_curve [.l x0, .a x1, .a x2] = fin 4 (b__law_curve [.al 4, .val x1, .val x2, .un, .lent x0]) := mk_fin ⟨rfl, by decide⟩
/- slots of _law_turned: 0 hand, 1 p, 2 f, 3 many, 4 k -/
def b__law_turned : M Ctl :=
  (sSeq (sSet 2 (eB bList (aCons (eVar 2) aNil)))
    (sSeq (sFor (iRng1 (eVar 3)) (gName 4) (sPut (eCall g__law_take [true, false] (aCons (eVar 0) (aConsF (eVar 1) aNil))) (eVar 2) (eCall g__law_take [true, false] (aCons (eVar 0) (aConsF (eVar 1) aNil)))))
    (sRet (eB bTuple (aCons (eVar 2) aNil)))))
def g__law_turned : Fn := mkFn 5 4 b__law_turned
theorem e__law_turned (x0 : Cell) (x1 : D) (x2 : D) (x3 : D) : g__law_turned [.l x0, .a x1, .a x2, .a x3] = fin 5 (b__law_turned [.al 5, .val x1, .val x2, .val x3, .un, .lent x0]) := mk_fin ⟨rfl, by decide⟩
/- slots of _law_steps: 0 d, 1 row, 2 k, 3 x, 4 y -/
def b__law_steps : M Ctl :=
  (sSeq (sSet 1 (eLst (aConsF (eC (.int 1)) aNil)))
    (sSeq (sFor (iRng1 (eOp oAdd (eVar 0) (eC (.int 1)))) (gName 2) (sSet 1 (eComp (iZip (aConsF (eOp oAdd (eVar 1) (eLst (aConsF (eC (.int 0)) aNil))) (aConsF (eOp oAdd (eLst (aConsF (eC (.int 0)) aNil)) (eVar 1)) aNil))) (gTup [3, 4]) tYes (eOp oSub (eVar 3) (eVar 4)) [3, 4])))
    (sRet (eVar 1))))
def g__law_steps : Fn := mkFn 5 1 b__law_steps
theorem e__law_steps (x0 : D) : g__law_steps [.a x0] = fin 5 (b__law_steps [.val x0, .un, .un, .un, .un]) := mk_fin ⟨rfl, by decide⟩
/- slots of _law_broken: 0 p, 1 d, 2 f, 3 total, 4 row, 5 x, 6 h, 7 one, 8 i -/
def b__law_broken : M Ctl :=
  (sSeq (sSet 3 (eC (.int 0)))
    (sSeq (sSet 4 (eCall g__law_steps [] (aConsF (eVar 1) aNil)))
    (sSeq (sFor (iRng1 (eVar 0)) (gName 5) (sFor (iRng1 (eVar 0)) (gName 6) (sSeq (sSet 7 (eB bSum (aCons (eComp (iRng1 (eOp oAdd (eVar 1) (eC (.int 2)))) (gName 8) tYes (eOp oMul (eOp oIx (eVar 4) (eVar 8)) (eOp oIx (eVar 2) (eOp oMod (eB bInt (aCons (eOp oAdd (eVar 5) (eOp oMul (eVar 8) (eVar 6))) aNil)) (eVar 0)))) [8]) aNil)))
    (sIf (tBl (eOp oGt (eOp oMod (eB bInt (aCons (eVar 7) aNil)) (eVar 0)) (eC (.int 0)))) (sSet 3 (eOp oAdd (eVar 3) (eC (.int 1)))) sNext))))
    (sRet (eVar 3)))))
def g__law_broken : Fn := mkFn 9 3 b__law_broken
theorem e__law_broken (x0 : D) (x1 : D) (x2 : D) : g__law_broken [.a x0, .a x1, .a x2] = fin 9 (b__law_broken [.val x0, .val x1, .val x2, .un, .un, .un, .un, .un, .un]) := mk_fin ⟨rfl, by decide⟩
/- slots of _law_votes: 0 p, 1 d, 2 f, 3 x, 4 row, 5 found, 6 h, 7 v, 8 i -/
def b__law_votes : M Ctl :=
  (sSeq (sSet 4 (eCall g__law_steps [] (aConsF (eVar 1) aNil)))
    (sSeq (sSet 5 (eComp (iRng1 (eVar 0)) (gName 7) tYes (eC (.int 0)) [7]))
    (sSeq (sFor (iRng1 (eVar 0)) (gName 6) (sSeq (sSet 7 (eOp oMod (eB bInt (aCons (eUn oNeg (eB bSum (aCons (eComp (iRng2 (eC (.int 1)) (eOp oAdd (eVar 1) (eC (.int 2)))) (gName 8) tYes (eOp oMul (eOp oIx (eVar 4) (eVar 8)) (eOp oIx (eVar 2) (eOp oMod (eB bInt (aCons (eOp oAdd (eVar 3) (eOp oMul (eVar 8) (eVar 6))) aNil)) (eVar 0)))) [8]) aNil))) aNil)) (eVar 0)))
    (sPut (eOp oAdd (eOp oIx (eVar 5) (eVar 7)) (eC (.int 1))) (eVar 5) (eVar 7))))
    (sRet (eVar 5)))))
def g__law_votes : Fn := mkFn 9 4 b__law_votes
theorem e__law_votes (x0 : D) (x1 : D) (x2 : D) (x3 : D) : g__law_votes [.a x0, .a x1, .a x2, .a x3] = fin 9 (b__law_votes [.val x0, .val x1, .val x2, .val x3, .un, .un, .un, .un, .un]) := mk_fin ⟨rfl, by decide⟩
/- slots of _law_near: 0 p, 1 d, 2 f, 3 curves, 4 k, 5 longer, 6 one, 7 found, 8 curve, 9 w, 10 c, 11 x -/
def b__law_near : M Ctl :=
  (sSeq (sSet 3 (eLst (aConsF (eTup aNil) aNil)))
    (sSeq (sFor (iRng1 (eOp oAdd (eVar 1) (eC (.int 1)))) (gName 4) (sSeq (sSet 5 (eLst aNil))
    (sSeq (sFor (iSeq (eVar 3)) (gName 6) (sSet 5 (eOp oAdd (eVar 5) (eComp (iRng1 (eVar 0)) (gName 10) tYes (eOp oAdd (eVar 6) (eTup (aConsF (eVar 10) aNil))) [10]))))
    (sSet 3 (eVar 5)))))
    (sSeq (sSet 7 (eLst aNil))
    (sSeq (sFor (iSeq (eVar 3)) (gName 8) (sSeq (sSet 9 (eB bLen (aCons (eComp (iRng1 (eVar 0)) (gName 11) (tBl (eOp oNe (eCall g__law_value [] (aConsF (eVar 0) (aConsF (eVar 8) (aConsF (eVar 11) aNil)))) (eOp oIx (eVar 2) (eVar 11)))) (eVar 11) [11]) aNil)))
    (sIf (tBl (eOp oLt (eOp oMul (eOp oMul (eC (.int 2)) (eOp oAdd (eVar 1) (eC (.int 1)))) (eVar 9)) (eVar 0))) (sApp (eVar 7) (eVar 8)) sNext)))
    (sRet (eVar 7))))))
def g__law_near : Fn := mkFn 12 3 b__law_near
theorem e__law_near (x0 : D) (x1 : D) (x2 : D) : g__law_near [.a x0, .a x1, .a x2] = fin 12 (b__law_near [.val x0, .val x1, .val x2, .un, .un, .un, .un, .un, .un, .un, .un, .un]) := mk_fin ⟨rfl, by decide⟩
/- slots of _law_is_small: 0 hand, 1 p, 2 d, 3 f, 4 curve, 5 found, 6 due, 7 x -/
def b__law_is_small : M Ctl :=
  (sSeq (sSet 1 (eCall g__law_prime [true, false] (aCons (eVar 0) (aConsF (eC (.int 13)) aNil))))
    (sSeq (sSet 2 (eCall g__law_take [true, false] (aCons (eVar 0) (aConsF (eB bMin (aCons (eOp oIx (eLst (aConsF (eC (.int 2)) (aConsF (eC (.int 3)) aNil))) (eB bInt (aCons (eOp oLt (eVar 1) (eC (.int 8))) aNil))) (aCons (eOp oSub (eVar 1) (eC (.int 1))) aNil))) aNil))))
    (sSeq (sSet 3 (eB bTuple (aCons (eComp (iRng1 (eVar 1)) (gName 7) tYes (eCall g__law_take [true, false] (aCons (eVar 0) (aConsF (eVar 1) aNil))) [7]) aNil)))
    (sSeq (sIf (tBl (eOp oEq (eCall g__law_take [true, false] (aCons (eVar 0) (aConsF (eC (.int 2)) aNil))) (eC (.int 0)))) (sSeq (sSet 4 (eCall g__law_curve [true, false, false] (aCons (eVar 0) (aConsF (eVar 1) (aConsF (eVar 2) aNil)))))
    (sSeq (sSet 3 (eB bTuple (aCons (eComp (iRng1 (eVar 1)) (gName 7) tYes (eCall g__law_value [] (aConsF (eVar 1) (aConsF (eVar 4) (aConsF (eVar 7) aNil)))) [7]) aNil)))
    (sSet 3 (eCall g__law_turned [true, false, false, false] (aCons (eVar 0) (aConsF (eVar 1) (aConsF (eVar 3) (aConsF (eCall g__law_take [true, false] (aCons (eVar 0) (aConsF (eOp oIx (eLst (aConsF (eC (.int 3)) (aConsF (eC (.int 7)) aNil))) (eB bInt (aCons (eOp oGt (eVar 1) (eC (.int 7))) aNil))) aNil))) aNil)))))))) sNext)
    (sSeq (sIf (tBl (eOp oNe (eB bRepr (aCons (eCall g_is_near [] (aConsF (eVar 1) (aConsF (eVar 2) (aConsF (eVar 3) aNil)))) aNil)) (eB bRepr (aCons (eOp oLt (eOp oMul (eOp oMul (eOp oMul (eCall g__law_broken [] (aConsF (eVar 1) (aConsF (eVar 2) (aConsF (eVar 3) aNil)))) (eOp oAdd (eVar 2) (eC (.int 1)))) (eOp oAdd (eVar 2) (eC (.int 3)))) (eOp oAdd (eVar 2) (eC (.int 3)))) (eOp oMul (eOp oMul (eOp oAdd (eVar 2) (eC (.int 2))) (eVar 1)) (eVar 1))) aNil)))) (sRet (eC (.bl false))) sNext)
    (sSeq (sSet 5 (eCall g__law_near [] (aConsF (eVar 1) (aConsF (eVar 2) (aConsF (eVar 3) aNil)))))
    (sSeq (sSet 6 (eC .non))
    (sSeq (sIf (tBl (eOp oGt (eB bLen (aCons (eVar 5) aNil)) (eC (.int 0)))) (sSet 6 (eOp oIx (eVar 5) (eC (.int 0)))) sNext)
    (sRet (eAnd (eOp oLt (eB bLen (aCons (eVar 5) aNil)) (eC (.int 2))) (eOp oEq (eB bRepr (aCons (eCall g_close_curve [] (aConsF (eVar 1) (aConsF (eVar 2) (aConsF (eVar 3) aNil)))) aNil)) (eB bRepr (aCons (eVar 6) aNil)))))))))))))
def g__law_is_small : Fn := mkFn 8 1 b__law_is_small
theorem e__law_is_small (x0 : Cell) : g__law_is_small [.l x0] = fin 8 (b__law_is_small [.al 8, .un, .un, .un, .un, .un, .un, .un, .lent x0]) := mk_fin ⟨rfl, by decide⟩
/- slots of law: 0 script, 1 hand, 2 p, 3 d, 4 curve, 5 clean, 6 most, 7 f, 8 places, 9 w, 10 near, 11 other, 12 x, 13 k, 14 value, 15 votes -/
def b_law : M Ctl :=
  (sSeq (sSet 1 (eLst (aConsF (eCall g__law_draws [] (aConsF (eVar 0) (aConsF (eC (.int 260)) aNil))) (aConsF (eC (.int 0)) aNil))))
    (sSeq (sSet 2 (eCall g__law_prime [true, false] (aCons (eVar 1) (aConsF (eOp oIx (eLst (aConsF (eC (.int 13)) (aConsF (eC (.int 37)) (aConsF (eC (.int 101)) aNil)))) (eCall g__law_take [true, false] (aCons (eVar 1) (aConsF (eC (.int 3)) aNil)))) aNil))))
    (sSeq (sSet 3 (eCall g__law_take [true, false] (aCons (eVar 1) (aConsF (eB bMin (aCons (eC (.int 5)) (aCons (eOp oSub (eVar 2) (eC (.int 1))) aNil))) aNil))))
    (sSeq (sSet 4 (eCall g__law_curve [true, false, false] (aCons (eVar 1) (aConsF (eVar 2) (aConsF (eVar 3) aNil)))))
    (sSeq (sSet 5 (eB bTuple (aCons (eComp (iRng1 (eVar 2)) (gName 12) tYes (eCall g__law_value [] (aConsF (eVar 2) (aConsF (eVar 4) (aConsF (eVar 12) aNil)))) [12]) aNil)))
    (sSeq (sSet 6 (eOp oDiv (eOp oSub (eVar 2) (eC (.int 1))) (eOp oMul (eC (.int 2)) (eOp oAdd (eVar 3) (eC (.int 1))))))
    (sSeq (sSet 7 (eCall g__law_turned [true, false, false, false] (aCons (eVar 1) (aConsF (eVar 2) (aConsF (eVar 5) (aConsF (eOp oMul (eOp oIx (eLst (aConsF (eC (.int 0)) (aConsF (eC (.int 1)) (aConsF (eVar 6) (aConsF (eCall g__law_take [true, false] (aCons (eVar 1) (aConsF (eOp oAdd (eVar 6) (eC (.int 1))) aNil))) aNil))))) (eCall g__law_take [true, false] (aCons (eVar 1) (aConsF (eC (.int 4)) aNil)))) (eB bInt (aCons (eOp oGt (eVar 6) (eC (.int 0))) aNil))) aNil))))))
    (sSeq (sSet 8 (eB bTuple (aCons (eComp (iRng1 (eVar 2)) (gName 12) (tBl (eOp oNe (eOp oIx (eVar 7) (eVar 12)) (eOp oIx (eVar 5) (eVar 12)))) (eVar 12) [12]) aNil)))
    (sSeq (sSet 9 (eB bLen (aCons (eVar 8) aNil)))
    (sSeq (sIf (tOr (tBl (eOp oNe (eB bRepr (aCons (eCall g_close_curve [] (aConsF (eVar 2) (aConsF (eVar 3) (aConsF (eVar 7) aNil)))) aNil)) (eB bRepr (aCons (eVar 4) aNil)))) (tBl (eOp oNe (eB bRepr (aCons (eCall g_wrong_on [] (aConsF (eVar 2) (aConsF (eVar 4) (aConsF (eVar 7) aNil)))) aNil)) (eB bRepr (aCons (eVar 8) aNil))))) (sRet (eC (.bl false))) sNext)
    (sSeq (sSet 10 (eC (.bl false)))
    (sSeq (sIf (tBl (eOp oLt (eVar 2) (eC (.int 38)))) (sSeq (sSet 10 (eCall g_is_near [] (aConsF (eVar 2) (aConsF (eVar 3) (aConsF (eVar 7) aNil)))))
    (sSeq (sIf (tBl (eOp oNe (eB bRepr (aCons (eVar 10) aNil)) (eB bRepr (aCons (eOp oLt (eOp oMul (eOp oMul (eOp oMul (eCall g__law_broken [] (aConsF (eVar 2) (aConsF (eVar 3) (aConsF (eVar 7) aNil)))) (eOp oAdd (eVar 3) (eC (.int 1)))) (eOp oAdd (eVar 3) (eC (.int 3)))) (eOp oAdd (eVar 3) (eC (.int 3)))) (eOp oMul (eOp oMul (eOp oAdd (eVar 3) (eC (.int 2))) (eVar 2)) (eVar 2))) aNil)))) (sRet (eC (.bl false))) sNext)
    (sIf (tAnd (tTru (eVar 10)) (tBl (eOp oGe (eOp oMul (eOp oMul (eVar 9) (eOp oAdd (eVar 3) (eC (.int 1)))) (eOp oAdd (eVar 3) (eC (.int 3)))) (eVar 2)))) (sRet (eC (.bl false))) sNext))) sNext)
    (sSeq (sSet 11 (eCall g__law_curve [true, false, false] (aCons (eVar 1) (aConsF (eVar 2) (aConsF (eCall g__law_take [true, false] (aCons (eVar 1) (aConsF (eC (.int 5)) aNil))) aNil)))))
    (sSeq (sSet 12 (eCall g__law_take [true, false] (aCons (eVar 1) (aConsF (eVar 2) aNil))))
    (sSeq (sIf (tBl (eOp oNe (eB bRepr (aCons (eCall g_value_at [] (aKw 0 3 [2, 1, 0] aNil (aConsF (eVar 12) (aConsF (eVar 11) (aConsF (eVar 2) aNil))))) aNil)) (eB bRepr (aCons (eCall g__law_value [] (aConsF (eVar 2) (aConsF (eVar 11) (aConsF (eVar 12) aNil)))) aNil)))) (sRet (eC (.bl false))) sNext)
    (sSeq (sSet 8 (eB bTuple (aCons (eComp (iRng1 (eVar 2)) (gName 12) (tBl (eOp oNe (eOp oIx (eVar 7) (eVar 12)) (eCall g__law_value [] (aConsF (eVar 2) (aConsF (eVar 11) (aConsF (eVar 12) aNil)))))) (eVar 12) [12]) aNil)))
    (sSeq (sIf (tBl (eOp oNe (eB bRepr (aCons (eCall g_wrong_on [] (aKw 0 3 [2, 1, 0] aNil (aConsF (eVar 7) (aConsF (eVar 11) (aConsF (eVar 2) aNil))))) aNil)) (eB bRepr (aCons (eVar 8) aNil)))) (sRet (eC (.bl false))) sNext)
    (sSeq (sFor (iRng1 (eC (.int 3))) (gName 13) (sSeq (sSet 12 (eCall g__law_take [true, false] (aCons (eVar 1) (aConsF (eVar 2) aNil))))
    (sSeq (sSet 14 (eCall g_value_at [] (aConsF (eVar 2) (aConsF (eVar 4) (aConsF (eVar 12) aNil)))))
    (sSeq (sSet 15 (eCall g__law_votes [] (aConsF (eVar 2) (aConsF (eVar 3) (aConsF (eVar 7) (aConsF (eVar 12) aNil))))))
    (sSeq (sIf (tOr (tBl (eOp oNe (eB bRepr (aCons (eVar 14) aNil)) (eB bRepr (aCons (eOp oIx (eVar 5) (eVar 12)) aNil)))) (tOr (tBl (eOp oLe (eOp oMul (eC (.int 2)) (eOp oIx (eVar 15) (eVar 14))) (eVar 2))) (tBl (eOp oGt (eOp oSub (eVar 2) (eOp oIx (eVar 15) (eVar 14))) (eOp oMul (eOp oAdd (eVar 3) (eC (.int 1))) (eVar 9)))))) (sRet (eC (.bl false))) sNext)
    (sIf (tAnd (tTru (eVar 10)) (tBl (eOp oLe (eOp oMul (eOp oAdd (eVar 3) (eC (.int 3))) (eOp oIx (eVar 15) (eVar 14))) (eOp oMul (eOp oAdd (eVar 3) (eC (.int 2))) (eVar 2))))) (sRet (eC (.bl false))) sNext))))))
    (sRet (eCall g__law_is_small [true] (aCons (eVar 1) aNil)))))))))))))))))))))
def g_law : Fn := mkFn 16 1 b_law
theorem e_law (x0 : D) : g_law [.a x0] = fin 16 (b_law [.val x0, .un, .un, .un, .un, .un, .un, .un, .un, .un, .un, .un, .un, .un, .un, .un]) := mk_fin ⟨rfl, by decide⟩
end K55
end Py
end
section
set_option linter.all false
set_option maxRecDepth 100000
namespace Py
namespace K55
/-- the hand: the draws, the next place -/
abbrev hand (ds : List Int) (at' : Nat) : Cell := .lst [.lst (ds.map .int), .int at']
theorem take_ok (ds : List Int) (a : Nat) (m : Int) (hm : 0 < m) : ∃ v : Int, 0 ≤ v ∧ v < m ∧ g__law_take [.l (hand ds a), .a (.int m)] = .ok (.d (.int v)) [hand ds (a + 1)] := by
  rw [e__law_take]
  unfold b__law_take
  by_cases h : a < ds.length
  · refine ⟨ds[a] / 7 % m, Int.emod_nonneg _ (by omega), Int.emod_lt_of_pos _ hm, ?_⟩
    have h2 : ¬ (ds.length : Int) ≤ a := by omega
    simp [hand, ixn_nat (n := ds.length) h, h, ixn, h2, hm]
  · refine ⟨0, Int.le_refl _, hm, ?_⟩
    have h2 : (ds.length : Int) ≤ a := by omega
    simp [hand, ixn, h2]
end K55
end Py
end
section
set_option linter.all false
set_option maxRecDepth 100000
set_option maxHeartbeats 0
namespace Py
namespace K55
theorem tail_ok (ns : List Int) (k : Nat) (i : Int) (hk3 : k < 260) (rs ds : List Int) (c : Int) (s6 s7 : Sl) (h1 : rs.length = ns.length) (h2 : ds.length = k) : Ok ((sSeq (sSet 7 (eOp oMod (eB bInt (aCons (eOp oAdd (eOp oAdd (eOp oMul (eVar 5) (eC (.int 48271))) (eOp oMul (eVar 4) (eC (.int 69621)))) (eC (.int 11))) aNil)) (eC (.int 2147483647))))
    (sSeq (sSet 7 (eOp oMod (eB bInt (aCons (eOp oAdd (eOp oDiv (eOp oMul (eVar 7) (eVar 7)) (eC (.int 4096))) (eVar 7)) aNil)) (eC (.int 2147483629))))
    (sApp (eVar 3) (eOp oMod (eB bInt (aCons (eOp oAdd (eOp oDiv (eOp oMul (eVar 7) (eVar 7)) (eC (.int 4096))) (eOp oMul (eVar 4) (eC (.int 7919)))) aNil)) (eC (.int 2147483629)))))) [.val (.lst (ns.map .int)), .val (.int 260), .own (.lst (rs.map .int)), .own (.lst (ds.map .int)), .val (.int i), .val (.int c), s6, s7])
        fun c e2 => (c = .next ∨ c = .cont) ∧ ∃ (rs ds : List Int) (s4 s5 s6 s7 : Sl), e2 = [.val (.lst (ns.map .int)), .val (.int 260), .own (.lst (rs.map .int)), .own (.lst (ds.map .int)), s4, s5, s6, s7] ∧ rs.length = ns.length ∧ ds.length = k + 1 := by
      have n1 : small64 48271 = true := by decide
      have n2 : small64 69621 = true := by decide
      have n3 : small64 7919 = true := by decide
      have fit : ∀ z : Int, (small64 (z % 2147483647)) = true := fun z => small_emod _ _ (by decide) (by decide)
      have fit2 : ∀ z : Int, (small64 (z % 2147483629)) = true := fun z => small_emod _ _ (by decide) (by decide)
      have hl : ds.length < lim := by rw [h2]; exact Nat.lt_trans hk3 (by decide)
      refine ok_step (by simp [n1, n2]; rfl) ?_
      refine ok_step (by simp [fit]; rfl) ?_
      refine .of (by simp [fit2, hl, n3]; rfl) ⟨.inl rfl, _, ds ++ [_], _, _, _, _, by rw [← map_app_int], h1, by simp [h2]⟩
theorem draws_ok (ns : List Int) (hn : ns.length ≤ 63) : ∃ ds : List Int, g__law_draws [.a (.lst (ns.map .int)), .a (.int 260)] = .ok (.fr (.lst (ds.map .int))) [] := by
  suffices h : ∃ r cs, g__law_draws [.a (.lst (ns.map .int)), .a (.int 260)] = .ok r cs ∧ ∃ ds : List Int, r = .fr (.lst (ds.map .int)) ∧ cs = [] by
    obtain ⟨r, cs, h, ds, rfl, rfl⟩ := h
    exact ⟨ds, h⟩
  rw [e__law_draws]
  refine fin_ok ?_
  unfold b__law_draws
  refine ok_step (e' := [.val (.lst (ns.map .int)), .val (.int 260), .own (.lst ((ns.map fun (i : Int) => if i < 0 then -i else i).map .int)), .un, .un, .un, .un, .un]) ?_ ?_
  · rw [sSet_u, bnd_ok (comp_map (ds := ns.map .int) (e1 := [.val (.lst (ns.map .int)), .val (.int 260), .un, .un, .un, .un, .un, .un]) (fun d => match d with | .int i => .int (if i < 0 then -i else i) | d => d) (fun _ => true) (by simp) (by rw [List.length_map]; exact Nat.lt_of_le_of_lt hn (by decide)) ?_)]
    · rw [List.filter_eq_self.mpr (by simp), List.map_map]
      simp [Function.comp_def]
    · intro d hd
      obtain ⟨i, _, rfl⟩ := List.mem_map.mp hd
      exact ⟨_, rfl, rfl, rfl, fun _ => by simp⟩
  refine ok_step (by simp; rfl) ?_
  refine ok_seq (ok_for (fun k e => ∃ (rs ds : List Int) (s4 s5 s6 s7 : Sl), e = [.val (.lst (ns.map .int)), .val (.int 260), .own (.lst (rs.map .int)), .own (.lst (ds.map .int)), s4, s5, s6, s7] ∧ rs.length = ns.length ∧ ds.length = k)
    (ds := rngD 0 260) (by simp [big]; rfl) ?_ ?_ ?_)
  · exact ⟨ns.map fun (i : Int) => if i < 0 then -i else i, [], _, _, _, _, by rw [List.map_map]; rfl, by simp, rfl⟩
  · rintro k d e hd ⟨rs, ds, s4, s5, s6, s7, rfl, hr, hk⟩
    obtain ⟨hk3, i, hi, rfl⟩ := rngD_at hd
    have hl : ds.length < lim := by rw [hk]; exact Nat.lt_trans hk3 (by decide)
    have fit : ∀ z : Int, (small64 (z % 2147483647)) = true := fun z => small_emod _ _ (by decide) (by decide)
    have fit2 : ∀ z : Int, (small64 (z % 2147483629)) = true := fun z => small_emod _ _ (by decide) (by decide)
    have n1 : small64 48271 = true := by decide
    have n2 : small64 69621 = true := by decide
    have n3 : small64 7919 = true := by decide
    refine ⟨_, rfl, ?_⟩
    simp only [List.set_cons_succ, List.set_cons_zero]
    refine ok_step (by simp; rfl) ?_
    have tail := fun rs ds c s6 s7 h1 h2 => tail_ok ns k i hk3 rs ds c s6 s7 h1 h2
    by_cases hz : 0 < ns.length
    · obtain ⟨j, hj, hj2⟩ : ∃ j : Nat, i % ns.length = j ∧ j < ns.length := ⟨k % ns.length, by rw [hi]; simp, Nat.mod_lt _ hz⟩
      have hj3 : j < rs.length := by omega
      have i1 : ixn ns.length (j : Int) = some j := ixn_nat hj2
      have i2 : ixn rs.length (j : Int) = some j := ixn_nat hj3
      have q : okPow 10 18 = true := by decide
      refine ok_seqc ?_
      refine ok_if (x := true) (by simp [hz]; rfl) (fun _ => ?_) (fun h => nomatch h)
      refine ok_step (by simp [hz, hj]; rfl) ?_
      refine ok_step (by simp [i1, hj2]; rfl) ?_
      by_cases hb : (1000000000000000000 : Int) ≤ ns[j] ∧ 0 < rs[j]
      · refine ok_if (x := true) (by simp [i2, hj3, hb, q]; rfl) (fun _ => ?_) (fun h => nomatch h)
        refine ok_step (by simp [i2, hj3, hl]; rfl) ?_
        refine ok_step (by simp [i2, hj3]; rfl) ?_
        refine .of rfl ⟨(fun h => nomatch h), fun _ => ⟨.inr rfl, rs.set j (rs[j] / 1000003), ds ++ [rs[j] % 1000003], _, _, _, _, by rw [← map_app_int, List.map_set], by simp [hr], by simp [hk]⟩⟩
      · refine ok_if (x := false) (e' := [.val (.lst (ns.map .int)), .val (.int 260), .own (.lst (rs.map .int)), .own (.lst (ds.map .int)), .val (.int i), .val (.int ns[j]), .val (.int j), s7]) ?_ (fun h => nomatch h) (fun _ => ?_)
        · by_cases hb1 : (1000000000000000000 : Int) ≤ ns[j]
          · have hb2 : ¬ 0 < rs[j] := fun z => hb ⟨hb1, z⟩
            simp [i2, hj3, hb1, hb2, q]
          · simp [hb1, q]
        · exact Ok.of rfl (And.intro (fun _ => tail rs ds _ _ _ hr hk) (fun h => absurd rfl h))
    · refine ok_step (by simp [hz]; rfl) ?_; exact tail rs ds _ _ _ hr hk
  · rintro e' ⟨rs, ds, s4, s5, s6, s7, rfl, h3⟩
    exact ⟨rfl, .of (by simp; exact ⟨rfl, rfl⟩) ⟨_, _, _, rfl, rfl, rfl, _, rfl, rfl⟩⟩
end K55
end Py
end
section
set_option linter.all false
set_option maxRecDepth 100000
set_option maxHeartbeats 0
namespace Py
/-- a polynomial's value -/
def evalL (c : List Int) (x : Int) : Int := c.foldr (fun a t => a + x * t) 0
theorem evalL_nil (x : Int) : evalL [] x = 0 := rfl
theorem evalL_cons (a : Int) (c : List Int) (x : Int) : evalL (a :: c) x = a + x * evalL c x := rfl
theorem hor_step (c : List Int) (x p : Int) (k : Nat) (a : Int) (h : c[c.length - 1 - k]? = some a) (hk : k < c.length) : (evalL (c.drop (c.length - k)) x % p * x + a) % p = evalL (c.drop (c.length - (k + 1))) x % p := by
  obtain ⟨h1, h2⟩ := List.getElem?_eq_some_iff.mp h
  have e : c.length - (k + 1) = c.length - 1 - k := by omega
  rw [e, List.drop_eq_getElem_cons h1, h2, evalL_cons, show c.length - 1 - k + 1 = c.length - k by omega]
  rw [Int.add_comm, Int.add_emod, Int.mul_emod, Int.emod_emod, ← Int.mul_emod, ← Int.add_emod, Int.mul_comm]
theorem rngD_length (lo : Int) (n : Nat) : (rngD lo n).length = n := rngD_ln lo n
theorem lenI {p : Int} {P : Nat} (h : p = P) : p.toNat = P := by omega
namespace K55
structure Tab (p : Int) (P : Nat) (f : List Int) : Prop where
  len : f.length = P
  low : ∀ x ∈ f, 0 ≤ x
  up : ∀ x ∈ f, x < p
theorem set_tab {p : Int} {P : Nat} {f : List Int} (h : Tab p P f) (i : Nat) {v : Int} (h0 : 0 ≤ v) (h1 : v < p) : Tab p P (f.set i v) where
  len := by rw [List.length_set]; exact h.len
  low := fun x hx => by rcases List.mem_or_eq_of_mem_set hx with z | z; exact h.low x z; omega
  up := fun x hx => by rcases List.mem_or_eq_of_mem_set hx with z | z; exact h.up x z; omega
theorem tab_of {p : Int} {P : Nat} {f : List Int} (h : f.length = P) (r : ∀ x ∈ f, 0 ≤ x ∧ x < p) : Tab p P f := ⟨h, fun x hx => (r x hx).1, fun x hx => (r x hx).2⟩
def primes13 : List Int := [2, 3, 5, 7, 11, 13]
def primes37 : List Int := [2, 3, 5, 7, 11, 13, 17, 19, 23, 29, 31, 37]
def primes : List Int := [2, 3, 5, 7, 11, 13, 17, 19, 23, 29, 31, 37, 41, 43, 47, 53, 59, 61, 67, 71, 73, 79, 83, 89, 97, 101]
theorem prime_ok (ds : List Int) (a : Nat) (m : Int) (l : List Int) (h : (m = 13 ∧ l = primes13) ∨ (m = 37 ∧ l = primes37) ∨ (m = 101 ∧ l = primes)) : ∃ p : Int, p ∈ l ∧ g__law_prime [.l (hand ds a), .a (.int m)] = .ok (.d (.int p)) [hand ds (a + 1)] := by
  have hl : 0 < l.length := by rcases h with ⟨_, rfl⟩ | ⟨_, rfl⟩ | ⟨_, rfl⟩ <;> decide
  obtain ⟨v, h0, h1, h2⟩ := take_ok ds a l.length (by omega)
  obtain ⟨j, hj⟩ : ∃ j : Nat, v = j := ⟨_, (Int.toNat_of_nonneg h0).symm⟩
  have hj2 : j < l.length := by omega
  suffices k : ∃ r cs, g__law_prime [.l (hand ds a), .a (.int m)] = .ok r cs ∧ (r = .d (.int l[j]) ∧ cs = [hand ds (a + 1)]) by
    obtain ⟨r, cs, h, rfl, rfl⟩ := k
    exact ⟨_, List.getElem_mem hj2, h⟩
  rw [e__law_prime]
  refine fin_ok ?_
  unfold b__law_prime
  refine ok_step (e' := [.al 4, .val (.int m), .own (.lst (primes.map .int)), .un, .lent (hand ds a)]) (by simp [lim, primes]) ?_
  refine ok_step (e' := [.al 4, .val (.int m), .own (.lst (l.map .int)), .un, .lent (hand ds a)]) ?_ ?_
  · have hc := comp_map (i := iSeq (eVar 2)) (g := gName 3) (t := tBl (eOp oLe (eVar 3) (eVar 1))) (b := eVar 3) (vs := [3]) (e := [.al 4, .val (.int m), .own (.lst (primes.map .int)), .un, .lent (hand ds a)]) (e1 := [.al 4, .val (.int m), .val (.lst (primes.map .int)), .un, .lent (hand ds a)]) (ds := primes.map .int)
      (fun d => d) (fun d => match d with | .int i => decide (i ≤ m) | _ => false) (by simp) (by decide) (fun d hd => by
        obtain ⟨i, _, rfl⟩ := List.mem_map.mp hd
        exact ⟨_, rfl, by simp, rfl, fun _ => by simp⟩)
    have e : ((primes.map D.int).filter (fun d => match d with | .int i => decide (i ≤ m) | _ => false)).map (fun d => d) = l.map .int := by
      rcases h with ⟨rfl, rfl⟩ | ⟨rfl, rfl⟩ | ⟨rfl, rfl⟩ <;> simp [primes, primes13, primes37]
    rw [e] at hc
    rw [sSet_u, bnd_ok hc]
    simp
  · have i1 : ixn l.length v = some j := by rw [hj]; exact ixn_nat hj2
    exact .of (by simp [h2, i1, hj2]; exact ⟨rfl, rfl⟩) ⟨_, _, _, rfl, rfl, rfl, rfl, rfl⟩
theorem value_ok (p x : Int) (hp : 0 < p) (hx : small64 x = true) (c : List Int) (d0 : D) (hd0 : d0 = .lst (c.map .int) ∨ d0 = .tup (c.map .int)) : g__law_value [.a (.int p), .a d0, .a (.int x)] = .ok (.d (.int (evalL c x % p))) [] := by
  rw [e__law_value]
  refine fn_is ?_
  unfold b__law_value
  refine ok_step (by simp; rfl) ?_
  refine ok_seq (ok_for (e0 := [.val (.int p), .val d0, .val (.int x), .val (.int 0), .un]) (fun k e => ∃ s4 : Sl, e = [.val (.int p), .val d0, .val (.int x), .val (.int (evalL (c.drop (c.length - k)) x % p)), s4]) (ds := c.reverse.map .int) (by rcases hd0 with rfl | rfl <;> simp) ?_ ?_ ?_)
  · exact ⟨.un, by simp [evalL_nil]⟩
  · rintro k d e hd ⟨s4, rfl⟩
    have hk : k < c.length := by
      have := (List.getElem?_eq_some_iff.mp hd).1
      simpa using this
    have hk2 : c.length - 1 - k < c.length := by omega
    have g1 : c[c.length - 1 - k]? = some c[c.length - 1 - k] := List.getElem?_eq_getElem hk2
    have hd' : d = .int c[c.length - 1 - k] := by
      rw [List.getElem?_map, List.getElem?_reverse hk, g1] at hd
      simpa using hd.symm
    subst hd'
    have hs := hor_step c x p k _ g1 hk
    generalize evalL (c.drop (c.length - k)) x % p = t at hs ⊢
    generalize c[c.length - 1 - k] = a at hs g1 ⊢
    generalize evalL (c.drop (c.length - (k + 1))) x % p = t' at hs ⊢
    refine ⟨_, rfl, .of (a := .next) (e := [.val (.int p), .val d0, .val (.int x), .val (.int t'), .val (.int a)]) ?_ ⟨.inl rfl, _, rfl⟩⟩
    simp [hp, hx, hs]
  · rintro e' ⟨s4, rfl⟩
    rw [List.length_map, List.length_reverse, Nat.sub_self, List.drop_zero]
    exact ⟨rfl, ok_sret (by simp; exact ⟨rfl, rfl⟩) ⟨_, rfl, rfl, rfl⟩⟩
theorem curve_ok (ds : List Int) (a : Nat) (p d : Int) (hp : 0 < p) (h0 : 0 ≤ d) (h4 : d ≤ 4) : ∃ (c : List Int) (a' : Nat), c.length = (d + 1).toNat ∧ (∀ z ∈ c, 0 ≤ z ∧ z < p) ∧ g__law_curve [.l (hand ds a), .a (.int p), .a (.int d)] = .ok (.d (.tup (c.map .int))) [hand ds a'] := by
  suffices k : ∃ r cs, g__law_curve [.l (hand ds a), .a (.int p), .a (.int d)] = .ok r cs ∧ ∃ (c : List Int) (a' : Nat), (r = .d (.tup (c.map .int)) ∧ cs = [hand ds a']) ∧ c.length = (d + 1).toNat ∧ (∀ z ∈ c, 0 ≤ z ∧ z < p) by
    obtain ⟨r, cs, h, c, a', ⟨rfl, rfl⟩, h1, h2⟩ := k
    exact ⟨c, a', h1, h2, h⟩
  rw [e__law_curve]
  refine fin_ok ?_
  unfold b__law_curve
  have hb : big (d + 1) = true := big_of (by omega) (by omega)
  obtain ⟨acc, e', h1, c, rfl, hl, hr, rfl⟩ := compL_inv (g := gName 3) (t := tYes) (b := eCall g__law_take [true, false] (aCons (eVar 0) (aConsF (eVar 1) aNil))) (vs := [3]) (fun k acc e => ∃ c : List Int, acc = c.map .int ∧ c.length = k ∧ (∀ z ∈ c, 0 ≤ z ∧ z < p) ∧ e = [.al 4, .val (.int p), .val (.int d), .un, .lent (hand ds (a + k))])
    (rngD 0 (d + 1).toNat) (by
      rintro k d' acc e hd ⟨c, rfl, hl, hr, rfl⟩
      obtain ⟨v, v0, v1, h3⟩ := take_ok ds (a + k) p hp
      refine ⟨_, _, true, rfl, rfl, ?_⟩
      simp only [if_true]
      refine ⟨.d (.int v), [.al 4, .val (.int p), .val (.int d), .val d', .lent (hand ds (a + k + 1))], .int v, _, by simp [h3], rfl, c ++ [v], by simp, by simp [hl], fun z hz => ?_, by simp; rfl⟩
      rcases List.mem_append.mp hz with q | q
      · exact hr z q
      · have : z = v := by simpa using q
        omega) [.al 4, .val (.int p), .val (.int d), .un, .lent (hand ds a)] ⟨[], rfl, rfl, by simp, rfl⟩
  · have h2 := eComp_ok (i := iRng1 (eOp oAdd (eVar 2) (eC (.int 1)))) (e := [.al 4, .val (.int p), .val (.int d), .un, .lent (hand ds a)]) (e1 := [.al 4, .val (.int p), .val (.int d), .un, .lent (hand ds a)]) (by simp [hb]) (by rw [rngD_ln]; unfold lim; omega) h1
    simp only [unwipe_cons, unwipe_nil, List.getElem?_cons_succ, List.getElem?_cons_zero, List.set_cons_succ, List.set_cons_zero] at h2
    rw [rngD_ln] at hl
    refine .of (by simp [h2]; exact ⟨rfl, rfl⟩) ?_
    exact ⟨_, _, _, rfl, rfl, rfl, c, _, ⟨rfl, rfl⟩, hl, hr⟩
theorem turned_ok (ds : List Int) (a : Nat) (p many : Int) (P : Nat) (hp : 0 < p) (hP : p = P) (f0 : D) (f : List Int) (hf0 : f0 = .tup (f.map .int) ∨ f0 = .lst (f.map .int)) (hf : Tab p P f) (hm0 : 0 ≤ many) (hm : many < 1000) : ∃ (f' : List Int) (a' : Nat), Tab p P f' ∧ g__law_turned [.l (hand ds a), .a (.int p), .a f0, .a (.int many)] = .ok (.d (.tup (f'.map .int))) [hand ds a'] := by
  suffices k : ∃ r cs, g__law_turned [.l (hand ds a), .a (.int p), .a f0, .a (.int many)] = .ok r cs ∧ ∃ (c : List Int) (a' : Nat), (r = .d (.tup (c.map .int)) ∧ cs = [hand ds a']) ∧ Tab p P c by
    obtain ⟨r, cs, h, c, a', ⟨rfl, rfl⟩, t⟩ := k
    exact ⟨c, a', t, h⟩
  rw [e__law_turned]
  refine fin_ok ?_
  unfold b__law_turned
  refine ok_step (e' := [.al 5, .val (.int p), .own (.lst (f.map .int)), .val (.int many), .un, .lent (hand ds a)]) ?_ ?_
  · rcases hf0 with rfl | rfl <;> simp
  refine ok_seq (ok_for (fun k e => ∃ (f : List Int) (a : Nat) (s : Sl), e = [.al 5, .val (.int p), .own (.lst (f.map .int)), .val (.int many), s, .lent (hand ds a)] ∧ Tab p P f) (ds := rngD 0 many.toNat) (by simp [big_of (show -(2 ^ 62) ≤ many by omega) (show many < 2 ^ 62 by omega)]; rfl) ?_ ?_ ?_)
  · exact ⟨f, a, _, rfl, hf⟩
  · rintro k d e hd ⟨f, a, s, rfl, ht⟩
    obtain ⟨hk, i, hi, rfl⟩ := rngD_at hd
    obtain ⟨v, v0, v1, h1⟩ := take_ok ds a p hp
    obtain ⟨u, u0, u1, h2⟩ := take_ok ds (a + 1) p hp
    obtain ⟨j, hj⟩ : ∃ j : Nat, u = j := ⟨_, (Int.toNat_of_nonneg u0).symm⟩
    have hj2 : j < f.length := by rw [ht.len]; omega
    have i1 : ixn f.length u = some j := by rw [hj]; exact ixn_nat hj2
    refine ⟨_, rfl, .of (by simp [h1, h2, i1]; exact ⟨rfl, rfl⟩) ?_⟩
    exact ⟨.inl rfl, f.set j v, _, _, by rw [List.map_set], set_tab ht j v0 v1⟩
  · rintro e' ⟨f, a, s, rfl, ht⟩
    exact ⟨rfl, .of (by simp; exact ⟨rfl, rfl⟩) ⟨_, _, _, rfl, rfl, rfl, f, _, ⟨rfl, rfl⟩, ht⟩⟩
end K55
end Py
end
section
set_option linter.all false
set_option maxRecDepth 100000
set_option maxHeartbeats 0
namespace Py
def sumN : Nat → (Nat → Int) → Int
  | 0, _ => 0
  | n + 1, f => sumN n f + f n
theorem sumN_congr {f g : Nat → Int} : ∀ {n : Nat}, (∀ k, k < n → f k = g k) → sumN n f = sumN n g
  | 0, _ => rfl
  | n + 1, h => by rw [sumN, sumN, sumN_congr (fun k hk => h k (by omega)), h n (by omega)]
theorem sumN_add (f g : Nat → Int) : ∀ n, sumN n (fun k => f k + g k) = sumN n f + sumN n g
  | 0 => rfl
  | n + 1 => by rw [sumN, sumN, sumN, sumN_add f g n]; omega
theorem sumN_zero : ∀ n, sumN n (fun _ => 0) = 0
  | 0 => rfl
  | n + 1 => by rw [sumN, sumN_zero n]; rfl
theorem sumN_mul (c : Int) (f : Nat → Int) : ∀ n, sumN n (fun k => c * f k) = c * sumN n f
  | 0 => by simp [sumN]
  | n + 1 => by rw [sumN, sumN, sumN_mul c f n, Int.mul_add]
theorem sumN_swap (f : Nat → Nat → Int) (m : Nat) : ∀ n, sumN n (fun i => sumN m (f i)) = sumN m (fun j => sumN n (fun i => f i j))
  | 0 => by simp only [sumN]; rw [sumN_zero]
  | n + 1 => by simp only [sumN]; rw [sumN_add, sumN_swap f m n]
theorem sumN_le {f g : Nat → Int} : ∀ {n : Nat}, (∀ k, k < n → f k ≤ g k) → sumN n f ≤ sumN n g
  | 0, _ => Int.le_refl _
  | n + 1, h => by
    have h1 := sumN_le (n := n) (fun k hk => h k (by omega))
    have h2 := h n (by omega)
    show sumN n f + f n ≤ sumN n g + g n
    omega
theorem sumN_nonneg {f : Nat → Int} {n : Nat} (h : ∀ k, k < n → 0 ≤ f k) : 0 ≤ sumN n f := by
  have := sumN_le (f := fun _ => 0) (g := f) h
  rw [sumN_zero] at this
  exact this
theorem sum_range (f : Nat → Int) : ∀ n, ((List.range n).map f).sum = sumN n f
  | 0 => rfl
  | n + 1 => by rw [List.range_succ, List.map_append, List.sum_append, sum_range f n]; simp [sumN]
theorem sumN_front (f : Nat → Int) : ∀ n, sumN (n + 1) f = f 0 + sumN n (fun k => f (k + 1))
  | 0 => by simp [sumN]
  | n + 1 => by rw [sumN, sumN_front f n, sumN]; omega
/-- one if so -/
def one (b : Bool) : Int := if b then 1 else 0
theorem sumN_one (v : Nat) : ∀ n, sumN n (fun k => one (k == v)) = one (decide (v < n))
  | 0 => by simp [sumN, one]
  | n + 1 => by
    rw [sumN, sumN_one v n]
    unfold one
    by_cases h : v < n
    · have h2 : ¬ n = v := by omega
      simp [h, h2, show v < n + 1 by omega]
    · by_cases h3 : n = v
      · subst h3; simp
      · simp [h, h3, show ¬ v < n + 1 by omega]
namespace K55
def rowD : Nat → List Int
  | 0 => [1, -1]
  | 1 => [1, -2, 1]
  | 2 => [1, -3, 3, -1]
  | 3 => [1, -4, 6, -4, 1]
  | _ => [1, -5, 10, -10, 5, -1]
theorem factors_ok (d : Int) (n : Nat) (h : d = n) (hn : n ≤ 4) : g_factors_of [.a (.int d)] = .ok (.fr (.lst ((rowD n).map .int))) [] := by
  subst h
  match n, hn with
  | 0, _ => kernel_rfl
  | 1, _ => kernel_rfl
  | 2, _ => kernel_rfl
  | 3, _ => kernel_rfl
  | 4, _ => kernel_rfl
theorem check_prime_ok (p : Int) (h : p ∈ primes) : g_check_prime [.a (.int p)] = .ok (.d .non) [] := by
  unfold primes at h
  simp only [List.mem_cons, List.not_mem_nil, or_false] at h
  rcases h with rfl | rfl | rfl | rfl | rfl | rfl | rfl | rfl | rfl | rfl | rfl | rfl | rfl | rfl | rfl | rfl | rfl | rfl | rfl | rfl | rfl | rfl | rfl | rfl | rfl | rfl <;> kernel_rfl
theorem is_int_ok (i : Int) : g_is_integer [.a (.int i)] = .ok (.d (.bl true)) [] := rfl
theorem is_num_ok (i : Int) (h : 0 ≤ i) : g_is_number [.a (.int i)] = .ok (.d (.bl true)) [] := by
  rw [e_is_number]; unfold b_is_number
  simp [is_int_ok, h]
theorem is_below_ok (i b : Int) (h : 0 ≤ i) (h2 : i < b) : g_is_below [.a (.int i), .a (.int b)] = .ok (.d (.bl true)) [] := by
  rw [e_is_below]; unfold b_is_below
  simp [is_int_ok, h, h2]
theorem row_below_ok (p : Int) (P : Nat) (hP : p = P) (f : List Int) (hf : Tab p P f) : g_row_below [.a (.tup (f.map .int)), .a (.int p), .a (.int p)] = .ok (.d (.bl true)) [] := by
  suffices k : ∃ r cs, g_row_below [.a (.tup (f.map .int)), .a (.int p), .a (.int p)] = .ok r cs ∧ (r = .d (.bl true) ∧ cs = []) by
    obtain ⟨r, cs, h, rfl, rfl⟩ := k
    exact h
  rw [e_row_below]
  refine fin_ok ?_
  unfold b_row_below
  have hl : (f.length : Int) = p := by rw [hf.len, hP]
  refine ok_step (by simp [isT, hl]; rfl) ?_
  refine ok_seq (ok_for (fun k e => ∃ s : Sl, e = [.val (.tup (f.map .int)), .val (.int p), .val (.int p), s]) (ds := f.map .int) (by simp; rfl) ?_ ?_ ?_)
  · exact ⟨_, rfl⟩
  · rintro k d e hd ⟨s, rfl⟩
    obtain ⟨i, hi, rfl⟩ : ∃ i, i ∈ f ∧ D.int i = d := List.mem_map.mp (List.mem_of_getElem? hd)
    refine ⟨_, rfl, .of (by simp [is_below_ok i p (hf.low i hi) (hf.up i hi)]; exact ⟨rfl, rfl⟩) ?_⟩
    exact ⟨.inl rfl, _, rfl⟩
  · rintro e' ⟨s, rfl⟩
    exact ⟨rfl, .of (by simp; exact ⟨rfl, rfl⟩) ⟨_, _, _, rfl, rfl, rfl, rfl, rfl⟩⟩
theorem check_table_ok (p : Int) (P : Nat) (hP : p = P) (h : p ∈ primes) (f : List Int) (hf : Tab p P f) : g_check_table [.a (.int p), .a (.tup (f.map .int))] = .ok (.d .non) [] := by
  rw [e_check_table]; unfold b_check_table
  simp [check_prime_ok p h, row_below_ok p P hP f hf]
theorem check_degree_ok (p d : Int) (P : Nat) (hP : p = P) (h : p ∈ primes) (f : List Int) (hf : Tab p P f) (h0 : 0 ≤ d) (h4 : d ≤ 4) (hd : d + 2 ≤ p) : g_check_degree [.a (.int p), .a (.int d), .a (.tup (f.map .int))] = .ok (.d .non) [] := by
  rw [e_check_degree]; unfold b_check_degree
  have a1 : ¬ 4 < d := by omega
  have a2 : ¬ p < d + 2 := by omega
  simp [check_prime_ok p h, is_num_ok d h0, a1, a2, check_table_ok p P hP h f hf]
def fAt (f : List Int) (P n : Nat) : Int := f.getD (n % P) 0
def rAt (r : List Int) (n : Nat) : Int := r.getD n 0
/-- the sum along steps, the places from lo on -/
def stepS (r f : List Int) (P lo n x h : Nat) : Int := sumN n fun k => rAt r (lo + k) * fAt f P (x + (lo + k) * h)
theorem at_f {p : Int} {P : Nat} {f : List Int} (hf : Tab p P f) (h0 : 0 < P) (hP : p = P) {x i h : Int} {X I H : Nat} (hx : x = X) (hi : i = I) (hh : h = H) : ∃ j : Nat, (x + i * h) % p = j ∧ ixn f.length (j : Int) = some j ∧ f[j]? = some (fAt f P (X + I * H)) := by
  have hj : (X + I * H) % P < f.length := by rw [hf.len]; exact Nat.mod_lt _ h0
  refine ⟨(X + I * H) % P, ?_, ixn_nat hj, ?_⟩
  · subst hx hi hh hP
    simp
  · simp [fAt, List.getD, hj]
theorem at_r {r : List Int} {i : Int} {I : Nat} (hi : i = I) (h : I < r.length) : ixn r.length i = some I ∧ r[I]? = some (rAt r I) := by
  subst hi
  exact ⟨ixn_nat h, by simp [rAt, List.getD, h]⟩
theorem step_sum_ok (p x h : Int) (P X H n : Nat) (h0 : 0 < P) (hP : p = P) (hx : x = X) (hh : h = H) (hX : X < 1000) (hH : H < 1000) (r f : List Int) (hr : ∀ z ∈ r, small64 z = true) (hn : r.length = n) (hn2 : n < 1000) (hf : Tab p P f) :
    g_step_sum [.a (.int p), .a (.lst (r.map .int)), .a (.tup (f.map .int)), .a (.int x), .a (.int h)] = .ok (.d (.int (stepS r f P 0 n X H % p))) [] := by
  suffices k : ∃ rr cs, g_step_sum [.a (.int p), .a (.lst (r.map .int)), .a (.tup (f.map .int)), .a (.int x), .a (.int h)] = .ok rr cs ∧ (rr = .d (.int (stepS r f P 0 n X H % p)) ∧ cs = []) by
    obtain ⟨r, cs, h, rfl, rfl⟩ := k
    exact h
  have hp : 0 < p := by omega
  rw [e_step_sum]
  refine fin_ok ?_
  unfold b_step_sum
  have sh : small64 h = true := small_of (by omega) (by omega)
  have hc := comp_map (i := iEnum (eVar 1)) (g := gTup [5, 6]) (t := tYes) (b := eOp oMul (eVar 6) (eOp oIx (eVar 2) (eOp oMod (eOp oAdd (eVar 3) (eOp oMul (eVar 5) (eVar 4))) (eVar 0)))) (vs := [5, 6])
    (e := [.val (.int p), .val (.lst (r.map .int)), .val (.tup (f.map .int)), .val (.int x), .val (.int h), .un, .un]) (e1 := [.val (.int p), .val (.lst (r.map .int)), .val (.tup (f.map .int)), .val (.int x), .val (.int h), .un, .un])
    (ds := enumD (r.map .int)) (fun d => match d with | .tup [.int i, .int w] => .int (w * fAt f P (X + i.toNat * H)) | d => d) (fun _ => true) (by simp) (by simp [enumD, lim, hn]; omega) (by
      intro d hd
      unfold enumD at hd
      obtain ⟨⟨w, k⟩, hk, rfl⟩ := List.mem_map.mp hd
      rw [List.mem_zipIdx_iff_getElem?] at hk
      simp only [List.getElem?_map, Option.map_eq_some_iff] at hk
      obtain ⟨z, hz, rfl⟩ := hk
      have hk2 : k < r.length := (List.getElem?_eq_some_iff.mp hz).1
      obtain ⟨i, hi⟩ : ∃ i : Int, i = k := ⟨_, rfl⟩
      have hik : i.toNat = k := by omega
      have sz : small64 z = true := hr z (List.mem_of_getElem? hz)
      obtain ⟨j, e, i1, g⟩ := at_f hf h0 hP hx hi hh
      rw [← hi]
      refine ⟨_, rfl, rfl, rfl, fun _ => ?_⟩
      simp [sh, hp, e, i1, g, sz, hik])
  rw [List.filter_eq_self.mpr (by simp)] at hc
  have e2 : (enumD (r.map .int)).map (fun d => match d with | .tup [.int i, .int w] => .int (w * fAt f P (X + i.toNat * H)) | d => d) = ((List.range n).map fun k => rAt r (0 + k) * fAt f P (X + (0 + k) * H)).map D.int := by
    apply List.ext_getElem?
    intro k
    unfold enumD
    simp only [List.map_map, List.getElem?_map, List.getElem?_zipIdx, List.getElem?_range']
    by_cases hk : k < r.length
    · have hk' : k < n := by omega
      simp [hk, hk', rAt, List.getD, List.getElem?_range]
    · have hk' : ¬ k < n := by omega
      have hk2 : r[k]? = none := List.getElem?_eq_none (by omega)
      simp [hk2, hk', List.getElem?_eq_none]
  rw [e2] at hc
  have s : ((List.range n).map (fun k => rAt r (0 + k) * fAt f P (X + (0 + k) * H))).sum = stepS r f P 0 n X H := sum_range (fun k => rAt r (0 + k) * fAt f P (X + (0 + k) * H)) n
  rw [sRet_u, bnd_u, eOp_u, bnd_u, eB_u, bnd_u, aCons_u, bnd_ok hc]
  simp only [aNil_u, bnd_u, ret_u, vws_cons, vws_nil, vw_fr, Cell.toD_lst, bSum_lst, s, lft_some]
  refine .of (by simp [hp]; exact ⟨rfl, rfl⟩) ⟨_, _, _, rfl, rfl, rfl, rfl, rfl⟩
def voteN (r f : List Int) (P n x h : Nat) : Nat := ((-(stepS r f P 1 n x h)) % (P : Int)).toNat
def votesL (V : Nat → Nat) (P k : Nat) : List Int := (List.range P).map fun v => sumN k fun h => one (V h == v)
theorem votesL_len (V : Nat → Nat) (P k : Nat) : (votesL V P k).length = P := by simp [votesL]
theorem votesL_get {V : Nat → Nat} {P k v : Nat} (h : v < P) : (votesL V P k)[v]? = some (sumN k fun h => one (V h == v)) := by simp [votesL, h]
theorem bump {V : Nat → Nat} {P k : Nat} (h : V k < P) : (votesL V P k).set (V k) ((sumN k fun h => one (V h == V k)) + 1) = votesL V P (k + 1) := by
  apply List.ext_getElem?
  intro v
  by_cases hv : v < P
  · rw [votesL_get hv, List.getElem?_set]
    by_cases e : V k = v
    · subst e
      simp [votesL_len, h, sumN, one]
    · have e2 : (V k == v) = false := by simpa using e
      rw [if_neg e, votesL_get hv, sumN, e2]
      simp [one]
  · rw [List.getElem?_eq_none (by rw [List.length_set, votesL_len]; omega), List.getElem?_eq_none (by rw [votesL_len]; omega)]
theorem vote_lt {r f : List Int} {P n x h : Nat} (h0 : 0 < P) : voteN r f P n x h < P := by
  unfold voteN
  have h1 := Int.emod_nonneg (-(stepS r f P 1 n x h)) (show (P : Int) ≠ 0 by omega)
  have h2 := Int.emod_lt_of_pos (-(stepS r f P 1 n x h)) (show (0 : Int) < P by omega)
  omega
theorem vote_eq {r f : List Int} {P n x h : Nat} {p : Int} (hP : p = P) (h0 : 0 < P) : (-(stepS r f P 1 n x h)) % p = (voteN r f P n x h : Int) := by
  subst hP
  unfold voteN
  have h1 := Int.emod_nonneg (-(stepS r f P 1 n x h)) (show (P : Int) ≠ 0 by omega)
  omega
theorem rowD_len {n : Nat} (h : n ≤ 4) : (rowD n).length = n + 2 := by
  match n, h with
  | 0, _ => rfl
  | 1, _ => rfl
  | 2, _ => rfl
  | 3, _ => rfl
  | 4, _ => rfl
theorem rowD_small (n : Nat) : ∀ z ∈ rowD n, small64 z = true := by
  match n with
  | 0 => decide
  | 1 => decide
  | 2 => decide
  | 3 => decide
  | n + 4 => exact (by decide : ∀ z ∈ [(1:Int), -5, 10, -10, 5, -1], small64 z = true)
theorem rowD_0 (n : Nat) : rAt (rowD n) 0 = 1 := by
  match n with
  | 0 => rfl
  | 1 => rfl
  | 2 => rfl
  | 3 => rfl
  | n + 4 => rfl
theorem step_front (r f : List Int) (P n x h : Nat) (hr : rAt r 0 = 1) : stepS r f P 0 (n + 1) x h = fAt f P x + stepS r f P 1 n x h := by
  unfold stepS
  rw [sumN_front]
  congr 1
  · simp [hr]
  · refine sumN_congr fun k _ => ?_
    rw [show 0 + (k + 1) = 1 + k by omega]
theorem turn_mod (F S p : Int) : (F - (F + S) % p) % p = (-S) % p := by
  rw [Int.sub_emod, Int.emod_emod, ← Int.sub_emod]
  congr 1
  omega
theorem step_votes_ok (p d x : Int) (P Dn X : Nat) (hP : p = P) (hp : p ∈ primes) (hd : d = Dn) (hD : Dn ≤ 4) (hD2 : Dn + 2 ≤ P) (hx : x = X) (hX : X < P) (hP2 : P < 1000) (f : List Int) (hf : Tab p P f) :
    g_step_votes [.a (.int p), .a (.int d), .a (.tup (f.map .int)), .a (.int x)] = .ok (.d (.tup ((votesL (voteN (rowD Dn) f P (Dn + 1) X) P P).map .int))) [] := by
  suffices k : ∃ r cs, g_step_votes [.a (.int p), .a (.int d), .a (.tup (f.map .int)), .a (.int x)] = .ok r cs ∧ (r = .d (.tup ((votesL (voteN (rowD Dn) f P (Dn + 1) X) P P).map .int)) ∧ cs = []) by
    obtain ⟨r, cs, h, rfl, rfl⟩ := k
    exact h
  have h0 : 0 < P := by omega
  have hp0 : 0 < p := by omega
  have bp : big p = true := big_of (by omega) (by omega)
  have pn : p.toNat = P := by omega
  rw [e_step_votes]
  refine fin_ok ?_
  unfold b_step_votes
  refine ok_step (by simp [check_degree_ok p d P hP hp f hf (by omega) (by omega) (by omega)]; rfl) ?_
  refine ok_step (by simp [is_below_ok x p (by omega) (by omega)]; rfl) ?_
  refine ok_step (by simp [factors_ok d Dn hd hD]; rfl) ?_
  refine ok_step (e' := [.val (.int p), .val (.int d), .val (.tup (f.map .int)), .val (.int x), .own (.lst ((rowD Dn).map .int)), .own (.lst ((votesL (voteN (rowD Dn) f P (Dn + 1) X) P 0).map .int)), .un, .un]) ?_ ?_
  · rw [sSet_u, bnd_ok (comp_rng (i := iRng1 (eVar 0)) (g := gName 7) (b := eC (.int 0)) (vs := [7]) (e := [.val (.int p), .val (.int d), .val (.tup (f.map .int)), .val (.int x), .own (.lst ((rowD Dn).map .int)), .un, .un, .un]) (lo := 0) (n := P) (e1 := [.val (.int p), .val (.int d), .val (.tup (f.map .int)), .val (.int x), .own (.lst ((rowD Dn).map .int)), .un, .un, .un]) (fun _ => .int 0) (by simp [bp, pn]) (by unfold lim; omega) (fun k i hk hi => ⟨_, rfl, rfl, rfl⟩))]
    simp [votesL, sumN]
  refine ok_seq (ok_for (fun k e => ∃ (s6 s7 : Sl), e = [.val (.int p), .val (.int d), .val (.tup (f.map .int)), .val (.int x), .own (.lst ((rowD Dn).map .int)), .own (.lst ((votesL (voteN (rowD Dn) f P (Dn + 1) X) P k).map .int)), s6, s7]) (ds := rngD 0 P) (by simp [bp, pn]; rfl) ?_ ?_ ?_)
  · exact ⟨_, _, rfl⟩
  · rintro k e hd' he ⟨s6, s7, rfl⟩
    obtain ⟨hk, h, hh, rfl⟩ := rngD_at he
    refine ⟨_, rfl, ?_⟩
    simp only [List.set_cons_succ, List.set_cons_zero]
    have hs := step_sum_ok p x h P X k (Dn + 2) h0 hP hx (by omega) (by omega) (by omega) (rowD Dn) f (rowD_small Dn) (rowD_len hD) (by omega) hf
    rw [step_front _ _ _ _ _ _ (rowD_0 Dn)] at hs
    have hv := vote_eq (r := rowD Dn) (f := f) (n := Dn + 1) (x := X) (h := k) hP h0
    rw [← turn_mod (fAt f P X)] at hv
    have hl := vote_lt (r := rowD Dn) (f := f) (n := Dn + 1) (x := X) (h := k) h0
    obtain ⟨v, hvv⟩ : ∃ v : Nat, v = voteN (rowD Dn) f P (Dn + 1) X k := ⟨_, rfl⟩
    rw [← hvv] at hv hl
    have i1 : ixn (votesL (voteN (rowD Dn) f P (Dn + 1) X) P k).length (v : Int) = some v := ixn_nat (by rw [votesL_len]; exact hl)
    have g1 := votesL_get (V := voteN (rowD Dn) f P (Dn + 1) X) (k := k) hl
    have i2 : ixn f.length x = some X := by subst hx; exact ixn_nat (by rw [hf.len]; exact hX)
    have g2 : f[X]? = some (fAt f P X) := by
      have : X < f.length := by rw [hf.len]; exact hX
      simp [fAt, List.getD, this, Nat.mod_eq_of_lt hX]
    have e5 : ((votesL (voteN (rowD Dn) f P (Dn + 1) X) P k).map D.int).set v (.int ((sumN k fun h => one (voteN (rowD Dn) f P (Dn + 1) X h == v)) + 1)) = (votesL (voteN (rowD Dn) f P (Dn + 1) X) P (k + 1)).map .int := by
      rw [← bump (by rw [← hvv]; exact hl), List.map_set, hvv]
    refine .of (e := [.val (.int p), .val (.int d), .val (.tup (f.map .int)), .val (.int x), .own (.lst ((rowD Dn).map .int)), .own (.lst ((votesL (voteN (rowD Dn) f P (Dn + 1) X) P (k + 1)).map .int)), .val (.int h), s7]) (a := .next) ?_ ⟨.inl rfl, _, _, rfl⟩
    simp [hs, i1, g1, i2, g2, hp0, hv, e5]
  · rintro e' ⟨s6, s7, rfl⟩
    rw [rngD_ln]
    exact ⟨rfl, .of (by simp; exact ⟨rfl, rfl⟩) ⟨_, _, _, rfl, rfl, rfl, rfl, rfl⟩⟩
end K55
end Py
end
section
set_option linter.all false
set_option maxRecDepth 100000
set_option maxHeartbeats 0
namespace Py
/-- the same modulo p -/
def Eqm (p a b : Int) : Prop := a % p = b % p
theorem Eqm.refl {p a : Int} : Eqm p a a := rfl
theorem Eqm.symm {p a b : Int} (h : Eqm p a b) : Eqm p b a := Eq.symm h
theorem Eqm.trans {p a b c : Int} (h : Eqm p a b) (k : Eqm p b c) : Eqm p a c := Eq.trans h k
theorem Eqm.of {p a b : Int} (h : a = b) : Eqm p a b := by rw [h]; rfl
theorem Eqm.add {p a b c d : Int} (h : Eqm p a b) (k : Eqm p c d) : Eqm p (a + c) (b + d) := by
  unfold Eqm at *
  rw [Int.add_emod, h, k, ← Int.add_emod]
theorem Eqm.mul {p a b c d : Int} (h : Eqm p a b) (k : Eqm p c d) : Eqm p (a * c) (b * d) := by
  unfold Eqm at *
  rw [Int.mul_emod, h, k, ← Int.mul_emod]
theorem Eqm.sub {p a b c d : Int} (h : Eqm p a b) (k : Eqm p c d) : Eqm p (a - c) (b - d) := by
  unfold Eqm at *
  rw [Int.sub_emod, h, k, ← Int.sub_emod]
theorem Eqm.neg {p a b : Int} (h : Eqm p a b) : Eqm p (-a) (-b) := by
  have := (Eqm.refl (p := p) (a := 0)).sub h
  simpa using this
theorem eqm_mod {p a : Int} : Eqm p (a % p) a := Int.emod_emod _ _
theorem eqm_add {p a : Int} : Eqm p (a + p) a := by unfold Eqm; simp
theorem eqm_small {p a b : Int} (h : Eqm p a b) (a0 : 0 ≤ a) (a1 : a < p) (b0 : 0 ≤ b) (b1 : b < p) : a = b := by
  unfold Eqm at h
  rw [Int.emod_eq_of_lt a0 a1, Int.emod_eq_of_lt b0 b1] at h
  exact h
theorem evalL_eqm {p : Int} : ∀ (c : List Int) {x y : Int}, Eqm p x y → Eqm p (evalL c x) (evalL c y)
  | [], _, _, _ => rfl
  | a :: c, _, _, h => (Eqm.refl (a := a)).add (h.mul (evalL_eqm c h))
/-! ### differences -/
def dlt : Nat → (Int → Int) → Int → Int
  | 0, t, n => t n
  | k + 1, t, n => dlt k t (n + 1) - dlt k t n
theorem dlt_poly {d : Nat} {c : List Int} (hc : c.length = d + 1) (hd : d ≤ 4) (s n : Int) : dlt (d + 1) (fun n => evalL c (n - s)) n = 0 := by
  match d, c, hc, hd with
  | 0, [a], _, _ => simp only [dlt, evalL_cons, evalL_nil]; grind
  | 1, [a, b], _, _ => simp only [dlt, evalL_cons, evalL_nil]; grind
  | 2, [a, b, c], _, _ => simp only [dlt, evalL_cons, evalL_nil]; grind
  | 3, [a, b, c, e], _, _ => simp only [dlt, evalL_cons, evalL_nil]; grind
  | 4, [a, b, c, e, f], _, _ => simp only [dlt, evalL_cons, evalL_nil]; grind
/-- t is told modulo p by d + 1 places that follow one another -/
structure Good (p : Int) (d : Nat) (t : Int → Int) : Prop where
  per : ∀ n, Eqm p (t (n + p)) (t n)
  dl : ∀ n, Eqm p (dlt (d + 1) t n) 0
theorem good_poly {p : Int} {d : Nat} {c : List Int} (hc : c.length = d + 1) (hd : d ≤ 4) (s : Int) : Good p d (fun n => evalL c (n - s)) where
  per := fun n => evalL_eqm c (by rw [show n + p - s = n - s + p by omega]; exact eqm_add)
  dl := fun n => .of (dlt_poly hc hd s n)
theorem good_mod {p : Int} {d : Nat} {t : Int → Int} (h : Good p d t) (n : Int) : Eqm p (t (n % p)) (t n) := by
  have up : ∀ (k : Nat) (m : Int), Eqm p (t (m + k * p)) (t m) := fun k => by
    induction k with
    | zero => intro m; exact .of (by simp)
    | succ k ih =>
      intro m
      refine Eqm.trans ?_ (ih m)
      rw [show m + ((k + 1 : Nat) : Int) * p = m + k * p + p by rw [Int.natCast_succ, Int.add_mul]; omega]
      exact h.per _
  have e := Int.emod_add_mul_ediv n p
  rcases Int.le_total 0 (n / p) with z | z
  · obtain ⟨k, hk⟩ := Int.eq_ofNat_of_zero_le z
    have := up k (n % p)
    rw [hk] at e
    rw [show n % p + (k : Int) * p = n by rw [Int.mul_comm]; exact e] at this
    exact this.symm
  · obtain ⟨k, hk⟩ := Int.eq_ofNat_of_zero_le (show 0 ≤ -(n / p) by omega)
    have := up k n
    have e2 : n + (k : Int) * p = n % p := by
      rw [← hk, Int.neg_mul, Int.mul_comm]; omega
    rw [e2] at this
    exact this
/-- two of them that are alike at the places s, .., s + d are alike behind them -/
theorem good_uniq {p : Int} {d : Nat} {t u : Int → Int} (ht : Good p d t) (hu : Good p d u) (s : Int) (h : ∀ i : Nat, i ≤ d → Eqm p (t (s + i)) (u (s + i))) : ∀ m : Nat, Eqm p (t (s + m)) (u (s + m)) := by
  -- all differences up to d + 1 are alike
  have key : ∀ m : Nat, ∀ k : Nat, k ≤ d → Eqm p (dlt k t (s + m)) (dlt k u (s + m)) := by
    intro m
    induction m with
    | zero =>
      have low : ∀ k : Nat, ∀ i : Nat, i + k ≤ d → Eqm p (dlt k t (s + i)) (dlt k u (s + i)) := by
        intro k
        induction k with
        | zero => exact fun i hi => h i (by omega)
        | succ k ih =>
          intro i hi
          have a := ih (i + 1) (by omega)
          have b := ih i (by omega)
          simp only [dlt]
          rw [show s + (i : Int) + 1 = s + ((i + 1 : Nat) : Int) by omega]
          exact a.sub b
      exact fun k hk => low k 0 (by omega)
    | succ m ih =>
      have up : ∀ j : Nat, j ≤ d → Eqm p (dlt (d - j) t (s + ((m + 1 : Nat) : Int))) (dlt (d - j) u (s + ((m + 1 : Nat) : Int))) := by
        have step : ∀ (v : Int → Int) (k : Nat), dlt k v (s + ((m + 1 : Nat) : Int)) = dlt k v (s + m) + dlt (k + 1) v (s + m) := fun v k => by
          simp only [dlt]
          rw [show s + ((m + 1 : Nat) : Int) = s + m + 1 by omega]
          omega
        intro j
        induction j with
        | zero =>
          intro _
          rw [step, step]
          exact (ih d (Nat.le_refl _)).add ((ht.dl _).trans (hu.dl _).symm)
        | succ j ihj =>
          intro hj
          rw [step, step]
          refine (ih _ (by omega)).add ?_
          have a := ihj (by omega)
          rw [step, step] at a
          have e : d - (j + 1) + 1 = d - j := by omega
          rw [e]
          exact ih _ (by omega)
      intro k hk
      have := up (d - k) (by omega)
      rw [show d - (d - k) = k by omega] at this
      exact this
  exact fun m => key m 0 (by omega)
/-- the same, at all places -/
theorem good_all {p : Int} {d : Nat} {t u : Int → Int} (hp : 0 < p) (ht : Good p d t) (hu : Good p d u) (s : Int) (h : ∀ i : Nat, i ≤ d → Eqm p (t (s + i)) (u (s + i))) (n : Int) : Eqm p (t n) (u n) := by
  have h1 := Int.emod_nonneg (n - s) (show p ≠ 0 by omega)
  obtain ⟨m, hm⟩ := Int.eq_ofNat_of_zero_le h1
  have := good_uniq ht hu s h m
  have e : Eqm p (s + m) n := by
    have : Eqm p (s + (n - s) % p) (s + (n - s)) := Eqm.refl.add eqm_mod
    rw [hm] at this
    rw [show s + (n - s) = n by omega] at this
    exact this
  have a := (good_mod ht (s + m)).symm.trans ((Eqm.of (by rw [show (s + (m : Int)) % p = n % p from e])).trans (good_mod ht n))
  have b := (good_mod hu (s + m)).symm.trans ((Eqm.of (by rw [show (s + (m : Int)) % p = n % p from e])).trans (good_mod hu n))
  exact a.symm.trans (this.trans b)
/-! ### polynomials, put together -/
def tlr (p x : Int) : Int → List Int → List Int
  | prev, [] => [prev]
  | prev, a :: r => (prev - x * a) % p :: tlr p x a r
theorem tlr_len (p x : Int) : ∀ (prev : Int) (c : List Int), (tlr p x prev c).length = c.length + 1
  | _, [] => rfl
  | _, a :: r => by simp [tlr, tlr_len p x a r]
theorem tlr_get (p x : Int) : ∀ (c : List Int) (prev : Int) (k : Nat) (a b : Int), (prev :: c)[k]? = some a → c[k]? = some b → (tlr p x prev c)[k]? = some ((a - x * b) % p)
  | [], _, k, _, _, _, h => by simp at h
  | a' :: r, prev, 0, a, b, h1, h2 => by
    simp only [List.getElem?_cons_zero, Option.some.injEq] at h1 h2
    subst h1 h2
    rfl
  | a' :: r, prev, k + 1, a, b, h1, h2 => by
    simp only [List.getElem?_cons_succ] at h1 h2
    simp only [tlr, List.getElem?_cons_succ]
    exact tlr_get p x r a' k a b h1 h2
theorem tlr_last (p x : Int) : ∀ (c : List Int) (prev : Int), (tlr p x prev c).drop c.length = (prev :: c).drop c.length
  | [], _ => rfl
  | a :: r, prev => by
    simp only [tlr, List.length_cons, List.drop_succ_cons]
    exact tlr_last p x r a
theorem tlr_eval (p x y : Int) : ∀ (c : List Int) (prev : Int), Eqm p (evalL (tlr p x prev c) y) (prev + (y - x) * evalL c y)
  | [], prev => .of (by simp [tlr, evalL_cons, evalL_nil])
  | a :: r, prev => by
    simp only [tlr, evalL_cons]
    refine (eqm_mod.add (Eqm.refl.mul (tlr_eval p x y r a))).trans (.of ?_)
    grind
def addm (p l : Int) : List Int → List Int → List Int
  | c, [] => c
  | [], _ :: _ => []
  | c :: cs, r :: rs => (c + l * r) % p :: addm p l cs rs
theorem addm_len (p l : Int) : ∀ (c r : List Int), (addm p l c r).length = c.length
  | c, [] => by unfold addm; rfl
  | [], _ :: _ => rfl
  | c :: cs, r :: rs => by simp [addm, addm_len p l cs rs]
theorem addm_get (p l : Int) : ∀ (c r : List Int) (k : Nat) (a b : Int), c[k]? = some a → r[k]? = some b → (addm p l c r)[k]? = some ((a + l * b) % p)
  | _, [], k, _, _, _, h => by simp at h
  | [], _ :: _, k, _, _, h, _ => by simp at h
  | c :: cs, r :: rs, 0, a, b, h1, h2 => by
    simp only [List.getElem?_cons_zero, Option.some.injEq] at h1 h2
    subst h1 h2
    rfl
  | c :: cs, r :: rs, k + 1, a, b, h1, h2 => by
    simp only [List.getElem?_cons_succ] at h1 h2
    simp only [addm, List.getElem?_cons_succ]
    exact addm_get p l cs rs k a b h1 h2
theorem addm_drop (p l : Int) : ∀ (c r : List Int), (addm p l c r).drop r.length = c.drop r.length
  | c, [] => by unfold addm; rfl
  | [], _ :: _ => rfl
  | c :: cs, r :: rs => by
    simp only [addm, List.length_cons, List.drop_succ_cons]
    exact addm_drop p l cs rs
theorem addm_eval (p l y : Int) : ∀ (c r : List Int), r.length ≤ c.length → Eqm p (evalL (addm p l c r) y) (evalL c y + l * evalL r y)
  | c, [], _ => .of (by unfold addm; simp [evalL_nil])
  | [], _ :: _, h => by simp at h
  | c :: cs, r :: rs, h => by
    simp only [addm, evalL_cons]
    refine (eqm_mod.add (Eqm.refl.mul (addm_eval p l y cs rs (by simpa using h)))).trans (.of ?_)
    grind
end Py
end
section
set_option linter.all false
set_option maxRecDepth 100000
set_option maxHeartbeats 0
namespace Py
theorem one_nonneg (b : Bool) : 0 ≤ one b := by unfold one; split <;> decide
theorem sumN_le_one {q : Nat → Bool} : ∀ {n : Nat}, (∀ a b, a < n → b < n → q a = true → q b = true → a = b) → sumN n (fun k => one (q k)) ≤ 1
  | 0, _ => by simp [sumN]
  | n + 1, h => by
    have ih := sumN_le_one (q := q) (n := n) (fun a b ha hb => h a b (by omega) (by omega))
    rw [sumN]
    cases e : q n with
    | false => simpa [one] using ih
    | true =>
      have z : sumN n (fun k => one (q k)) = sumN n (fun _ => 0) := sumN_congr fun k hk => by
        cases e2 : q k with
        | false => rfl
        | true => exact absurd (h k n (by omega) (by omega) e2 e) (by omega)
      rw [z, sumN_zero]
      simp [one]
theorem sumN_pick (G : Nat → Int) (a P : Nat) (h : a < P) : sumN P (fun y => one (y == a) * G y) = G a := by
  have : sumN P (fun y => one (y == a) * G y) = sumN P (fun y => G a * one (y == a)) := sumN_congr fun k _ => by
    by_cases e : k = a
    · subst e; simp [one]
    · have : (k == a) = false := by simpa using e
      simp [this, one]
  rw [this, sumN_mul, sumN_one]
  simp [one, h]
theorem sumN_inj {G : Nat → Int} {φ : Nat → Nat} {P : Nat} (h0 : ∀ k, 0 ≤ G k) (h1 : ∀ k, k < P → φ k < P) (h2 : ∀ a b, a < P → b < P → φ a = φ b → a = b) : sumN P (fun k => G (φ k)) ≤ sumN P G := by
  have e : sumN P (fun k => G (φ k)) = sumN P (fun k => sumN P fun y => one (y == φ k) * G y) := sumN_congr fun k hk => (sumN_pick G (φ k) P (h1 k hk)).symm
  rw [e, sumN_swap]
  refine sumN_le fun y hy => ?_
  have e2 : sumN P (fun k => one (y == φ k) * G y) = sumN P (fun k => G y * one (y == φ k)) := sumN_congr fun k _ => Int.mul_comm _ _
  rw [e2, sumN_mul]
  have h3 : sumN P (fun k => one (y == φ k)) ≤ 1 := sumN_le_one fun a b ha hb qa qb => h2 a b ha hb (by
    have ea : y = φ a := by simpa using qa
    have eb : y = φ b := by simpa using qb
    omega)
  calc G y * sumN P (fun k => one (y == φ k)) ≤ G y * 1 := Int.mul_le_mul_of_nonneg_left h3 (h0 y)
    _ = G y := Int.mul_one _
namespace K55
theorem votes_range {V : Nat → Nat} {P k : Nat} : ∀ z ∈ votesL V P k, ∃ v, v < P ∧ z = (sumN k fun h => one (V h == v)) := by
  intro z hz
  unfold votesL at hz
  simp only [List.mem_map, List.mem_range] at hz
  obtain ⟨v, h1, rfl⟩ := hz
  exact ⟨v, h1, rfl⟩
theorem cnt_le (q : Nat → Bool) : ∀ n : Nat, sumN n (fun k => one (q k)) ≤ n
  | 0 => Int.le_refl _
  | n + 1 => by
    have := cnt_le q n
    rw [sumN]
    have : one (q n) ≤ 1 := by unfold one; split <;> decide
    omega
theorem votes_small {V : Nat → Nat} {P k : Nat} (hk : k < 1000) : ∀ z ∈ votesL V P k, 0 ≤ z ∧ z ≤ k := by
  intro z hz
  obtain ⟨v, _, rfl⟩ := votes_range z hz
  exact ⟨sumN_nonneg fun _ _ => one_nonneg _, cnt_le _ _⟩
theorem votes_sum {V : Nat → Nat} {P : Nat} (hV : ∀ h, h < P → V h < P) : (votesL V P P).sum = P := by
  unfold votesL
  rw [sum_range, ← sumN_swap (fun h v => one (V h == v))]
  have : sumN P (fun h => sumN P fun v => one (V h == v)) = sumN P (fun _ => 1) := sumN_congr fun h hh => by
    have e : sumN P (fun v => one (V h == v)) = sumN P (fun v => one (v == V h)) := sumN_congr fun v _ => by
      rw [show (V h == v) = (v == V h) from by rw [Bool.eq_iff_iff]; simp; exact ⟨Eq.symm, Eq.symm⟩]
    rw [e, sumN_one]
    simp [one, hV h hh]
  rw [this]
  have go : ∀ m : Nat, sumN m (fun _ => (1 : Int)) = m := fun m => by
    induction m with
    | zero => rfl
    | succ m ih => rw [sumN, ih]; omega
  exact go P
theorem invP : ∀ P ∈ [2, 3, 5, 7, 11, 13, 17, 19, 23, 29, 31, 37, 41, 43, 47, 53, 59, 61, 67, 71, 73, 79, 83, 89, 97, 101], ∀ m ∈ [1, 2, 3, 4, 5], m < P → ∃ j ∈ List.range P, (m * j) % P = 1 := by decide +kernel
theorem injP {p : Int} {P : Nat} (hP : p = P) (hp : p ∈ primes) (x i : Nat) (hi : i < 5) (hi2 : 1 + i < P) (a b : Nat) (ha : a < P) (hb : b < P) (h : (x + (1 + i) * a) % P = (x + (1 + i) * b) % P) : a = b := by
  have hp2 : P ∈ [2, 3, 5, 7, 11, 13, 17, 19, 23, 29, 31, 37, 41, 43, 47, 53, 59, 61, 67, 71, 73, 79, 83, 89, 97, 101] := by
    subst hP
    unfold primes at hp
    simp only [List.mem_cons, List.not_mem_nil, or_false] at hp ⊢
    omega
  obtain ⟨j, _, hj⟩ := invP P hp2 (1 + i) (by simp only [List.mem_cons, List.not_mem_nil, or_false]; omega) hi2
  have d : (P : Int) ∣ ((x + (1 + i) * a : Nat) : Int) - ((x + (1 + i) * b : Nat) : Int) := Int.dvd_of_emod_eq_zero (by
    have e : ((x + (1 + i) * a : Nat) : Int) % P = ((x + (1 + i) * b : Nat) : Int) % P := by exact_mod_cast h
    rw [Int.sub_emod, e]; simp)
  have d1 : (P : Int) ∣ (((1 + i) * j : Nat) : Int) - 1 := Int.dvd_of_emod_eq_zero (by
    have e : (((1 + i) * j : Nat) : Int) % P = 1 := by exact_mod_cast hj
    have : (1 : Int) % P = 1 := Int.emod_eq_of_lt (by omega) (by omega)
    rw [Int.sub_emod, e, this]; simp)
  have e : (a : Int) - b = j * (((x + (1 + i) * a : Nat) : Int) - ((x + (1 + i) * b : Nat) : Int)) - ((((1 + i) * j : Nat) : Int) - 1) * ((a : Int) - b) := by
    push_cast
    have : ∀ m j a b x : Int, a - b = j * (x + m * a - (x + m * b)) - (m * j - 1) * (a - b) := fun m j a b x => by
      rw [Int.sub_mul, Int.one_mul, show x + m * a - (x + m * b) = m * (a - b) by rw [Int.mul_sub]; omega, ← Int.mul_assoc, Int.mul_comm j m]
      omega
    exact this _ _ _ _ _
  have d2 : (P : Int) ∣ (a : Int) - b := by
    rw [e]
    exact Int.dvd_sub (Int.dvd_trans d (Int.dvd_mul_left _ _)) (Int.dvd_trans d1 (Int.dvd_mul_right _ _))
  obtain ⟨q, hq⟩ := d2
  have : q = 0 := by
    rcases Int.lt_trichotomy q 0 with y | y | y
    · have : (P : Int) * q ≤ (P : Int) * (-1) := Int.mul_le_mul_of_nonneg_left (by omega) (by omega)
      omega
    · exact y
    · have : (P : Int) * 1 ≤ (P : Int) * q := Int.mul_le_mul_of_nonneg_left (by omega) (by omega)
      omega
  subst this
  omega

/-- the sum along steps of a polynomial -/
theorem row_poly {d : Nat} (hd : d ≤ 4) {c : List Int} (hc : c.length = d + 1) (s X H : Int) : evalL c (X - s) + sumN (d + 1) (fun k => rAt (rowD d) (1 + k) * evalL c (X + ((1 + k : Nat) : Int) * H - s)) = 0 := by
  match d, c, hc, hd with
  | 0, [a], _, _ => simp [sumN, rAt, rowD, evalL_cons, evalL_nil] <;> grind
  | 1, [a, b], _, _ => simp [sumN, rAt, rowD, evalL_cons, evalL_nil] <;> grind
  | 2, [a, b, c], _, _ => simp [sumN, rAt, rowD, evalL_cons, evalL_nil] <;> grind
  | 3, [a, b, c, e], _, _ => simp [sumN, rAt, rowD, evalL_cons, evalL_nil] <;> grind
  | 4, [a, b, c, e, f], _, _ => simp [sumN, rAt, rowD, evalL_cons, evalL_nil] <;> grind
theorem sumN_eqm {p : Int} {f g : Nat → Int} : ∀ {n : Nat}, (∀ k, k < n → Eqm p (f k) (g k)) → Eqm p (sumN n f) (sumN n g)
  | 0, _ => rfl
  | n + 1, h => (sumN_eqm fun k hk => h k (by omega)).add (h n (by omega))
/-- t: the table's polynomial; err: where the table is another -/
def err (f : List Int) (P : Nat) (t : Int → Int) (z : Nat) : Bool := decide (fAt f P z ≠ t (z % P : Nat) % (P : Int))
theorem vote_good {p : Int} {P d X H : Nat} {f c : List Int} {s : Int} (hP : p = P) (h0 : 0 < P) (hd : d ≤ 4) (hc : c.length = d + 1) (h : ∀ k, k < d + 1 → err f P (fun n => evalL c (n - s)) ((X + (1 + k) * H) % P) = false) :
    voteN (rowD d) f P (d + 1) X H = (evalL c (X - s) % p).toNat := by
  unfold voteN
  congr 1
  subst hP
  show Eqm (P : Int) _ _
  have gp := good_poly (p := (P : Int)) hc hd s
  have e1 : Eqm (P : Int) (stepS (rowD d) f P 1 (d + 1) X H) (sumN (d + 1) (fun k => rAt (rowD d) (1 + k) * evalL c ((X : Int) + ((1 + k : Nat) : Int) * H - s))) := by
    unfold stepS
    refine sumN_eqm fun k hk => Eqm.refl.mul ?_
    have z := h k hk
    unfold err at z
    simp only [decide_eq_false_iff_not, ne_eq, Decidable.not_not, Nat.mod_mod] at z
    have z2 : fAt f P (X + (1 + k) * H) = evalL c (((X + (1 + k) * H) % P : Nat) - s) % (P : Int) := by
      rw [← z]; unfold fAt; rw [Nat.mod_mod]
    rw [z2]
    refine eqm_mod.trans ?_
    have := good_mod gp ((X + (1 + k) * H : Nat) : Int)
    have e : (((X + (1 + k) * H) % P : Nat) : Int) = ((X + (1 + k) * H : Nat) : Int) % (P : Int) := by simp
    rw [e]
    refine this.trans (.of ?_)
    congr 1
  have e2 := row_poly hd hc s (X : Int) (H : Int)
  have e3 := e1.neg
  refine e3.trans (.of ?_)
  omega
theorem votes_many {p : Int} {P d X : Nat} {f c : List Int} {s : Int} (hP : p = P) (hp : p ∈ primes) (hd : d ≤ 4) (hd2 : d + 2 ≤ P) (hc : c.length = d + 1) :
    (P : Int) - (d + 1 : Nat) * sumN P (fun y => one (err f P (fun n => evalL c (n - s)) y)) ≤ sumN P fun h => one (voteN (rowD d) f P (d + 1) X h == (evalL c (X - s) % p).toNat) := by
  have h0 : 0 < P := by omega
  have le1 : sumN P (fun h => (1 : Int) - sumN (d + 1) (fun k => one (err f P (fun n => evalL c (n - s)) ((X + (1 + k) * h) % P)))) ≤ sumN P fun h => one (voteN (rowD d) f P (d + 1) X h == (evalL c (X - s) % p).toNat) := by
    refine sumN_le fun h hh => ?_
    by_cases z : ∀ k, k < d + 1 → err f P (fun n => evalL c (n - s)) ((X + (1 + k) * h) % P) = false
    · rw [vote_good hP h0 hd hc z]
      have : 0 ≤ sumN (d + 1) (fun k => one (err f P (fun n => evalL c (n - s)) ((X + (1 + k) * h) % P))) := sumN_nonneg fun _ _ => one_nonneg _
      simp only [beq_self_eq_true]
      show _ ≤ (1 : Int)
      omega
    · have : 1 ≤ sumN (d + 1) (fun k => one (err f P (fun n => evalL c (n - s)) ((X + (1 + k) * h) % P))) := by
        have ex : ∃ k, k < d + 1 ∧ err f P (fun n => evalL c (n - s)) ((X + (1 + k) * h) % P) = true := Classical.byContradiction fun q => z fun k hk => by
          cases e : err f P (fun n => evalL c (n - s)) ((X + (1 + k) * h) % P) with
          | false => rfl
          | true => exact absurd ⟨k, hk, e⟩ q
        obtain ⟨k, hk, e⟩ := ex
        have := sumN_pick (fun k => one (err f P (fun n => evalL c (n - s)) ((X + (1 + k) * h) % P))) k (d + 1) hk
        have le : sumN (d + 1) (fun y => one (y == k) * one (err f P (fun n => evalL c (n - s)) ((X + (1 + y) * h) % P))) ≤ sumN (d + 1) (fun k => one (err f P (fun n => evalL c (n - s)) ((X + (1 + k) * h) % P))) := sumN_le fun y _ => by
          have a := one_nonneg (err f P (fun n => evalL c (n - s)) ((X + (1 + y) * h) % P))
          by_cases q : (y == k) = true
          · rw [q]; show (1 : Int) * _ ≤ _; omega
          · have q' : (y == k) = false := by simpa using q
            rw [q']; show (0 : Int) * _ ≤ _; omega
        rw [this, e] at le
        exact le
      have := one_nonneg (voteN (rowD d) f P (d + 1) X h == (evalL c (X - s) % p).toNat)
      omega
  refine Int.le_trans ?_ le1
  have e1 : sumN P (fun h => (1 : Int) - sumN (d + 1) (fun k => one (err f P (fun n => evalL c (n - s)) ((X + (1 + k) * h) % P)))) = P - sumN P (fun h => sumN (d + 1) (fun k => one (err f P (fun n => evalL c (n - s)) ((X + (1 + k) * h) % P)))) := by
    have := sumN_add (fun h => (1 : Int) - sumN (d + 1) (fun k => one (err f P (fun n => evalL c (n - s)) ((X + (1 + k) * h) % P)))) (fun h => sumN (d + 1) (fun k => one (err f P (fun n => evalL c (n - s)) ((X + (1 + k) * h) % P)))) P
    have go : ∀ m : Nat, sumN m (fun _ => (1 : Int)) = m := fun m => by
      induction m with
      | zero => rfl
      | succ m ih => rw [sumN, ih]; omega
    have e : sumN P (fun k => (1 : Int) - sumN (d + 1) (fun k_1 => one (err f P (fun n => evalL c (n - s)) ((X + (1 + k_1) * k) % P))) + sumN (d + 1) (fun k_1 => one (err f P (fun n => evalL c (n - s)) ((X + (1 + k_1) * k) % P)))) = P := by
      rw [← go P]
      exact sumN_congr fun k _ => by omega
    rw [e] at this
    omega
  rw [e1, sumN_swap]
  have le2 : sumN (d + 1) (fun k => sumN P (fun h => one (err f P (fun n => evalL c (n - s)) ((X + (1 + k) * h) % P)))) ≤ sumN (d + 1) (fun _ => sumN P (fun y => one (err f P (fun n => evalL c (n - s)) y))) := sumN_le fun k hk =>
    sumN_inj (G := fun y => one (err f P (fun n => evalL c (n - s)) y)) (φ := fun h => (X + (1 + k) * h) % P) (fun _ => one_nonneg _) (fun h _ => Nat.mod_lt _ h0) (fun a b ha hb e => injP hP hp X k (by omega) (by omega) a b ha hb e)
  have e2 : ∀ (m : Nat) (w : Int), sumN m (fun _ => w) = m * w := fun m w => by
    induction m with
    | zero => simp [sumN]
    | succ m ih => rw [sumN, ih, Int.natCast_succ, Int.add_mul]; omega
  rw [e2] at le2
  omega
end K55
end Py
end
section
set_option linter.all false
set_option maxRecDepth 100000
set_option maxHeartbeats 0
namespace Py
/-- y (y - 1) .., k factors -/
def fall (y : Int) : Nat → Int
  | 0 => 1
  | k + 1 => (y - k) * fall y k
theorem fall_0 {j : Nat} : ∀ {k : Nat}, j < k → fall (j : Int) k = 0
  | 0, h => by omega
  | k + 1, h => by
    rw [fall]
    by_cases z : j = k
    · subst z; rw [Int.sub_self, Int.zero_mul]
    · rw [fall_0 (show j < k by omega), Int.mul_zero]
namespace K55
theorem invAll : ∀ P ∈ [2, 3, 5, 7, 11, 13, 17, 19, 23, 29, 31, 37, 41, 43, 47, 53, 59, 61, 67, 71, 73, 79, 83, 89, 97, 101], (List.range P).all (fun m => m == 0 || (List.range P).any fun j => (m * j) % P == 1) = true := by decide +kernel
theorem primesN {p : Int} {P : Nat} (hP : p = P) (hp : p ∈ primes) : P ∈ [2, 3, 5, 7, 11, 13, 17, 19, 23, 29, 31, 37, 41, 43, 47, 53, 59, 61, 67, 71, 73, 79, 83, 89, 97, 101] := by
  subst hP
  unfold primes at hp
  simp only [List.mem_cons, List.not_mem_nil, or_false] at hp ⊢
  omega
theorem prime_lo {p : Int} (hp : p ∈ primes) : 2 ≤ p ∧ p ≤ 101 := by
  unfold primes at hp
  simp only [List.mem_cons, List.not_mem_nil, or_false] at hp
  omega
theorem inv_ex {p : Int} {P : Nat} (hP : p = P) (hp : p ∈ primes) {m : Int} (h0 : 0 < m) (h1 : m < p) : ∃ j : Int, 1 ≤ j ∧ j < p ∧ m * j % p = 1 := by
  have h := invAll P (primesN hP hp)
  rw [List.all_eq_true] at h
  have := h m.toNat (List.mem_range.mpr (by omega))
  rw [Bool.or_eq_true] at this
  rcases this with z | z
  · have : m.toNat = 0 := by simpa using z
    omega
  · rw [List.any_eq_true] at z
    obtain ⟨j, hj, e⟩ := z
    have hj' := List.mem_range.mp hj
    have e' : m.toNat * j % P = 1 := by simpa using e
    have e2 : m * j % p = 1 := by
      subst hP
      obtain ⟨M, rfl⟩ : ∃ M : Nat, m = M := ⟨m.toNat, by omega⟩
      have : ((M * j % P : Nat) : Int) = 1 := by rw [show M = ((M : Int)).toNat by omega]; exact_mod_cast e'
      exact_mod_cast this
    refine ⟨j, ?_, by omega, e2⟩
    rcases Nat.eq_zero_or_pos j with q | q
    · subst q; simp at e2
    · omega
theorem inverse_ok {p : Int} {P : Nat} (hP : p = P) (hp : p ∈ primes) {m : Int} (h0 : 0 ≤ m) (h1 : m < p) : ∃ v : Int, 0 ≤ v ∧ v < p ∧ (m ≠ 0 → m * v % p = 1) ∧ g_inverse_of [.a (.int p), .a (.int m)] = .ok (.d (.int v)) [] := by
  suffices k : ∃ r cs, g_inverse_of [.a (.int p), .a (.int m)] = .ok r cs ∧ ∃ v : Int, (r = .d (.int v) ∧ cs = []) ∧ 0 ≤ v ∧ v < p ∧ (m ≠ 0 → m * v % p = 1) by
    obtain ⟨r, cs, h, v, ⟨rfl, rfl⟩, h2, h3, h4⟩ := k
    exact ⟨v, h2, h3, h4, h⟩
  have hb := prime_lo hp
  have bp : big p = true := big_of (by omega) (by omega)
  have b1 : big 1 = true := by decide
  have sm : small64 m = true := small_of (by omega) (by omega)
  have hp0 : 0 < p := by omega
  rw [e_inverse_of]
  refine fin_ok ?_
  unfold b_inverse_of
  refine ok_seqc (ok_forR (fun k e => ∃ s2 : Sl, e = [.val (.int p), .val (.int m), s2] ∧ ∀ o : Int, 1 ≤ o → o < 1 + k → m * o % p ≠ 1) (ds := rngD 1 (p - 1).toNat) (by simp [bp, b1]; rfl) ⟨_, rfl, fun o h2 h3 => by omega⟩ ?_ ?_)
  · rintro k d e hd ⟨s2, rfl, ih⟩
    obtain ⟨hk, i, hi, rfl⟩ := rngD_at hd
    refine ⟨_, rfl, ?_⟩
    simp only [List.set_cons_succ, List.set_cons_zero]
    by_cases z : m * i % p = 1
    · refine ok_ifT (by simp [sm, hp0, z]; rfl) (ok_sret (by simp; exact ⟨rfl, rfl⟩) ?_)
      exact .inr (.inr ⟨_, rfl, fun h => by simp at h, fun _ => ⟨_, _, _, rfl, rfl, rfl, i, ⟨rfl, rfl⟩, by omega, by omega, fun _ => z⟩⟩)
    · refine ok_ifF (by simp [sm, hp0, z]; rfl) (.of rfl ?_)
      refine .inl ⟨.inl rfl, _, rfl, fun o h2 h3 => ?_⟩
      by_cases q : o = i
      · subst q; exact z
      · exact ih o h2 (by omega)
  · rintro e' ⟨s2, rfl, ih⟩
    rw [rngD_ln] at ih
    refine ⟨fun _ => ok_sret (by simp; exact ⟨rfl, rfl⟩) ⟨_, _, _, rfl, rfl, rfl, 0, ⟨rfl, rfl⟩, by omega, by omega, fun hm => ?_⟩, fun h => absurd rfl h⟩
    obtain ⟨j, j0, j1, j2⟩ := inv_ex hP hp (show 0 < m by omega) h1
    exact absurd j2 (ih j j0 (by omega))
theorem value_of_ok (p x : Int) (hp : 0 < p) (hx : small64 x = true) (c : List Int) (d0 : D) (hd0 : d0 = .lst (c.map .int) ∨ d0 = .tup (c.map .int)) : g_value_of [.a (.int p), .a d0, .a (.int x)] = .ok (.d (.int (evalL c x % p))) [] := by
  rw [e_value_of]
  refine fn_is ?_
  unfold b_value_of
  refine ok_step (by simp; rfl) ?_
  refine ok_seq (ok_for (e0 := [.val (.int p), .val d0, .val (.int x), .val (.int 0), .un]) (fun k e => ∃ s4 : Sl, e = [.val (.int p), .val d0, .val (.int x), .val (.int (evalL (c.drop (c.length - k)) x % p)), s4]) (ds := c.reverse.map .int) (by rcases hd0 with rfl | rfl <;> simp) ?_ ?_ ?_)
  · exact ⟨.un, by simp [evalL_nil]⟩
  · rintro k d e hd ⟨s4, rfl⟩
    have hk : k < c.length := by
      have := (List.getElem?_eq_some_iff.mp hd).1
      simpa using this
    have hk2 : c.length - 1 - k < c.length := by omega
    have g1 : c[c.length - 1 - k]? = some c[c.length - 1 - k] := List.getElem?_eq_getElem hk2
    have hd' : d = .int c[c.length - 1 - k] := by
      rw [List.getElem?_map, List.getElem?_reverse hk, g1] at hd
      simpa using hd.symm
    subst hd'
    have hs := hor_step c x p k _ g1 hk
    generalize evalL (c.drop (c.length - k)) x % p = t at hs ⊢
    generalize c[c.length - 1 - k] = a at hs g1 ⊢
    generalize evalL (c.drop (c.length - (k + 1))) x % p = t' at hs ⊢
    refine ⟨_, rfl, .of (a := .next) (e := [.val (.int p), .val d0, .val (.int x), .val (.int t'), .val (.int a)]) ?_ ⟨.inl rfl, _, rfl⟩⟩
    simp [hp, hx, hs]
  · rintro e' ⟨s4, rfl⟩
    rw [List.length_map, List.length_reverse, Nat.sub_self, List.drop_zero]
    exact ⟨rfl, ok_sret (by simp; exact ⟨rfl, rfl⟩) ⟨_, rfl, rfl, rfl⟩⟩
/-- one place after the other is made anew -/
theorem mend {l l2 : List Int} {k : Nat} {x : Int} (h : l.length = l2.length) (hx : l2[k]? = some x) : (l2.take k ++ l.drop k).set k x = l2.take (k + 1) ++ l.drop (k + 1) := by
  obtain ⟨hk, e⟩ := List.getElem?_eq_some_iff.mp hx
  rw [List.set_append_right _ _ (by simp; omega)]
  have : k - (l2.take k).length = 0 := by simp; omega
  rw [this, List.drop_eq_getElem_cons (show k < l.length by omega), List.set_cons_zero, List.take_add_one, hx]
  simp
theorem mend_get {l l2 : List Int} {k : Nat} (h : l.length = l2.length) (hk : k < l.length) : (l2.take k ++ l.drop k)[k]? = l[k]? := by
  rw [List.getElem?_append_right (by simp; omega)]
  have : k - (l2.take k).length = 0 := by simp; omega
  rw [this, List.getElem?_drop]
  rfl
theorem times_ok (p x : Int) (hp : 0 < p) (c : List Int) (hx : small64 x = true) (hl : c.length < 1000) : g_times_less [.a (.int p), .a (.lst (c.map .int)), .a (.int x)] = .ok (.fr (.lst ((tlr p x 0 c).map .int))) [] := by
  rw [e_times_less]
  refine fn_is ?_
  unfold b_times_less
  have l1 : 1 ≤ lim := by decide
  have l2 : c.length + 1 ≤ lim := by unfold lim; omega
  have e0 : D.int 0 :: c.map D.int = (0 :: c).map D.int := rfl
  refine ok_step (e' := [.val (.int p), .val (.lst (c.map .int)), .val (.int x), .own (.lst ((0 :: c).map .int)), .un, .un]) (by simp [l1, oAdd, Nat.add_comm 1, l2]) ?_
  have hlen : (0 :: c).length = (tlr p x 0 c).length := by rw [tlr_len]; rfl
  refine ok_seq (ok_for (e0 := [.val (.int p), .val (.lst (c.map .int)), .val (.int x), .own (.lst ((0 :: c).map .int)), .un, .un]) (fun k e => ∃ s4 s5 : Sl, e = [.val (.int p), .val (.lst (c.map .int)), .val (.int x), .own (.lst (((tlr p x 0 c).take k ++ (0 :: c).drop k).map .int)), s4, s5]) (ds := enumD (c.map .int)) (by simp) ?_ ?_ ?_)
  · exact ⟨_, _, rfl⟩
  · rintro k d e hd ⟨s4, s5, rfl⟩
    unfold enumD at hd
    rw [List.getElem?_map, List.getElem?_zipIdx, List.getElem?_map] at hd
    cases q : c[k]? with
    | none => rw [q] at hd; cases hd
    | some b =>
      rw [q] at hd
      have hd' : d = .tup [.int (k : Int), .int b] := by simpa using hd.symm
      subst hd'
      have hk := (List.getElem?_eq_some_iff.mp q).1
      obtain ⟨i, hi⟩ : ∃ i : Int, i = k := ⟨_, rfl⟩
      rw [← hi]
      have hk2 : k < (0 :: c).length := by simp; omega
      have g1 : (0 :: c)[k]? = some (0 :: c)[k] := List.getElem?_eq_getElem hk2
      have gt := tlr_get p x c 0 k _ b g1 q
      have gm := mend_get hlen hk2
      rw [g1] at gm
      have em := mend hlen gt
      have lm : ((tlr p x 0 c).take k ++ (0 :: c).drop k).length = c.length + 1 := by
        rw [List.length_append, List.length_take, List.length_drop, ← hlen]; simp; omega
      have i1 : ixn (c.length + 1) i = some k := by rw [ixn_at (by omega) (by omega)]; exact congrArg some (by omega)
      generalize (0 :: c)[k] = a at g1 gt gm em
      generalize ha : (a - x * b) % p = y at gt em
      refine ⟨_, rfl, ?_⟩
      refine .of (a := .next) (e := [.val (.int p), .val (.lst (c.map .int)), .val (.int x), .own (.lst (((tlr p x 0 c).take (k + 1) ++ (0 :: c).drop (k + 1)).map .int)), .val (.int i), .val (.int b)]) ?_ ⟨.inl rfl, _, _, rfl⟩
      rw [← em]
      generalize (tlr p x 0 c).take k ++ (0 :: c).drop k = L at gm lm
      simp [gTup, gNames, gName, hx, hp, lm, i1, gm, ha, cSet]
  · rintro e' ⟨s4, s5, rfl⟩
    have : ((tlr p x 0 c).take (enumD (c.map D.int)).length ++ (0 :: c).drop (enumD (c.map D.int)).length) = tlr p x 0 c := by
      rw [show (enumD (c.map D.int)).length = c.length by simp [enumD], ← tlr_last p x c 0, List.take_append_drop]
    rw [this]
    exact ⟨rfl, ok_sret (by simp; exact ⟨rfl, rfl⟩) ⟨_, rfl, rfl, rfl⟩⟩
end K55
end Py
end
section
set_option linter.all false
set_option maxRecDepth 100000
set_option maxHeartbeats 0
namespace Py
namespace K55
theorem fall_small : ∀ P ∈ ([2, 3, 5, 7, 11, 13, 17, 19, 23, 29, 31, 37, 41, 43, 47, 53, 59, 61, 67, 71, 73, 79, 83, 89, 97, 101] : List Nat), ∀ k ∈ ([0, 1, 2, 3, 4] : List Nat), k < P → fall (k : Int) k % (P : Int) ≠ 0 := by decide +kernel
theorem tlr_range {p x : Int} (hp : 0 < p) : ∀ {c : List Int} {prev m : Int}, p ≤ m → 0 ≤ prev → prev < m → (∀ z ∈ c, 0 ≤ z ∧ z < m) → ∀ z ∈ tlr p x prev c, 0 ≤ z ∧ z < m
  | [], prev, m, hm, h0, h1, _, z, hz => by
    have : z = prev := by simpa [tlr] using hz
    omega
  | a :: r, prev, m, hm, h0, h1, h2, z, hz => by
    have ha := h2 a (List.mem_cons_self ..)
    simp only [tlr, List.mem_cons] at hz
    rcases hz with rfl | hz
    · have := Int.emod_nonneg (prev - x * a) (show p ≠ 0 by omega)
      have := Int.emod_lt_of_pos (prev - x * a) hp
      omega
    · exact tlr_range hp hm ha.1 ha.2 (fun y hy => h2 y (List.mem_cons_of_mem _ hy)) z hz
theorem addm_range {p l : Int} (hp : 0 < p) : ∀ {c r : List Int}, (∀ z ∈ c, 0 ≤ z ∧ z < p) → ∀ z ∈ addm p l c r, 0 ≤ z ∧ z < p
  | c, [], h, z, hz => by unfold addm at hz; exact h z hz
  | [], _ :: _, _, z, hz => by simp [addm] at hz
  | c :: cs, r :: rs, h, z, hz => by
    simp only [addm, List.mem_cons] at hz
    rcases hz with rfl | hz
    · exact ⟨Int.emod_nonneg _ (by omega), Int.emod_lt_of_pos _ hp⟩
    · exact addm_range hp (fun y hy => h y (List.mem_cons_of_mem _ hy)) z hz
/-- the inner loop: the curve gets l times the product -/
theorem inner_ok (p l : Int) (hp : 0 < p) (hp2 : p < 1000) (C R : List Int) (hR : R.length ≤ C.length) (hC : C.length < 1000) (hr : ∀ z ∈ R, small64 z = true) (n : Nat) (s1 s4 s5 s9 : Sl) (a7 a8 : Sl) (s3 : Sl) (h3 : s3 = .own (.lst (R.map .int)) ∨ s3 = .val (.lst (R.map .int))) :
    ∃ s7 s8, sFor (iEnum (eVar 3)) (gTup [7, 8]) (sPut (eOp oMod (eOp oAdd (eOp oIx (eVar 2) (eVar 7)) (eOp oMul (eVar 6) (eVar 8))) (eVar 0)) (eVar 2) (eVar 7))
      [.val (.int p), s1, .own (.lst (C.map .int)), s3, s4, s5, .val (.int l), a7, a8, s9] = .ok .next [.val (.int p), s1, .own (.lst ((addm p l C R).map .int)), .val (.lst (R.map .int)), s4, s5, .val (.int l), s7, s8, s9] := by
  have hlen : C.length = (addm p l C R).length := (addm_len p l C R).symm
  have key : Ok (sFor (iEnum (eVar 3)) (gTup [7, 8]) (sPut (eOp oMod (eOp oAdd (eOp oIx (eVar 2) (eVar 7)) (eOp oMul (eVar 6) (eVar 8))) (eVar 0)) (eVar 2) (eVar 7))
      [.val (.int p), s1, .own (.lst (C.map .int)), s3, s4, s5, .val (.int l), a7, a8, s9]) fun c e' => c = .next ∧ ∃ s7 s8, e' = [.val (.int p), s1, .own (.lst ((addm p l C R).map .int)), .val (.lst (R.map .int)), s4, s5, .val (.int l), s7, s8, s9] := by
    refine ok_for (e0 := [.val (.int p), s1, .own (.lst (C.map .int)), .val (.lst (R.map .int)), s4, s5, .val (.int l), a7, a8, s9]) (fun k e => ∃ s7 s8 : Sl, e = [.val (.int p), s1, .own (.lst (((addm p l C R).take k ++ C.drop k).map .int)), .val (.lst (R.map .int)), s4, s5, .val (.int l), s7, s8, s9]) (ds := enumD (R.map .int)) (by rcases h3 with rfl | rfl <;> simp) ⟨_, _, rfl⟩ ?_ ?_
    · rintro k d e hd ⟨s7, s8, rfl⟩
      unfold enumD at hd
      rw [List.getElem?_map, List.getElem?_zipIdx, List.getElem?_map] at hd
      cases q : R[k]? with
      | none => rw [q] at hd; cases hd
      | some b =>
        rw [q] at hd
        have hd' : d = .tup [.int (k : Int), .int b] := by simpa using hd.symm
        subst hd'
        have hk := (List.getElem?_eq_some_iff.mp q).1
        obtain ⟨i, hi⟩ : ∃ i : Int, i = k := ⟨_, rfl⟩
        rw [← hi]
        have hk2 : k < C.length := by omega
        have g1 : C[k]? = some C[k] := List.getElem?_eq_getElem hk2
        have gt := addm_get p l C R k _ b g1 q
        have gm := mend_get hlen hk2
        rw [g1] at gm
        have em := mend hlen gt
        have lm : ((addm p l C R).take k ++ C.drop k).length = C.length := by
          rw [List.length_append, List.length_take, List.length_drop, ← hlen]; omega
        have i1 : ixn C.length i = some k := by rw [ixn_at (by omega) (by omega)]; exact congrArg some (by omega)
        have sb : small64 b = true := hr b (List.mem_of_getElem? q)
        generalize C[k] = a at g1 gt gm em
        generalize ha : (a + l * b) % p = y at gt em
        refine ⟨_, rfl, ?_⟩
        refine .of (a := .next) (e := [.val (.int p), s1, .own (.lst (((addm p l C R).take (k + 1) ++ C.drop (k + 1)).map .int)), .val (.lst (R.map .int)), s4, s5, .val (.int l), .val (.int i), .val (.int b), s9]) ?_ ⟨.inl rfl, _, _, rfl⟩
        rw [← em]
        generalize (addm p l C R).take k ++ C.drop k = L at gm lm
        simp [gTup, gNames, gName, sb, hp, lm, i1, gm, ha, cSet]
    · rintro e' ⟨s7, s8, rfl⟩
      have : ((addm p l C R).take (enumD (R.map D.int)).length ++ C.drop (enumD (R.map D.int)).length) = addm p l C R := by
        rw [show (enumD (R.map D.int)).length = R.length by simp [enumD], ← addm_drop p l C R, List.take_append_drop]
      rw [this]
      exact ⟨rfl, _, _, rfl⟩
  obtain ⟨c, e', h1, rfl, s7, s8, rfl⟩ := key
  exact ⟨s7, s8, h1⟩
theorem through_ok (p : Int) (P : Nat) (hP : p = P) (hp : p ∈ primes) (vs : List Int) (h5 : vs.length ≤ 5) (hvp : vs.length ≤ P) (hv : ∀ z ∈ vs, 0 ≤ z ∧ z < p) :
    ∃ C : List Int, C.length = vs.length ∧ (∀ z ∈ C, 0 ≤ z ∧ z < p) ∧ (∀ (j : Nat) v, vs[j]? = some v → Eqm p (evalL C j) v) ∧ g_curve_through [.a (.int p), .a (.lst (vs.map .int))] = .ok (.d (.tup (C.map .int))) [] := by
  suffices k : ∃ r cs, g_curve_through [.a (.int p), .a (.lst (vs.map .int))] = .ok r cs ∧ ∃ C : List Int, (r = .d (.tup (C.map .int)) ∧ cs = []) ∧ C.length = vs.length ∧ (∀ z ∈ C, 0 ≤ z ∧ z < p) ∧ (∀ (j : Nat) v, vs[j]? = some v → Eqm p (evalL C j) v) by
    obtain ⟨r, cs, h, C, ⟨rfl, rfl⟩, h2, h3, h4⟩ := k
    exact ⟨C, h2, h3, h4, h⟩
  have hb := prime_lo hp
  have hp0 : 0 < p := by omega
  have l1 : 1 ≤ lim := by decide
  rw [e_curve_through]
  refine fin_ok ?_
  unfold b_curve_through
  have hc := comp_map (i := iSeq (eVar 1)) (g := gName 9) (t := tYes) (b := eC (.int 0)) (vs := [9]) (e := [.val (.int p), .val (.lst (vs.map .int)), .un, .un, .un, .un, .un, .un, .un, .un]) (e1 := [.val (.int p), .val (.lst (vs.map .int)), .un, .un, .un, .un, .un, .un, .un, .un]) (ds := vs.map .int)
    (fun _ => .int 0) (fun _ => true) (by simp) (by simp [lim]; omega) (fun d hd => ⟨_, rfl, rfl, rfl, fun _ => rfl⟩)
  rw [List.filter_eq_self.mpr (by simp)] at hc
  have e1 : (vs.map D.int).map (fun _ => D.int 0) = (List.replicate vs.length (0 : Int)).map D.int := by
    rw [List.map_map, List.map_replicate, List.eq_replicate_iff]
    simp
  rw [e1] at hc
  refine ok_step (by rw [sSet_u, bnd_ok hc]; simp only [put_fr, unwipe_cons, unwipe_nil, wipe_cons, wipe_nil]; rfl) ?_
  refine ok_step (by simp [l1]; rfl) ?_
  refine ok_seq (ok_for (e0 := [.val (.int p), .val (.lst (vs.map .int)), .own (.lst ((List.replicate vs.length (0 : Int)).map .int)), .own (.lst (([1] : List Int).map .int)), .un, .un, .un, .un, .un, .un]) (fun k e => ∃ (C R : List Int) (s4 s5 s6 s7 s8 s9 : Sl), e = [.val (.int p), .val (.lst (vs.map .int)), .own (.lst (C.map .int)), .own (.lst (R.map .int)), s4, s5, s6, s7, s8, s9] ∧
      C.length = vs.length ∧ R.length = k + 1 ∧ (∀ z ∈ C, 0 ≤ z ∧ z < p) ∧ (∀ z ∈ R, 0 ≤ z ∧ z < 1000) ∧ (∀ (j : Nat) v, j < k → vs[j]? = some v → Eqm p (evalL C j) v) ∧ ∀ y, Eqm p (evalL R y) (fall y k)) (ds := enumD (vs.map .int)) (by simp) ?_ ?_ ?_)
  · refine ⟨_, [1], _, _, _, _, _, _, rfl, by simp, rfl, fun z hz => ?_, fun z hz => ?_, fun j v hj => by omega, fun y => .of (by simp [evalL_cons, evalL_nil, fall])⟩
    · have := (List.mem_replicate.mp hz).2
      omega
    · have : z = 1 := by simpa using hz
      omega
  · rintro k d e hd ⟨C, R, s4, s5, s6, s7, s8, s9, rfl, hC, hR, rC, rR, hv1, hf⟩
    unfold enumD at hd
    rw [List.getElem?_map, List.getElem?_zipIdx, List.getElem?_map] at hd
    cases q : vs[k]? with
    | none => rw [q] at hd; cases hd
    | some v =>
      rw [q] at hd
      have hd' : d = .tup [.int (k : Int), .int v] := by simpa using hd.symm
      subst hd'
      have hk := (List.getElem?_eq_some_iff.mp q).1
      obtain ⟨i, hi⟩ : ∃ i : Int, i = k := ⟨_, rfl⟩
      rw [← hi]
      have si : small64 i = true := small_of (by omega) (by omega)
      have v1 := value_of_ok p i hp0 si C _ (.inl rfl)
      have v2 := value_of_ok p i hp0 si R _ (.inl rfl)
      have rem0 : ∀ a : Int, 0 ≤ a % p ∧ a % p < p := fun a => ⟨Int.emod_nonneg _ (by omega), Int.emod_lt_of_pos _ hp0⟩
      obtain ⟨w, w0, w1, w2, v3⟩ := inverse_ok hP hp (rem0 (evalL R i)).1 (rem0 (evalL R i)).2
      have hvr := hv v (List.mem_of_getElem? q)
      obtain ⟨lk, hlk⟩ : ∃ lk : Int, lk = (v - evalL C i % p) * w := ⟨_, rfl⟩
      have sw : small64 w = true := small_of (by omega) (by omega)
      refine ⟨_, rfl, ?_⟩
      have st : (sSet 6 (eOp oMul (eOp oSub (eVar 5) (eCallV g_value_of (aConsF (eVar 0) (aCons (eVar 2) (aConsF (eVar 4) aNil))))) (eCall g_inverse_of [] (aConsF (eVar 0) (aConsF (eCallV g_value_of (aConsF (eVar 0) (aCons (eVar 3) (aConsF (eVar 4) aNil)))) aNil))))) [.val (.int p), .val (.lst (vs.map .int)), .own (.lst (C.map .int)), .own (.lst (R.map .int)), .val (.int i), .val (.int v), s6, s7, s8, s9]
        = .ok .next [.val (.int p), .val (.lst (vs.map .int)), .own (.lst (C.map .int)), .own (.lst (R.map .int)), .val (.int i), .val (.int v), .val (.int lk), s7, s8, s9] := by
        generalize evalL C i % p = a1 at v1 hlk
        generalize evalL R i % p = a2 at v2 v3
        simp [v1, v2, v3, sw, hlk]
      refine ok_step st ?_
      obtain ⟨t7, t8, hin⟩ := inner_ok p lk hp0 (by omega) C R (by omega) (by omega) (fun z hz => small_of (by have := rR z hz; omega) (by have := rR z hz; omega)) vs.length (.val (.lst (vs.map .int))) (.val (.int i)) (.val (.int v)) s9 s7 s8 _ (.inl rfl)
      refine ok_step hin ?_
      have ht := times_ok p i hp0 R si (by omega)
      refine .of (a := .next) (e := [.val (.int p), .val (.lst (vs.map .int)), .own (.lst ((addm p lk C R).map .int)), .own (.lst ((tlr p i 0 R).map .int)), .val (.int i), .val (.int v), .val (.int lk), t7, t8, s9]) (by simp [ht]) ⟨.inl rfl, _, _, _, _, _, _, _, _, rfl, by rw [addm_len, hC], by rw [tlr_len, hR], addm_range hp0 rC, tlr_range hp0 (by omega) (by omega) (by omega) rR, fun j v' hj hv' => ?_, fun y => ?_⟩
      · refine (addm_eval p lk j C R (by omega)).trans ?_
        rcases Nat.lt_succ_iff_lt_or_eq.mp hj with hj | rfl
        · have z := hf (j : Int)
          rw [fall_0 hj] at z
          refine ((hv1 j v' hj hv').add (Eqm.refl.mul z)).trans (.of ?_)
          rw [Int.mul_zero, Int.add_zero]
        · rw [q] at hv'
          cases hv'
          rw [hi] at hlk w2
          have nz : evalL R j % p ≠ 0 := by
            have z : evalL R j % p = fall (j : Int) j % p := hf (j : Int)
            rw [z, hP]
            exact fall_small P (primesN hP hp) j (by simp only [List.mem_cons, List.not_mem_nil, or_false]; omega) (by omega)
          have w3 := w2 nz
          have e2 : Eqm p (w * evalL R j) 1 := by
            have a : Eqm p (evalL R j % p * w) 1 := by
              show _ % p = 1 % p
              rw [w3, Int.emod_eq_of_lt (by omega) (by omega)]
            exact (Eqm.of (Int.mul_comm _ _)).trans ((eqm_mod.symm.mul Eqm.refl).trans a)
          rw [hlk]
          have e3 : Eqm p ((v - evalL C j % p) * w * evalL R j) ((v - evalL C j) * 1) := by
            rw [Int.mul_assoc]
            exact (Eqm.refl.sub eqm_mod).mul e2
          refine (Eqm.refl.add e3).trans (.of ?_)
          omega
      · refine (tlr_eval p i y R 0).trans ?_
        rw [fall, Int.zero_add, hi]
        exact Eqm.refl.mul (hf y)
  · rintro e' ⟨C, R, s4, s5, s6, s7, s8, s9, rfl, hC, hR, rC, rR, hv1, hf⟩
    refine ⟨rfl, ok_sret (by simp; exact ⟨rfl, rfl⟩) ⟨_, _, _, rfl, rfl, rfl, C, ⟨rfl, rfl⟩, hC, rC, fun j v hj => hv1 j v ?_ hj⟩⟩
    have := (List.getElem?_eq_some_iff.mp hj).1
    simpa [enumD] using this
end K55
end Py
end
section
set_option linter.all false
set_option maxRecDepth 100000
set_option maxHeartbeats 0
namespace Py
theorem foldl_max (r : List Int) : ∀ v : Int, (r.foldl max v = v ∨ r.foldl max v ∈ r) ∧ v ≤ r.foldl max v ∧ ∀ x ∈ r, x ≤ r.foldl max v := by
  induction r with
  | nil => exact fun v => ⟨.inl rfl, Int.le_refl _, by simp⟩
  | cons a r ih =>
    intro v
    rw [List.foldl_cons]
    obtain ⟨h1, h2, h3⟩ := ih (max v a)
    refine ⟨?_, by omega, fun x hx => ?_⟩
    · rcases h1 with h1 | h1
      · rw [h1]
        rcases Int.le_total v a with z | z
        · rw [Int.max_eq_right z]; exact .inr (List.mem_cons_self ..)
        · rw [Int.max_eq_left z]; exact .inl rfl
      · exact .inr (List.mem_cons_of_mem _ h1)
    · rcases List.mem_cons.mp hx with rfl | hx
      · omega
      · exact h3 x hx
/-- the greatest of a row -/
def IsMax (V : List Int) (M : Int) : Prop := M ∈ V ∧ ∀ x ∈ V, x ≤ M
theorem max_of {V : List Int} (h : V ≠ []) : ∃ M, IsMax V M ∧ bMax [.tup (V.map .int)] = some (.d (.int M)) ∧ bMax [.lst (V.map .int)] = some (.d (.int M)) := by
  match V, h with
  | v :: r, _ =>
    obtain ⟨h1, h2, h3⟩ := foldl_max r v
    refine ⟨r.foldl max v, ⟨?_, fun x hx => ?_⟩, ?_, ?_⟩
    · rcases h1 with h1 | h1
      · rw [h1]; exact List.mem_cons_self ..
      · exact List.mem_cons_of_mem _ h1
    · rcases List.mem_cons.mp hx with rfl | hx
      · exact h2
      · exact h3 x hx
    · show (ints? ((v :: r).map .int)).bind (mmI max) = _
      rw [ints_map]; rfl
    · show (ints? ((v :: r).map .int)).bind (mmI max) = _
      rw [ints_map]; rfl
namespace K55
def apart (p : Int) (P : Nat) (c f : List Int) : List Nat := (List.range P).filter fun x => decide (evalL c (x : Int) % p ≠ f.getD x 0)
theorem getD_at {f : List Int} {k : Nat} (h : k < f.length) : f[k]? = some (f.getD k 0) := by
  simp [List.getD, h]
theorem apart_comp {p : Int} {P : Nat} (hP : p = P) (h0 : 0 < P) (hP2 : P < 1000) {c f : List Int} (hf : Tab p P f) : (rngD 0 P).filter (fun d => match d with | .int i => decide (evalL c i % p ≠ f.getD i.toNat 0) | _ => false) = ((apart p P c f).map fun (x : Nat) => D.int (x : Int)) := by
  unfold apart rngD
  rw [List.filter_map]
  have : (List.filter ((fun d => match d with | .int i => decide (evalL c i % p ≠ f.getD i.toNat 0) | _ => false) ∘ fun (k : Nat) => D.int (0 + (k : Int))) (List.range P)) = (List.range P).filter fun (x : Nat) => decide (evalL c (x : Int) % p ≠ f.getD x 0) := List.filter_congr fun x _ => by simp
  rw [this]
  refine List.map_congr_left fun x _ => by simp
theorem apart_ok (p : Int) (P : Nat) (hP : p = P) (h0 : 0 < P) (hP2 : P < 1000) (c f : List Int) (hf : Tab p P f) : g_places_apart [.a (.int p), .a (.tup (c.map .int)), .a (.tup (f.map .int))] = .ok (.d (.tup ((apart p P c f).map fun (x : Nat) => D.int (x : Int)))) [] := by
  rw [e_places_apart]
  refine fn_is ?_
  unfold b_places_apart
  have bp : big p = true := big_of (by omega) (by omega)
  have hc := comp_map (i := iRng1 (eVar 0)) (g := gName 3) (t := tBl (eOp oNe (eCall g_value_of [] (aConsF (eVar 0) (aConsF (eVar 1) (aConsF (eVar 3) aNil)))) (eOp oIx (eVar 2) (eVar 3)))) (b := eVar 3) (vs := [3])
    (e := [.val (.int p), .val (.tup (c.map .int)), .val (.tup (f.map .int)), .un]) (e1 := [.val (.int p), .val (.tup (c.map .int)), .val (.tup (f.map .int)), .un]) (ds := rngD 0 P) (fun d => d) (fun d => match d with | .int i => decide (evalL c i % p ≠ f.getD i.toNat 0) | _ => false) (by simp [bp, lenI hP]) (by rw [rngD_ln]; unfold lim; omega) (fun d hd => by
      obtain ⟨k, hk, rfl⟩ := rngD_mem hd
      obtain ⟨i, hi⟩ : ∃ i : Int, i = 0 + (k : Int) := ⟨_, rfl⟩
      rw [← hi]
      have hv := value_of_ok p i (by omega) (small_of (by omega) (by omega)) c _ (.inr rfl)
      have hk' : i.toNat < f.length := by rw [hf.len]; omega
      have i1 : ixn f.length i = some i.toNat := ixn_at (by omega) (by omega)
      have g1 := getD_at hk'
      generalize ha : evalL c i % p = a at hv ⊢
      generalize hb : f.getD i.toNat 0 = b at g1 ⊢
      refine ⟨_, rfl, ?_, rfl, fun _ => rfl⟩
      simp only [ha, hb]
      simp [hv, i1, g1])
  rw [List.map_id', apart_comp hP h0 hP2 hf] at hc
  refine ok_sret (w := .d (.tup ((apart p P c f).map fun (x : Nat) => D.int (x : Int)))) (e' := [.val (.int p), .val (.tup (c.map .int)), .val (.tup (f.map .int)), .un]) ?_ ⟨_, rfl, rfl, rfl⟩
  rw [eB_u, bnd_u, aCons_u, bnd_ok hc]
  simp
theorem row_g (f : List Int) (n b : Int) (hn : n = f.length) (hf : ∀ z ∈ f, 0 ≤ z ∧ z < b) : g_row_below [.a (.tup (f.map .int)), .a (.int n), .a (.int b)] = .ok (.d (.bl true)) [] := by
  rw [e_row_below]
  refine fn_is ?_
  unfold b_row_below
  refine ok_step (by simp [isT, ← hn]; rfl) ?_
  refine ok_seq (ok_for (fun k e => ∃ s : Sl, e = [.val (.tup (f.map .int)), .val (.int n), .val (.int b), s]) (ds := f.map .int) (by simp; rfl) ?_ ?_ ?_)
  · exact ⟨_, rfl⟩
  · rintro k d e hd ⟨s, rfl⟩
    obtain ⟨i, hi, rfl⟩ : ∃ i, i ∈ f ∧ D.int i = d := List.mem_map.mp (List.mem_of_getElem? hd)
    refine ⟨_, rfl, .of (by simp [is_below_ok i b (hf i hi).1 (hf i hi).2]; exact ⟨rfl, rfl⟩) ?_⟩
    exact ⟨.inl rfl, _, rfl⟩
  · rintro e' ⟨s, rfl⟩
    exact ⟨rfl, ok_sret (by simp; exact ⟨rfl, rfl⟩) ⟨_, rfl, rfl, rfl⟩⟩
theorem is_curve_ok (p : Int) (c : List Int) (h1 : 1 ≤ c.length) (h5 : c.length ≤ 5) (hc : ∀ z ∈ c, 0 ≤ z ∧ z < p) : g_is_curve [.a (.int p), .a (.tup (c.map .int))] = .ok (.d (.bl true)) [] := by
  rw [e_is_curve]
  refine fn_is ?_
  unfold b_is_curve
  have a1 : (1 : Int) ≤ c.length := by omega
  have a5 : (c.length : Int) ≤ 5 := by omega
  exact ok_sret (by simp [isT, a1, a5, row_g c _ p rfl hc]; exact ⟨rfl, rfl⟩) ⟨_, rfl, rfl, rfl⟩
theorem value_at_ok (p x : Int) (hp : p ∈ primes) (c : List Int) (h1 : 1 ≤ c.length) (h5 : c.length ≤ 5) (hc : ∀ z ∈ c, 0 ≤ z ∧ z < p) (x0 : 0 ≤ x) (x1 : x < p) : g_value_at [.a (.int p), .a (.tup (c.map .int)), .a (.int x)] = .ok (.d (.int (evalL c x % p))) [] := by
  have hb := prime_lo hp
  rw [e_value_at]
  refine fn_is ?_
  unfold b_value_at
  refine ok_step (by simp [check_prime_ok p hp]; rfl) ?_
  refine ok_step (by simp [is_curve_ok p c h1 h5 hc]; rfl) ?_
  refine ok_step (by simp [is_below_ok x p x0 x1]; rfl) ?_
  exact ok_sret (by simp [value_of_ok p x (by omega) (small_of (by omega) (by omega)) c _ (.inr rfl)]; exact ⟨rfl, rfl⟩) ⟨_, rfl, rfl, rfl⟩
theorem wrong_on_ok (p : Int) (P : Nat) (hP : p = P) (hp : p ∈ primes) (c f : List Int) (h1 : 1 ≤ c.length) (h5 : c.length ≤ 5) (hc : ∀ z ∈ c, 0 ≤ z ∧ z < p) (hf : Tab p P f) : g_wrong_on [.a (.int p), .a (.tup (c.map .int)), .a (.tup (f.map .int))] = .ok (.d (.tup ((apart p P c f).map fun (x : Nat) => D.int (x : Int)))) [] := by
  have hb := prime_lo hp
  rw [e_wrong_on]
  refine fn_is ?_
  unfold b_wrong_on
  refine ok_step (by simp [check_prime_ok p hp]; rfl) ?_
  refine ok_step (by simp [is_curve_ok p c h1 h5 hc]; rfl) ?_
  refine ok_step (by simp [row_below_ok p P hP f hf]; rfl) ?_
  exact ok_sret (by simp [apart_ok p P hP (by omega) (by omega) c f hf]; exact ⟨rfl, rfl⟩) ⟨_, rfl, rfl, rfl⟩
/-- m is the first place of the greatest -/
structure ArgM (V : List Int) (m : Int) : Prop where
  lo : 0 ≤ m
  up : m < V.length
  mx : IsMax V (V.getD m.toNat 0)
theorem arg_ok {p : Int} {P : Nat} (hP : p = P) (h0 : 0 < P) (hP2 : P < 1000) (V : List Int) (hV : V.length = P) (a1 a2 a3 a4 a6 a7 : Sl) : ∃ m : Int, ArgM V m ∧
    (eOp oIx (eComp (iRng1 (eVar 0)) (gName 7) (tBl (eOp oEq (eOp oIx (eVar 5) (eVar 7)) (eB bMax (aCons (eVar 5) aNil)))) (eVar 7) [7]) (eC (.int 0))) [.val (.int p), a1, a2, a3, a4, .val (.tup (V.map .int)), a6, a7] = .ok (.d (.int m)) [.val (.int p), a1, a2, a3, a4, .val (.tup (V.map .int)), a6, a7] := by
  have bp : big p = true := big_of (by omega) (by omega)
  obtain ⟨M, hM, hb, _⟩ := max_of (V := V) (fun z => by rw [z] at hV; simp at hV; omega)
  have hc := comp_map (i := iRng1 (eVar 0)) (g := gName 7) (t := tBl (eOp oEq (eOp oIx (eVar 5) (eVar 7)) (eB bMax (aCons (eVar 5) aNil)))) (b := eVar 7) (vs := [7]) (e := [.val (.int p), a1, a2, a3, a4, .val (.tup (V.map .int)), a6, a7]) (e1 := [.val (.int p), a1, a2, a3, a4, .val (.tup (V.map .int)), a6, a7]) (ds := rngD 0 P)
    (fun d => d) (fun d => match d with | .int i => decide (V.getD i.toNat 0 = M) | _ => false) (by simp [bp, lenI hP]) (by rw [rngD_ln]; unfold lim; omega) (fun d hd => by
      obtain ⟨k, hk, rfl⟩ := rngD_mem hd
      obtain ⟨i, hi⟩ : ∃ i : Int, i = 0 + (k : Int) := ⟨_, rfl⟩
      rw [← hi]
      have hk' : i.toNat < V.length := by omega
      have i1 : ixn V.length i = some i.toNat := ixn_at (by omega) (by omega)
      have g1 := getD_at hk'
      generalize hb2 : V.getD i.toNat 0 = b at g1 ⊢
      refine ⟨_, rfl, ?_, rfl, fun _ => rfl⟩
      simp only [hb2]
      simp [i1, g1, hb])
  rw [List.map_id'] at hc
  obtain ⟨j, hj, ej⟩ := List.mem_iff_getElem.mp hM.1
  have mem : D.int (j : Int) ∈ (rngD 0 P).filter (fun d => match d with | .int i => decide (V.getD i.toNat 0 = M) | _ => false) := by
    rw [List.mem_filter]
    refine ⟨List.mem_map.mpr ⟨j, List.mem_range.mpr (by omega), by simp⟩, ?_⟩
    simp [List.getD, hj, ej]
  have hd : ∃ (m : Int) (rest : List D), (rngD 0 P).filter (fun d => match d with | .int i => decide (V.getD i.toNat 0 = M) | _ => false) = .int m :: rest ∧ 0 ≤ m ∧ m < P ∧ V.getD m.toNat 0 = M := by
    cases q : (rngD 0 P).filter (fun d => match d with | .int i => decide (V.getD i.toNat 0 = M) | _ => false) with
    | nil => rw [q] at mem; simp at mem
    | cons d rest =>
      have hm : d ∈ (rngD 0 P).filter (fun d => match d with | .int i => decide (V.getD i.toNat 0 = M) | _ => false) := by rw [q]; exact List.mem_cons_self ..
      rw [List.mem_filter] at hm
      obtain ⟨h1, h2⟩ := hm
      obtain ⟨k, hk, rfl⟩ := rngD_mem h1
      exact ⟨_, rest, rfl, by omega, by omega, by simpa using h2⟩
  obtain ⟨m, rest, e1, m0, m1, m2⟩ := hd
  rw [e1] at hc
  refine ⟨m, ⟨m0, by omega, by rw [m2]; exact hM⟩, ?_⟩
  rw [eOp_u, bnd_ok hc]
  have i0 : ixn (rest.length + 1) 0 = some 0 := ixn_at (by omega) (by omega)
  simp [i0]
theorem close_curve_ok (p d : Int) (P Dn : Nat) (hP : p = P) (hp : p ∈ primes) (hd : d = Dn) (hD : Dn ≤ 4) (hD2 : Dn + 2 ≤ P) (f : List Int) (hf : Tab p P f) :
    ∃ C : List Int, C.length = Dn + 1 ∧ (∀ z ∈ C, 0 ≤ z ∧ z < p) ∧ (∀ X : Nat, X ≤ Dn → ∃ m, ArgM (votesL (voteN (rowD Dn) f P (Dn + 1) X) P P) m ∧ Eqm p (evalL C X) m) ∧
      g_close_curve [.a (.int p), .a (.int d), .a (.tup (f.map .int))] = .ok (.d (if 2 * (d + 1) * (apart p P C f).length < p then .tup (C.map .int) else .non)) [] := by
  suffices k : ∃ r cs, g_close_curve [.a (.int p), .a (.int d), .a (.tup (f.map .int))] = .ok r cs ∧ ∃ C : List Int, (r = .d (if 2 * (d + 1) * (apart p P C f).length < p then .tup (C.map .int) else .non) ∧ cs = []) ∧ C.length = Dn + 1 ∧ (∀ z ∈ C, 0 ≤ z ∧ z < p) ∧ (∀ X : Nat, X ≤ Dn → ∃ m, ArgM (votesL (voteN (rowD Dn) f P (Dn + 1) X) P P) m ∧ Eqm p (evalL C X) m) by
    obtain ⟨r, cs, h, C, ⟨rfl, rfl⟩, h2, h3, h4⟩ := k
    exact ⟨C, h2, h3, h4, h⟩
  have hb := prime_lo hp
  have bd : big (d + 1) = true := big_of (by omega) (by omega)
  have sd : small64 (2 * (d + 1)) = true := small_of (by omega) (by omega)
  rw [e_close_curve]
  refine fin_ok ?_
  unfold b_close_curve
  refine ok_step (by simp [check_degree_ok p d P hP hp f hf (by omega) (by omega) (by omega)]; rfl) ?_
  refine ok_step (by simp; rfl) ?_
  refine ok_seq (ok_for (e0 := [.val (.int p), .val (.int d), .val (.tup (f.map .int)), .own (.lst []), .un, .un, .un, .un]) (fun k e => ∃ (vs : List Int) (s4 s5 s6 s7 : Sl), e = [.val (.int p), .val (.int d), .val (.tup (f.map .int)), .own (.lst (vs.map .int)), s4, s5, s6, s7] ∧ vs.length = k ∧ ∀ (X : Nat) m, vs[X]? = some m → ArgM (votesL (voteN (rowD Dn) f P (Dn + 1) X) P P) m) (ds := rngD 0 (d + 1).toNat) (by simp [bd]) ?_ ?_ ?_)
  · exact ⟨[], _, _, _, _, rfl, rfl, fun X m h => by simp at h⟩
  · rintro k d' e hd' ⟨vs, s4, s5, s6, s7, rfl, hl, hv⟩
    obtain ⟨hk, i, hi, rfl⟩ := rngD_at hd'
    refine ⟨_, rfl, ?_⟩
    simp only [List.set_cons_succ, List.set_cons_zero]
    have sv := step_votes_ok p d i P Dn k hP hp hd hD hD2 (by omega) (by omega) (by omega) f hf
    refine ok_step (by simp [sv]; rfl) ?_
    obtain ⟨m, hm, he⟩ := arg_ok hP (by omega) (by omega) (votesL (voteN (rowD Dn) f P (Dn + 1) k) P P) (votesL_len _ _ _) (.val (.int d)) (.val (.tup (f.map .int))) (.own (.lst (vs.map .int))) (.val (.int i)) s6 s7
    have l0 : vs.length < lim := by unfold lim; omega
    refine .of (a := .next) (e := [.val (.int p), .val (.int d), .val (.tup (f.map .int)), .own (.lst ((vs ++ [m]).map .int)), .val (.int i), .val (.tup ((votesL (voteN (rowD Dn) f P (Dn + 1) k) P P).map .int)), s6, s7]) ?_ ⟨.inl rfl, _, _, _, _, _, rfl, by simp [hl], fun X m' h => ?_⟩
    · rw [sApp_u, bnd_u, eVar_u]
      simp only [List.getElem?_cons_succ, List.getElem?_cons_zero, bnd_u, chkL_u, vw_pl, Cell.toD_lst]
      rw [he]
      simp [cApp, l0]
    · by_cases z : X < vs.length
      · rw [List.getElem?_append_left z] at h
        exact hv X m' h
      · have : X = k := by
          have := (List.getElem?_eq_some_iff.mp h).1
          simp at this
          omega
        subst this
        rw [List.getElem?_append_right (by omega)] at h
        have e : X - vs.length = 0 := by omega
        rw [e] at h
        have : m = m' := by simpa using h
        subst this
        exact hm
  · rintro e' ⟨vs, s4, s5, s6, s7, rfl, hl, hv⟩
    rw [rngD_ln] at hl
    have hl2 : vs.length = Dn + 1 := by omega
    obtain ⟨C, c1, c2, c3, c4⟩ := through_ok p P hP hp vs (by omega) (by omega) (fun z hz => by
      obtain ⟨X, hX, e⟩ := List.mem_iff_getElem.mp hz
      have := hv X z (by rw [List.getElem?_eq_getElem hX, e])
      have u := this.up
      rw [votesL_len] at u
      exact ⟨this.lo, by omega⟩)
    refine ⟨rfl, ?_⟩
    have ap := apart_ok p P hP (by omega) (by omega) C f hf
    refine ok_step (by simp [c4]; rfl) ?_
    refine ok_sret (w := .d (if 2 * (d + 1) * (apart p P C f).length < p then .tup (C.map .int) else .non)) (e' := [.val (.int p), .val (.int d), .val (.tup (f.map .int)), .own (.lst (vs.map .int)), s4, s5, .val (.tup (C.map .int)), s7]) ?_ ⟨_, _, _, rfl, rfl, rfl, C, ⟨rfl, rfl⟩, by omega, c2, fun X hX => ?_⟩
    · by_cases z : 2 * (d + 1) * ((apart p P C f).length : Int) < p
      · simp [ap, sd, z]
      · simp [ap, sd, z]
    · obtain ⟨m, hm⟩ : ∃ m, vs[X]? = some m := ⟨_, List.getElem?_eq_getElem (show X < vs.length by omega)⟩
      exact ⟨m, hv X m hm, c3 X m hm⟩
end K55
end Py
end
section
set_option linter.all false
set_option maxRecDepth 100000
set_option maxHeartbeats 0
namespace Py
theorem len_filter (q : Nat → Bool) : ∀ n : Nat, (((List.range n).filter q).length : Int) = sumN n fun k => one (q k)
  | 0 => rfl
  | n + 1 => by
    rw [List.range_succ, List.filter_append, List.length_append, sumN, ← len_filter q n]
    cases h : q n <;> simp [h, one]
theorem sumN_split (f : Nat → Int) (a : Nat) : ∀ b, sumN (a + b) f = sumN a f + sumN b fun i => f (a + i)
  | 0 => by simp [sumN]
  | b + 1 => by
    rw [← Nat.add_assoc, sumN, sumN_split f a b, sumN]; omega
theorem sumN_ge_one {q : Nat → Bool} {n k : Nat} (hk : k < n) (h : q k = true) : 1 ≤ sumN n fun k => one (q k) := by
  have := sumN_pick (fun k => one (q k)) k n hk
  have le : sumN n (fun y => one (y == k) * one (q y)) ≤ sumN n (fun k => one (q k)) := sumN_le fun y _ => by
    have a := one_nonneg (q y)
    by_cases z : (y == k) = true
    · rw [z]; show (1 : Int) * _ ≤ _; omega
    · have z' : (y == k) = false := by simpa using z
      rw [z']; show (0 : Int) * _ ≤ _; omega
  rw [this, h] at le
  exact le
/-- places in blocks: one in each -/
theorem blocks {q : Nat → Bool} {b : Nat} : ∀ K : Nat, (∀ k, k < K → ∃ i, i < b ∧ q (k * b + i) = true) → (K : Int) ≤ sumN (K * b) fun k => one (q k)
  | 0, _ => by simp [sumN]
  | K + 1, h => by
    rw [Nat.succ_mul, sumN_split]
    have := blocks K fun k hk => h k (by omega)
    obtain ⟨i, hi, e⟩ := h K (by omega)
    have := sumN_ge_one (q := fun i => q (K * b + i)) hi e
    omega
theorem nats_map (l : List Nat) : (l.map fun (x : Nat) => D.int (x : Int)) = (l.map fun (x : Nat) => (x : Int)).map D.int := by rw [List.map_map]; rfl
namespace K55
theorem steps_ok (d : Int) (n : Nat) (h : d = n) (hn : n ≤ 4) : g__law_steps [.a (.int d)] = .ok (.fr (.lst ((rowD n).map .int))) [] := by
  subst h
  match n, hn with
  | 0, _ => rfl
  | 1, _ => rfl
  | 2, _ => rfl
  | 3, _ => rfl
  | 4, _ => rfl
/-- the sum over a range, as the law has it -/
theorem comp_S {i : M (List D)} {lo : Int} {LO n P : Nat} {p x h : Int} {d : D} {X H : Nat} {r f : List Int} {s3 s5 s7 s8 : Sl} (ix : Nat)
    (hi : i [.val (.int p), .val d, .val (.tup (f.map .int)), s3, .own (.lst (r.map .int)), s5, .val (.int h), s7, s8] = .ok (rngD lo n) [.val (.int p), .val d, .val (.tup (f.map .int)), s3, .own (.lst (r.map .int)), s5, .val (.int h), s7, s8])
    (hlo : lo = LO) (hn : n < 1000) (hm : LO + n ≤ r.length) (h0 : 0 < P) (hP : p = P) (hx : x = X) (hh : h = H) (hH : H < 1000) (hr : ∀ z ∈ r, small64 z = true) (hf : Tab p P f)
    (hs : (ix = 3 ∧ s3 = .val (.int x)) ∨ (ix = 5 ∧ s5 = .val (.int x))) :
    eComp i (gName 8) tYes (eOp oMul (eOp oIx (eVar 4) (eVar 8)) (eOp oIx (eVar 2) (eOp oMod (eB bInt (aCons (eOp oAdd (eVar ix) (eOp oMul (eVar 8) (eVar 6))) aNil)) (eVar 0)))) [8] [.val (.int p), .val d, .val (.tup (f.map .int)), s3, .own (.lst (r.map .int)), s5, .val (.int h), s7, s8]
      = .ok (.fr (.lst (((List.range n).map fun k => rAt r (LO + k) * fAt f P (X + (LO + k) * H)).map .int))) [.val (.int p), .val d, .val (.tup (f.map .int)), s3, .own (.lst (r.map .int)), s5, .val (.int h), s7, s8] := by
  have hp : 0 < p := by omega
  have sh : small64 h = true := small_of (by omega) (by omega)
  refine (comp_rng (fun k => .int (rAt r (LO + k) * fAt f P (X + (LO + k) * H))) hi (by unfold lim; omega) ?_).trans ?_
  · intro k z hk hz
    have hz' : z = ((LO + k : Nat) : Int) := by omega
    obtain ⟨i2, g2⟩ := at_r (r := r) hz' (by omega)
    obtain ⟨j, e, i1, g⟩ := at_f hf h0 hP hx hz' hh
    have sr : small64 (rAt r (LO + k)) = true := hr _ (List.mem_of_getElem? g2)
    refine ⟨_, rfl, rfl, ?_⟩
    rcases hs with ⟨rfl, rfl⟩ | ⟨rfl, rfl⟩ <;> simp [i2, g2, e, i1, g, sr, sh, hp]
  · rw [List.map_map]; rfl
theorem votes_ok (p d x : Int) (P Dn X : Nat) (hP : p = P) (h0 : 0 < P) (hP2 : P < 1000) (hd : d = Dn) (hD : Dn ≤ 4) (hx : x = X) (f : List Int) (hf : Tab p P f) :
    g__law_votes [.a (.int p), .a (.int d), .a (.tup (f.map .int)), .a (.int x)] = .ok (.fr (.lst ((votesL (voteN (rowD Dn) f P (Dn + 1) X) P P).map .int))) [] := by
  suffices k : ∃ r cs, g__law_votes [.a (.int p), .a (.int d), .a (.tup (f.map .int)), .a (.int x)] = .ok r cs ∧ (r = .fr (.lst ((votesL (voteN (rowD Dn) f P (Dn + 1) X) P P).map .int)) ∧ cs = []) by
    obtain ⟨r, cs, h, rfl, rfl⟩ := k
    exact h
  have hp : 0 < p := by omega
  have bp : big p = true := big_of (by omega) (by omega)
  have bd : big (d + 2) = true := big_of (by omega) (by omega)
  have b1 : big 1 = true := by decide
  have pn : p.toNat = P := by omega
  rw [e__law_votes]
  refine fin_ok ?_
  unfold b__law_votes
  refine ok_step (by simp [steps_ok d Dn hd hD]; rfl) ?_
  refine ok_step (e' := [.val (.int p), .val (.int d), .val (.tup (f.map .int)), .val (.int x), .own (.lst ((rowD Dn).map .int)), .own (.lst ((votesL (voteN (rowD Dn) f P (Dn + 1) X) P 0).map .int)), .un, .un, .un]) ?_ ?_
  · rw [sSet_u, bnd_ok (comp_rng (i := iRng1 (eVar 0)) (g := gName 7) (b := eC (.int 0)) (vs := [7]) (e := [.val (.int p), .val (.int d), .val (.tup (f.map .int)), .val (.int x), .own (.lst ((rowD Dn).map .int)), .un, .un, .un, .un]) (lo := 0) (n := P) (e1 := [.val (.int p), .val (.int d), .val (.tup (f.map .int)), .val (.int x), .own (.lst ((rowD Dn).map .int)), .un, .un, .un, .un]) (fun _ => .int 0) (by simp [bp, pn]) (by unfold lim; omega) (fun k i hk hi => ⟨_, rfl, rfl, rfl⟩))]
    simp [votesL, sumN]
  refine ok_seq (ok_for (fun k e => ∃ (s6 s7 s8 : Sl), e = [.val (.int p), .val (.int d), .val (.tup (f.map .int)), .val (.int x), .own (.lst ((rowD Dn).map .int)), .own (.lst ((votesL (voteN (rowD Dn) f P (Dn + 1) X) P k).map .int)), s6, s7, s8]) (ds := rngD 0 P) (by simp [bp, pn]; rfl) ?_ ?_ ?_)
  · exact ⟨_, _, _, rfl⟩
  · rintro k e hd' he ⟨s6, s7, s8, rfl⟩
    obtain ⟨hk, h, hh, rfl⟩ := rngD_at he
    refine ⟨_, rfl, ?_⟩
    simp only [List.set_cons_succ, List.set_cons_zero]
    have hc := comp_S (i := iRng2 (eC (.int 1)) (eOp oAdd (eVar 1) (eC (.int 2)))) (lo := 1) (LO := 1) (n := Dn + 1) (P := P) (p := p) (x := x) (h := h) (d := .int d) (X := X) (H := k) (r := rowD Dn) (f := f) (s3 := .val (.int x)) (s5 := .own (.lst ((votesL (voteN (rowD Dn) f P (Dn + 1) X) P k).map .int))) (s7 := s7) (s8 := s8) 3
      (by simp [bd, b1, show (d + 2 - 1).toNat = Dn + 1 by omega]) rfl (by omega) (by rw [rowD_len hD]; omega) h0 hP hx (by omega) (by omega) (rowD_small Dn) hf (.inl ⟨rfl, rfl⟩)
    have hs : ((List.range (Dn + 1)).map fun k' => rAt (rowD Dn) (1 + k') * fAt f P (X + (1 + k') * k)).sum = stepS (rowD Dn) f P 1 (Dn + 1) X k := sum_range _ _
    have hv := vote_eq (r := rowD Dn) (f := f) (n := Dn + 1) (x := X) (h := k) hP h0
    have hl := vote_lt (r := rowD Dn) (f := f) (n := Dn + 1) (x := X) (h := k) h0
    obtain ⟨v, hvv⟩ : ∃ v : Nat, v = voteN (rowD Dn) f P (Dn + 1) X k := ⟨_, rfl⟩
    rw [← hvv] at hv hl
    have i1 : ixn (votesL (voteN (rowD Dn) f P (Dn + 1) X) P k).length (v : Int) = some v := ixn_nat (by rw [votesL_len]; exact hl)
    have g1 := votesL_get (V := voteN (rowD Dn) f P (Dn + 1) X) (k := k) hl
    refine ok_step (e' := [.val (.int p), .val (.int d), .val (.tup (f.map .int)), .val (.int x), .own (.lst ((rowD Dn).map .int)), .own (.lst ((votesL (voteN (rowD Dn) f P (Dn + 1) X) P k).map .int)), .val (.int h), .val (.int v), s8]) ?_ ?_
    · rw [sSet_u, bnd_u, eOp_u, bnd_u, eB_u, bnd_u, aCons_u, bnd_u, eUn_u, bnd_u, eB_u, bnd_u, aCons_u, bnd_ok hc]
      simp only [aNil_u, bnd_u, ret_u, vws_cons, vws_nil, vw_fr, Cell.toD_lst, bSum_lst, hs, lft_some]
      simp [hp, hv]
    · refine .of (by simp [i1, g1]; exact ⟨rfl, rfl⟩) ?_
      refine ⟨.inl rfl, .val (.int h), .val (.int v), s8, ?_⟩
      rw [← bump (by rw [← hvv]; exact hl), List.map_set, hvv]
  · rintro e' ⟨s6, s7, s8, rfl⟩
    rw [rngD_ln]
    exact ⟨rfl, .of (by simp; exact ⟨rfl, rfl⟩) ⟨_, _, _, rfl, rfl, rfl, rfl, rfl⟩⟩
/-- how many steps are broken -/
def badN (r f : List Int) (P n : Nat) : Int := sumN P fun x => sumN P fun h => one (decide (0 < stepS r f P 0 n x h % (P : Int)))
theorem broken_ok (p d : Int) (P Dn : Nat) (hP : p = P) (h0 : 0 < P) (hP2 : P < 1000) (hd : d = Dn) (hD : Dn ≤ 4) (f : List Int) (hf : Tab p P f) :
    g__law_broken [.a (.int p), .a (.int d), .a (.tup (f.map .int))] = .ok (.d (.int (badN (rowD Dn) f P (Dn + 2)))) [] := by
  suffices k : ∃ r cs, g__law_broken [.a (.int p), .a (.int d), .a (.tup (f.map .int))] = .ok r cs ∧ (r = .d (.int (badN (rowD Dn) f P (Dn + 2))) ∧ cs = []) by
    obtain ⟨r, cs, h, rfl, rfl⟩ := k
    exact h
  have hp : 0 < p := by omega
  have bp : big p = true := big_of (by omega) (by omega)
  have bd : big (d + 2) = true := big_of (by omega) (by omega)
  have pn : p.toNat = P := by omega
  rw [e__law_broken]
  refine fin_ok ?_
  unfold b__law_broken
  refine ok_step (by simp; rfl) ?_
  refine ok_step (by simp [steps_ok d Dn hd hD]; rfl) ?_
  refine ok_seq (ok_for (fun k e => ∃ (t : Int) (s5 s6 s7 s8 : Sl), e = [.val (.int p), .val (.int d), .val (.tup (f.map .int)), .val (.int t), .own (.lst ((rowD Dn).map .int)), s5, s6, s7, s8] ∧ t = sumN k fun x => sumN P fun h => one (decide (0 < stepS (rowD Dn) f P 0 (Dn + 2) x h % (P : Int)))) (ds := rngD 0 P) (by simp [bp, pn]; rfl) ?_ ?_ ?_)
  · exact ⟨_, _, _, _, _, rfl, rfl⟩
  · rintro X e hX' he ⟨t, s5, s6, s7, s8, rfl, ht⟩
    obtain ⟨hX, x, hx, rfl⟩ := rngD_at he
    refine ⟨_, rfl, ?_⟩
    simp only [List.set_cons_succ, List.set_cons_zero]
    refine ok_for (fun k e => ∃ (t : Int) (s6 s7 s8 : Sl), e = [.val (.int p), .val (.int d), .val (.tup (f.map .int)), .val (.int t), .own (.lst ((rowD Dn).map .int)), .val (.int x), s6, s7, s8] ∧ t = (sumN X fun x => sumN P fun h => one (decide (0 < stepS (rowD Dn) f P 0 (Dn + 2) x h % (P : Int)))) + sumN k fun h => one (decide (0 < stepS (rowD Dn) f P 0 (Dn + 2) X h % (P : Int)))) (ds := rngD 0 P) (by simp [bp, pn]; rfl) ?_ ?_ ?_
    · exact ⟨_, _, _, _, rfl, by rw [ht]; simp [sumN]⟩
    · rintro k e env he2 ⟨t, s6, s7, s8, rfl, ht⟩
      obtain ⟨hk, h, hh, rfl⟩ := rngD_at he2
      refine ⟨_, rfl, ?_⟩
      simp only [List.set_cons_succ, List.set_cons_zero]
      have hc := comp_S (i := iRng1 (eOp oAdd (eVar 1) (eC (.int 2)))) (lo := 0) (LO := 0) (n := Dn + 2) (P := P) (p := p) (x := x) (h := h) (d := .int d) (X := X) (H := k) (r := rowD Dn) (f := f) (s3 := .val (.int t)) (s5 := .val (.int x)) (s7 := s7) (s8 := s8) 5
        (by simp [bd, show (d + 2).toNat = Dn + 2 by omega]) rfl (by omega) (by rw [rowD_len hD]; omega) h0 hP (by omega) (by omega) (by omega) (rowD_small Dn) hf (.inr ⟨rfl, rfl⟩)
      have hs : ((List.range (Dn + 2)).map fun k' => rAt (rowD Dn) (0 + k') * fAt f P (X + (0 + k') * k)).sum = stepS (rowD Dn) f P 0 (Dn + 2) X k := sum_range _ _
      obtain ⟨S, hS⟩ : ∃ S, S = stepS (rowD Dn) f P 0 (Dn + 2) X k := ⟨_, rfl⟩
      rw [← hS] at hs
      refine ok_step (e' := [.val (.int p), .val (.int d), .val (.tup (f.map .int)), .val (.int t), .own (.lst ((rowD Dn).map .int)), .val (.int x), .val (.int h), .val (.int S), s8]) ?_ ?_
      · rw [sSet_u, bnd_u, eB_u, bnd_u, aCons_u, bnd_ok hc]
        simp only [aNil_u, bnd_u, ret_u, vws_cons, vws_nil, vw_fr, Cell.toD_lst, bSum_lst, hs, lft_some]
        simp
      · rw [← hP] at ht ⊢
        by_cases z : 0 < S % p
        · refine .of (by simp [hp, z]; exact ⟨rfl, rfl⟩) ?_
          refine ⟨.inl rfl, _, _, _, _, rfl, ?_⟩
          rw [ht, sumN, ← hS]
          simp [one, z]
          omega
        · refine .of (by simp [hp, z]; exact ⟨rfl, rfl⟩) ?_
          refine ⟨.inl rfl, _, _, _, _, rfl, ?_⟩
          rw [ht, sumN, ← hS]
          simp [one, z]
    · rintro e' ⟨t, s6, s7, s8, rfl, ht⟩
      rw [rngD_ln] at ht
      exact ⟨.inl rfl, _, _, _, _, _, rfl, by rw [ht]; rfl⟩
  · rintro e' ⟨t, s5, s6, s7, s8, rfl, ht⟩
    rw [rngD_ln] at ht
    exact ⟨rfl, .of (by simp; exact ⟨rfl, rfl⟩) ⟨_, _, _, rfl, rfl, rfl, by rw [ht]; rfl, rfl⟩⟩
theorem broken_steps_ok (p d : Int) (P Dn : Nat) (hP : p = P) (hp : p ∈ primes) (hd : d = Dn) (hD : Dn ≤ 4) (hD2 : Dn + 2 ≤ P) (f : List Int) (hf : Tab p P f) :
    g_broken_steps [.a (.int p), .a (.int d), .a (.tup (f.map .int))] = .ok (.d (.int (badN (rowD Dn) f P (Dn + 2)))) [] := by
  have hb := prime_lo hp
  have h0 : 0 < P := by omega
  have hp0 : 0 < p := by omega
  have bp : big p = true := big_of (by omega) (by omega)
  have pn : p.toNat = P := by omega
  rw [e_broken_steps]
  refine fn_is ?_
  unfold b_broken_steps
  refine ok_step (by simp [check_degree_ok p d P hP hp f hf (by omega) (by omega) (by omega)]; rfl) ?_
  refine ok_step (by simp [factors_ok d Dn hd hD]; rfl) ?_
  refine ok_step (by simp; rfl) ?_
  refine ok_seq (ok_for (e0 := [.val (.int p), .val (.int d), .val (.tup (f.map .int)), .own (.lst ((rowD Dn).map .int)), .val (.int 0), .un, .un]) (fun k e => ∃ (t : Int) (s3 s5 s6 : Sl), e = [.val (.int p), .val (.int d), .val (.tup (f.map .int)), s3, .val (.int t), s5, s6] ∧ (s3 = .own (.lst ((rowD Dn).map .int)) ∨ s3 = .val (.lst ((rowD Dn).map .int))) ∧ t = sumN k fun x => sumN P fun h => one (decide (0 < stepS (rowD Dn) f P 0 (Dn + 2) x h % (P : Int)))) (ds := rngD 0 P) (by simp [bp, pn]) ?_ ?_ ?_)
  · exact ⟨0, _, _, _, rfl, .inl rfl, rfl⟩
  · rintro X e env he ⟨t, s3, s5, s6, rfl, h3, ht⟩
    obtain ⟨hX, x, hx, rfl⟩ := rngD_at he
    refine ⟨_, rfl, ?_⟩
    simp only [List.set_cons_succ, List.set_cons_zero]
    have go : ∀ (s3 : Sl), (s3 = .own (.lst ((rowD Dn).map .int)) ∨ s3 = .val (.lst ((rowD Dn).map .int))) → eComp (iRng1 (eVar 0)) (gName 6) (tBl (eOp oNe (eCallV g_step_sum (aConsF (eVar 0) (aCons (eVar 3) (aConsF (eVar 2) (aConsF (eVar 5) (aConsF (eVar 6) aNil)))))) (eC (.int 0)))) (eVar 6) [6] [.val (.int p), .val (.int d), .val (.tup (f.map .int)), s3, .val (.int t), .val (.int x), s6]
        = .ok (.fr (.lst (((List.range P).filter fun h => decide (0 < stepS (rowD Dn) f P 0 (Dn + 2) X h % (P : Int))).map fun (h : Nat) => D.int (h : Int)))) [.val (.int p), .val (.int d), .val (.tup (f.map .int)), s3, .val (.int t), .val (.int x), s6] := fun s3 h3 => by
      have hc := comp_map (i := iRng1 (eVar 0)) (g := gName 6) (t := tBl (eOp oNe (eCallV g_step_sum (aConsF (eVar 0) (aCons (eVar 3) (aConsF (eVar 2) (aConsF (eVar 5) (aConsF (eVar 6) aNil)))))) (eC (.int 0)))) (b := eVar 6) (vs := [6]) (e := [.val (.int p), .val (.int d), .val (.tup (f.map .int)), s3, .val (.int t), .val (.int x), s6]) (e1 := [.val (.int p), .val (.int d), .val (.tup (f.map .int)), s3, .val (.int t), .val (.int x), s6]) (ds := rngD 0 P)
        (fun d => d) (onI fun i => decide (0 < stepS (rowD Dn) f P 0 (Dn + 2) X i.toNat % (P : Int))) (by simp [bp, pn]) (by rw [rngD_ln]; unfold lim; omega) (fun d' hd' => by
          obtain ⟨k, hk, rfl⟩ := rngD_mem hd'
          obtain ⟨i, hi⟩ : ∃ i : Int, i = 0 + (k : Int) := ⟨_, rfl⟩
          rw [← hi]
          have hs := step_sum_ok p x i P X k (Dn + 2) h0 hP (by omega) (by omega) (by omega) (by omega) (rowD Dn) f (rowD_small Dn) (rowD_len hD) (by omega) hf
          have ek : i.toNat = k := by omega
          have nn := Int.emod_nonneg (stepS (rowD Dn) f P 0 (Dn + 2) X k) (show p ≠ 0 by omega)
          simp only [onI_int, ek]
          rw [← hP]
          generalize stepS (rowD Dn) f P 0 (Dn + 2) X k % p = v at hs nn
          have ev : (decide (v = 0)) = !decide (0 < v) := by
            by_cases z : v = 0
            · subst z; rfl
            · rw [decide_eq_false z, decide_eq_true (show 0 < v by omega)]; rfl
          refine ⟨_, rfl, ?_, rfl, fun _ => rfl⟩
          rcases h3 with rfl | rfl <;> simp [hs, ev])
      rw [List.map_id', filter_rng] at hc
      simpa using hc
    have hl := len_filter (fun h => decide (0 < stepS (rowD Dn) f P 0 (Dn + 2) X h % (P : Int))) P
    refine .of (a := .next) (e := [.val (.int p), .val (.int d), .val (.tup (f.map .int)), s3, .val (.int (t + sumN P fun h => one (decide (0 < stepS (rowD Dn) f P 0 (Dn + 2) X h % (P : Int))))), .val (.int x), s6]) ?_ ⟨.inl rfl, _, _, _, _, rfl, h3, by rw [ht]; rfl⟩
    have hc := go s3 h3
    rw [sAug_u]
    simp only [bnd_u, eB_u, aCons_u, eVar_u, List.getElem?_cons_succ, List.getElem?_cons_zero, hc]
    rw [← hl]
    simp
  · rintro e' ⟨t, s3, s5, s6, rfl, h3, ht⟩
    rw [rngD_ln] at ht
    exact ⟨rfl, ok_sret (w := .d (.int t)) (e' := [.val (.int p), .val (.int d), .val (.tup (f.map .int)), s3, .val (.int t), s5, s6]) (by simp) ⟨_, rfl, by rw [ht]; rfl, rfl⟩⟩
/-- what is_near asks -/
def nearB (p d : Int) (P Dn : Nat) (f : List Int) : Bool := decide (badN (rowD Dn) f P (Dn + 2) * (d + 1) * (d + 3) * (d + 3) < (d + 2) * p * p)
theorem is_near_ok (p d : Int) (P Dn : Nat) (hP : p = P) (hp : p ∈ primes) (hd : d = Dn) (hD : Dn ≤ 4) (hD2 : Dn + 2 ≤ P) (f : List Int) (hf : Tab p P f) :
    g_is_near [.a (.int p), .a (.int d), .a (.tup (f.map .int))] = .ok (.d (.bl (nearB p d P Dn f))) [] := by
  have hb := prime_lo hp
  have s1 : small64 (d + 1) = true := small_of (by omega) (by omega)
  have s3 : small64 (d + 3) = true := small_of (by omega) (by omega)
  have s2 : small64 p = true := small_of (by omega) (by omega)
  rw [e_is_near]
  refine fn_is ?_
  unfold b_is_near
  refine ok_sret (w := .d (.bl (nearB p d P Dn f))) (e' := [.val (.int p), .val (.int d), .val (.tup (f.map .int))]) ?_ ⟨_, rfl, rfl, rfl⟩
  simp [broken_steps_ok p d P Dn hP hp hd hD hD2 f hf, s1, s2, s3, nearB]
/-- the law's own line -/
theorem law_near_line (p d : Int) (P Dn : Nat) (hP : p = P) (hp : p ∈ primes) (hd : d = Dn) (hD : Dn ≤ 4) (hD2 : Dn + 2 ≤ P) (f : List Int) (hf : Tab p P f) (a b c : Nat) (e : Env) (ha : e[a]? = some (.val (.int p))) (hb' : e[b]? = some (.val (.int d))) (hc : e[c]? = some (.val (.tup (f.map .int)))) :
    (eOp oLt (eOp oMul (eOp oMul (eOp oMul (eCall g__law_broken [] (aConsF (eVar a) (aConsF (eVar b) (aConsF (eVar c) aNil)))) (eOp oAdd (eVar b) (eC (.int 1)))) (eOp oAdd (eVar b) (eC (.int 3)))) (eOp oAdd (eVar b) (eC (.int 3)))) (eOp oMul (eOp oMul (eOp oAdd (eVar b) (eC (.int 2))) (eVar a)) (eVar a))) e = .ok (.d (.bl (nearB p d P Dn f))) e := by
  have hb := prime_lo hp
  have s1 : small64 (d + 1) = true := small_of (by omega) (by omega)
  have s3 : small64 (d + 3) = true := small_of (by omega) (by omega)
  have s2 : small64 p = true := small_of (by omega) (by omega)
  simp [broken_ok p d P Dn hP (by omega) (by omega) hd hD f hf, s1, s2, s3, nearB, ha, hb', hc]
theorem rep_bl (b : Bool) : bRepr [.bl b] = some (.d (.str (D.bl b).text)) := by cases b <;> kernel_rfl
end K55
end Py
end
section
set_option linter.all false
set_option maxRecDepth 100000
set_option maxHeartbeats 0
namespace Py
def dC (c : List Int) : D := .tup (c.map .int)
/-- one longer -/
def ext (P : Nat) (c : List Int) : List (List Int) := (List.range P).map fun (x : Nat) => c ++ [(x : Int)]
def allC (P : Nat) : Nat → List (List Int)
  | 0 => [[]]
  | k + 1 => (allC P k).flatMap (ext P)
theorem flat_len {α β : Type} (f : α → List β) (n : Nat) (hf : ∀ a, (f a).length = n) : ∀ l : List α, (l.flatMap f).length = l.length * n
  | [] => by simp
  | a :: l => by rw [List.flatMap_cons, List.length_append, flat_len f n hf l, hf, List.length_cons, Nat.succ_mul]; omega
theorem ext_len (P : Nat) (c : List Int) : (ext P c).length = P := by simp [ext]
theorem allC_len (P : Nat) : ∀ k, (allC P k).length = P ^ k
  | 0 => rfl
  | k + 1 => by rw [allC, flat_len _ P (ext_len P), allC_len P k, Nat.pow_succ]
theorem mem_allC {P : Nat} : ∀ {k : Nat} {c : List Int}, c ∈ allC P k ↔ c.length = k ∧ ∀ z ∈ c, 0 ≤ z ∧ z < P
  | 0, c => by
    simp only [allC, List.mem_singleton]
    constructor
    · rintro rfl; simp
    · rintro ⟨h, _⟩; exact List.eq_nil_of_length_eq_zero h
  | k + 1, c => by
    simp only [allC, List.mem_flatMap, ext, List.mem_map, List.mem_range]
    constructor
    · rintro ⟨a, ha, x, hx, rfl⟩
      obtain ⟨h1, h2⟩ := mem_allC.mp ha
      refine ⟨by simp [h1], fun z hz => ?_⟩
      rcases List.mem_append.mp hz with q | q
      · exact h2 z q
      · have : z = (x : Int) := by simpa using q
        omega
    · rintro ⟨h1, h2⟩
      have hn : c ≠ [] := fun q => by rw [q] at h1; simp at h1
      have e := List.dropLast_concat_getLast hn
      have hl := h2 _ (List.getLast_mem hn)
      refine ⟨c.dropLast, mem_allC.mpr ⟨by rw [List.length_dropLast]; omega, fun z hz => h2 z (List.dropLast_subset _ hz)⟩, (c.getLast hn).toNat, by omega, ?_⟩
      rw [show (((c.getLast hn).toNat : Nat) : Int) = c.getLast hn by omega]
      exact e
theorem nodup_flat {α β : Type} {f : α → List β} : ∀ {l : List α}, l.Nodup → (∀ a ∈ l, (f a).Nodup) → (∀ a ∈ l, ∀ b ∈ l, ∀ x, x ∈ f a → x ∈ f b → a = b) → (l.flatMap f).Nodup
  | [], _, _, _ => by simp
  | a :: l, h, h1, h2 => by
    rw [List.flatMap_cons, List.nodup_append]
    rw [List.nodup_cons] at h
    refine ⟨h1 a (List.mem_cons_self ..), nodup_flat h.2 (fun b hb => h1 b (List.mem_cons_of_mem _ hb)) (fun b hb c hc => h2 b (List.mem_cons_of_mem _ hb) c (List.mem_cons_of_mem _ hc)), ?_⟩
    intro x hx y hy e
    subst e
    obtain ⟨b, hb, hxb⟩ := List.mem_flatMap.mp hy
    have := h2 a (List.mem_cons_self ..) b (List.mem_cons_of_mem _ hb) x hx hxb
    subst this
    exact h.1 hb
theorem nodup_allC (P : Nat) : ∀ k, (allC P k).Nodup
  | 0 => by simp [allC]
  | k + 1 => by
    refine nodup_flat (nodup_allC P k) (fun a _ => ?_) (fun a _ b _ x hx hy => ?_)
    · unfold ext
      refine List.Pairwise.map _ (fun x y (h : x ≠ y) e => h ?_) List.nodup_range
      have : (x : Int) = y := by simpa using List.append_cancel_left e
      omega
    · unfold ext at hx hy
      obtain ⟨u, _, e1⟩ := List.mem_map.mp hx
      obtain ⟨v, _, e2⟩ := List.mem_map.mp hy
      rw [← e2] at e1
      exact (List.append_inj' e1 rfl).1
/-- no two, and all alike -/
theorem few {α : Type} {l : List α} (h : l.Nodup) (h1 : ∀ a ∈ l, ∀ b ∈ l, a = b) : l.length ≤ 1 := by
  match l, h, h1 with
  | [], _, _ => simp
  | [a], _, _ => simp
  | a :: b :: r, h, h1 =>
    have : a = b := h1 a (by simp) b (by simp)
    subst this
    simp at h
namespace K55
def nearC (p d : Int) (P : Nat) (f c : List Int) : Bool := decide (2 * (d + 1) * ((apart p P c f).length : Int) < p)
theorem law_near_ok (p d : Int) (P Dn : Nat) (hP : p = P) (hp : p ∈ primes) (hd : d = Dn) (hD : Dn ≤ 4) (hPD : P ^ (Dn + 1) ≤ 1000) (f : List Int) (hf : Tab p P f) :
    g__law_near [.a (.int p), .a (.int d), .a (.tup (f.map .int))] = .ok (.fr (.lst (((allC P (Dn + 1)).filter (nearC p d P f)).map dC))) [] := by
  have hb := prime_lo hp
  have h0 : 0 < P := by omega
  have hp0 : 0 < p := by omega
  have bp : big p = true := big_of (by omega) (by omega)
  have bd : big (d + 1) = true := big_of (by omega) (by omega)
  have sd : small64 (2 * (d + 1)) = true := small_of (by omega) (by omega)
  have l1 : 1 ≤ lim := by decide
  have pn : p.toNat = P := by omega
  have len_le : ∀ k, k ≤ Dn + 1 → (allC P k).length ≤ 1000 := fun k hk => by
    rw [allC_len]
    exact Nat.le_trans (Nat.pow_le_pow_right h0 hk) hPD
  rw [e__law_near]
  refine fn_is ?_
  unfold b__law_near
  refine ok_step (e' := [.val (.int p), .val (.int d), .val (.tup (f.map .int)), .own (.lst ((allC P 0).map dC)), .un, .un, .un, .un, .un, .un, .un, .un]) (by simp [allC, dC, l1]) ?_
  refine ok_seq (ok_for (e0 := [.val (.int p), .val (.int d), .val (.tup (f.map .int)), .own (.lst ((allC P 0).map dC)), .un, .un, .un, .un, .un, .un, .un, .un]) (fun k e => ∃ (s3 s4 s5 s6 s10 : Sl), e = [.val (.int p), .val (.int d), .val (.tup (f.map .int)), s3, s4, s5, s6, .un, .un, .un, s10, .un] ∧ (s3 = .own (.lst ((allC P k).map dC)) ∨ s3 = .val (.lst ((allC P k).map dC)))) (ds := rngD 0 (Dn + 1)) (by simp [bd, show (d + 1).toNat = Dn + 1 by omega]) ⟨_, _, _, _, _, rfl, .inl rfl⟩ ?_ ?_)
  · rintro k e env he ⟨s3, s4, s5, s6, s10, rfl, h3⟩
    obtain ⟨hk, i, hi, rfl⟩ := rngD_at he
    refine ⟨_, rfl, ?_⟩
    simp only [List.set_cons_succ, List.set_cons_zero]
    refine ok_step (e' := [.val (.int p), .val (.int d), .val (.tup (f.map .int)), s3, .val (.int i), .own (.lst []), s6, .un, .un, .un, s10, .un]) (by simp) ?_
    have hL := len_le k (by omega)
    have hL1 := len_le (k + 1) (by omega)
    refine ok_seq (ok_for (e0 := [.val (.int p), .val (.int d), .val (.tup (f.map .int)), .val (.lst ((allC P k).map dC)), .val (.int i), .own (.lst []), s6, .un, .un, .un, s10, .un]) (fun j e => ∃ (s6 s10 : Sl), e = [.val (.int p), .val (.int d), .val (.tup (f.map .int)), .val (.lst ((allC P k).map dC)), .val (.int i), .own (.lst ((((allC P k).take j).flatMap (ext P)).map dC)), s6, .un, .un, .un, s10, .un]) (ds := (allC P k).map dC) (by rcases h3 with rfl | rfl <;> simp) ⟨s6, s10, by simp⟩ ?_ ?_)
    · rintro j e env he ⟨s6, s10, rfl⟩
      rw [List.getElem?_map] at he
      cases q : (allC P k)[j]? with
      | none => rw [q] at he; cases he
      | some c =>
        rw [q] at he
        have he' : e = dC c := by simpa using he.symm
        subst he'
        have hj := (List.getElem?_eq_some_iff.mp q).1
        refine ⟨_, rfl, ?_⟩
        simp only [List.set_cons_succ, List.set_cons_zero]
        have cl := (mem_allC.mp (List.mem_of_getElem? q)).1
        have lc : c.length + 1 ≤ lim := by unfold lim; omega
        have hc := comp_rng (i := iRng1 (eVar 0)) (g := gName 10) (b := eOp oAdd (eVar 6) (eTup (aConsF (eVar 10) aNil))) (vs := [10]) (e := [.val (.int p), .val (.int d), .val (.tup (f.map .int)), .val (.lst ((allC P k).map dC)), .val (.int i), .own (.lst ((((allC P k).take j).flatMap (ext P)).map dC)), .val (dC c), .un, .un, .un, s10, .un]) (e1 := [.val (.int p), .val (.int d), .val (.tup (f.map .int)), .val (.lst ((allC P k).map dC)), .val (.int i), .own (.lst ((((allC P k).take j).flatMap (ext P)).map dC)), .val (dC c), .un, .un, .un, s10, .un]) (lo := 0) (n := P) (fun x => dC (c ++ [(x : Int)])) (by simp [bp, pn]) (by unfold lim; omega) (fun x y hx hy => by
          refine ⟨_, rfl, rfl, ?_⟩
          have : y = (x : Int) := by omega
          subst this
          simp [dC, oAdd, l1, lc])
        have e2 : (List.range P).map (fun (x : Nat) => dC (c ++ [(x : Int)])) = (ext P c).map dC := by unfold ext; rw [List.map_map]; rfl
        rw [e2] at hc
        simp only [unwipe_cons, unwipe_nil, wipe_cons, wipe_nil, List.getElem?_cons_succ, List.getElem?_cons_zero, List.set_cons_succ, List.set_cons_zero] at hc
        have e3 : ((((allC P k).take (j + 1)).flatMap (ext P)).map dC) = (((allC P k).take j).flatMap (ext P)).map dC ++ (ext P c).map dC := by
          rw [List.take_add_one, q, List.flatMap_append, List.map_append]
          simp
        have ll : ((((allC P k).take j).flatMap (ext P)).map dC).length + ((ext P c).map dC).length ≤ lim := by
          rw [List.length_map, List.length_map, flat_len _ P (ext_len P), ext_len, List.length_take]
          have : min j (allC P k).length * P ≤ 1000 * 200 := Nat.mul_le_mul (by omega) (by omega)
          unfold lim; omega
        refine .of (a := .next) (e := [.val (.int p), .val (.int d), .val (.tup (f.map .int)), .val (.lst ((allC P k).map dC)), .val (.int i), .own (.lst ((((allC P k).take (j + 1)).flatMap (ext P)).map dC)), .val (dC c), .un, .un, .un, s10, .un]) ?_ ⟨.inl rfl, _, _, rfl⟩
        rw [e3]
        generalize ((((allC P k).take j).flatMap (ext P)).map dC) = A at hc ll ⊢
        generalize (ext P c).map dC = B at hc ll ⊢
        rw [sSet_u, bnd_u, eOp_u, bnd_u, eVar_u]
        simp only [List.getElem?_cons_succ, List.getElem?_cons_zero, bnd_u, hc]
        simp [oAdd, ll]
    · rintro e' ⟨s6, s10, rfl⟩
      rw [List.length_map, List.take_length]
      refine ⟨rfl, ?_⟩
      refine .of (a := .next) (e := [.val (.int p), .val (.int d), .val (.tup (f.map .int)), .val (.lst ((allC P (k + 1)).map dC)), .val (.int i), .val (.lst ((allC P (k + 1)).map dC)), s6, .un, .un, .un, s10, .un]) (by simp [allC]) ⟨.inl rfl, _, _, _, _, _, rfl, .inr rfl⟩
  · rintro e' ⟨s3, s4, s5, s6, s10, rfl, h3⟩
    rw [rngD_ln] at h3
    refine ⟨rfl, ?_⟩
    refine ok_step (e' := [.val (.int p), .val (.int d), .val (.tup (f.map .int)), s3, s4, s5, s6, .own (.lst []), .un, .un, s10, .un]) (by simp) ?_
    have hL := len_le (Dn + 1) (Nat.le_refl _)
    refine ok_seq (ok_for (e0 := [.val (.int p), .val (.int d), .val (.tup (f.map .int)), .val (.lst ((allC P (Dn + 1)).map dC)), s4, s5, s6, .own (.lst []), .un, .un, s10, .un]) (fun j e => ∃ (s8 s9 s11 : Sl), e = [.val (.int p), .val (.int d), .val (.tup (f.map .int)), .val (.lst ((allC P (Dn + 1)).map dC)), s4, s5, s6, .own (.lst ((((allC P (Dn + 1)).take j).filter (nearC p d P f)).map dC)), s8, s9, s10, s11]) (ds := (allC P (Dn + 1)).map dC) (by rcases h3 with rfl | rfl <;> simp) ⟨.un, .un, .un, by simp⟩ ?_ ?_)
    · rintro j e env he ⟨s8, s9, s11, rfl⟩
      rw [List.getElem?_map] at he
      cases q : (allC P (Dn + 1))[j]? with
      | none => rw [q] at he; cases he
      | some c =>
        rw [q] at he
        have he' : e = dC c := by simpa using he.symm
        subst he'
        have hj := (List.getElem?_eq_some_iff.mp q).1
        refine ⟨_, rfl, ?_⟩
        simp only [List.set_cons_succ, List.set_cons_zero]
        have lA : (((allC P (Dn + 1)).take j).filter (nearC p d P f)).length < lim := by
          have := List.length_filter_le (nearC p d P f) ((allC P (Dn + 1)).take j)
          rw [List.length_take] at this
          unfold lim; omega
        generalize hA : (((allC P (Dn + 1)).take j).filter (nearC p d P f)) = A at lA ⊢
        have hc := comp_map (i := iRng1 (eVar 0)) (g := gName 11) (t := tBl (eOp oNe (eCall g__law_value [] (aConsF (eVar 0) (aConsF (eVar 8) (aConsF (eVar 11) aNil)))) (eOp oIx (eVar 2) (eVar 11)))) (b := eVar 11) (vs := [11]) (e := [.val (.int p), .val (.int d), .val (.tup (f.map .int)), .val (.lst ((allC P (Dn + 1)).map dC)), s4, s5, s6, .own (.lst (A.map dC)), .val (dC c), s9, s10, s11]) (e1 := [.val (.int p), .val (.int d), .val (.tup (f.map .int)), .val (.lst ((allC P (Dn + 1)).map dC)), s4, s5, s6, .own (.lst (A.map dC)), .val (dC c), s9, s10, s11]) (ds := rngD 0 P)
          (fun d => d) (onI fun i => decide (evalL c i % p ≠ f.getD i.toNat 0)) (by simp [bp, pn]) (by rw [rngD_ln]; unfold lim; omega) (fun d' hd' => by
            obtain ⟨k, hk, rfl⟩ := rngD_mem hd'
            obtain ⟨i, hi⟩ : ∃ i : Int, i = 0 + (k : Int) := ⟨_, rfl⟩
            rw [← hi]
            have hv := value_ok p i (by omega) (small_of (by omega) (by omega)) c _ (.inr rfl)
            have hk' : i.toNat < f.length := by rw [hf.len]; omega
            have i1 : ixn f.length i = some i.toNat := ixn_at (by omega) (by omega)
            have g1 := getD_at hk'
            generalize ha : evalL c i % p = a at hv
            generalize hb : f.getD i.toNat 0 = b at g1
            refine ⟨_, rfl, ?_, rfl, fun _ => rfl⟩
            simp only [onI_int, ha, hb]
            simp [dC, hv, i1, g1])
        rw [List.map_id', filter_rng] at hc
        have ea : ((List.range P).filter fun (k : Nat) => decide (evalL c (k : Int) % p ≠ f.getD (k : Int).toNat 0)) = apart p P c f := rfl
        rw [ea] at hc
        simp only [unwipe_cons, unwipe_nil, wipe_cons, wipe_nil, List.getElem?_cons_succ, List.getElem?_cons_zero, List.set_cons_succ, List.set_cons_zero] at hc
        have e3 : (((allC P (Dn + 1)).take (j + 1)).filter (nearC p d P f)) = if nearC p d P f c then A ++ [c] else A := by
          rw [List.take_add_one, q, List.filter_append, hA]
          by_cases z : nearC p d P f c = true <;> simp [z]
        rw [e3]
        refine ok_step (e' := [.val (.int p), .val (.int d), .val (.tup (f.map .int)), .val (.lst ((allC P (Dn + 1)).map dC)), s4, s5, s6, .own (.lst (A.map dC)), .val (dC c), .val (.int (apart p P c f).length), s10, s11]) (by rw [sSet_u, bnd_u, eB_u, bnd_u, aCons_u, bnd_ok hc]; simp) ?_
        by_cases z : nearC p d P f c = true
        · have z' : 2 * (d + 1) * ((apart p P c f).length : Int) < p := of_decide_eq_true z
          rw [if_pos z]
          refine .of (a := .next) (e := [.val (.int p), .val (.int d), .val (.tup (f.map .int)), .val (.lst ((allC P (Dn + 1)).map dC)), s4, s5, s6, .own (.lst ((A ++ [c]).map dC)), .val (dC c), .val (.int (apart p P c f).length), s10, s11]) (by simp [sd, z', cApp, lA]) ⟨.inl rfl, _, _, _, rfl⟩
        · have z' : ¬ 2 * (d + 1) * ((apart p P c f).length : Int) < p := fun q => z (decide_eq_true q)
          rw [if_neg z]
          refine .of (a := .next) (e := [.val (.int p), .val (.int d), .val (.tup (f.map .int)), .val (.lst ((allC P (Dn + 1)).map dC)), s4, s5, s6, .own (.lst (A.map dC)), .val (dC c), .val (.int (apart p P c f).length), s10, s11]) (by simp [sd, z']) ⟨.inl rfl, _, _, _, rfl⟩
    · rintro e' ⟨s8, s9, s11, rfl⟩
      rw [List.length_map, List.take_length]
      exact ⟨rfl, ok_sret (by simp; exact ⟨rfl, rfl⟩) ⟨_, rfl, rfl, rfl⟩⟩
end K55
end Py
end
section
set_option linter.all false
set_option maxRecDepth 100000
set_option maxHeartbeats 0
namespace Py
/-- (e(y) - e(x)) / (y - x) -/
def qt (x : Int) : List Int → List Int
  | [] => []
  | [_] => []
  | _ :: b :: r => evalL (b :: r) x :: qt x (b :: r)
theorem qt_len (x : Int) : ∀ e : List Int, (qt x e).length = e.length - 1
  | [] => rfl
  | [_] => rfl
  | _ :: b :: r => by simp [qt, qt_len x (b :: r)]
theorem qt_eval (x y : Int) : ∀ e : List Int, evalL e y - evalL e x = (y - x) * evalL (qt x e) y
  | [] => by simp [qt, evalL_nil]
  | [a] => by simp [qt, evalL_nil, evalL_cons]
  | a :: b :: r => by
    have ih := qt_eval x y (b :: r)
    rw [qt, evalL_cons a, evalL_cons a, evalL_cons (evalL (b :: r) x)]
    generalize evalL (b :: r) x = u at ih ⊢
    generalize evalL (b :: r) y = v at ih ⊢
    generalize evalL (qt x (b :: r)) y = w at ih ⊢
    grind
theorem qt_zero {p x : Int} : ∀ e : List Int, Eqm p (evalL e x) 0 → (∀ z ∈ qt x e, Eqm p z 0) → ∀ z ∈ e, Eqm p z 0
  | [], _, _, z, hz => by simp at hz
  | [a], h, _, z, hz => by
    have : z = a := by simpa using hz
    subst this
    simpa [evalL_cons, evalL_nil] using h
  | a :: b :: r, h, hq, z, hz => by
    have h1 : Eqm p (evalL (b :: r) x) 0 := hq _ (by rw [qt]; exact List.mem_cons_self ..)
    have h2 := qt_zero (b :: r) h1 (fun z hz => hq z (by rw [qt]; exact List.mem_cons_of_mem _ hz))
    rcases List.mem_cons.mp hz with rfl | hz
    · rw [evalL_cons] at h
      have := h.sub ((Eqm.refl (a := x)).mul h1)
      refine Eqm.trans (.of ?_) (this.trans (.of (by simp)))
      omega
    · exact h2 z hz
theorem evalL_sub : ∀ (c C : List Int) (y : Int), c.length = C.length → evalL (List.zipWith (· - ·) c C) y = evalL c y - evalL C y
  | [], [], _, _ => by simp [evalL_nil]
  | [], _ :: _, _, h => by simp at h
  | _ :: _, [], _, h => by simp at h
  | a :: c, b :: C, y, h => by
    rw [List.zipWith_cons_cons, evalL_cons, evalL_cons, evalL_cons, evalL_sub c C y (by simpa using h), Int.mul_sub]
    omega
theorem eq_of_zip {p : Int} : ∀ (c C : List Int), c.length = C.length → (∀ z ∈ c, 0 ≤ z ∧ z < p) → (∀ z ∈ C, 0 ≤ z ∧ z < p) → (∀ z ∈ List.zipWith (· - ·) c C, Eqm p z 0) → c = C
  | [], [], _, _, _, _ => rfl
  | [], _ :: _, h, _, _, _ => by simp at h
  | _ :: _, [], h, _, _, _ => by simp at h
  | a :: c, b :: C, h, h1, h2, h3 => by
    have ha := h1 a (List.mem_cons_self ..)
    have hb := h2 b (List.mem_cons_self ..)
    have e := h3 (a - b) (by rw [List.zipWith_cons_cons]; exact List.mem_cons_self ..)
    have e2 : Eqm p a b := by
      have := e.add (Eqm.refl (a := b))
      refine Eqm.trans (.of ?_) (this.trans (.of ?_)) <;> omega
    have := eqm_small e2 ha.1 ha.2 hb.1 hb.2
    rw [this, eq_of_zip c C (by simpa using h) (fun z hz => h1 z (List.mem_cons_of_mem _ hz)) (fun z hz => h2 z (List.mem_cons_of_mem _ hz)) (fun z hz => h3 z (by rw [List.zipWith_cons_cons]; exact List.mem_cons_of_mem _ hz))]
namespace K55
theorem inv_zero {p : Int} {P : Nat} (hP : p = P) (hp : p ∈ primes) {m q : Int} (h0 : 0 < m) (h1 : m < p) (h : Eqm p (m * q) 0) : Eqm p q 0 := by
  have hb := prime_lo hp
  obtain ⟨j, _, _, hj⟩ := inv_ex hP hp h0 h1
  have e : Eqm p (m * j) 1 := by
    show _ % p = 1 % p
    rw [hj, Int.emod_eq_of_lt (by omega) (by omega)]
  have e1 := e.mul (Eqm.refl (p := p) (a := q))
  have e2 := (Eqm.refl (p := p) (a := j)).mul h
  refine Eqm.trans (.of (Int.one_mul q).symm) (e1.symm.trans (Eqm.trans (.of ?_) (e2.trans (.of (Int.mul_zero j)))))
  rw [Int.mul_comm m j, Int.mul_assoc]
theorem roots_zero {p : Int} {P : Nat} (hP : p = P) (hp : p ∈ primes) : ∀ (n : Nat) (e : List Int) (S : Nat), e.length = n → S + n ≤ P → (∀ i, i < n → Eqm p (evalL e ((S + i : Nat) : Int)) 0) → ∀ z ∈ e, Eqm p z 0
  | 0, e, _, h, _, _ => by
    have := List.eq_nil_of_length_eq_zero h
    subst this
    simp
  | n + 1, e, S, h, hS, hr => by
    have r0 := hr 0 (by omega)
    rw [Nat.add_zero] at r0
    refine qt_zero e r0 (roots_zero hP hp n (qt (S : Int) e) (S + 1) (by rw [qt_len]; omega) (by omega) fun i hi => ?_)
    have r1 := hr (i + 1) (by omega)
    have q := qt_eval (S : Int) ((S + (i + 1) : Nat) : Int) e
    have z : Eqm p ((((S + (i + 1) : Nat) : Int) - S) * evalL (qt S e) ((S + (i + 1) : Nat) : Int)) 0 := by
      rw [← q]
      exact (r1.sub r0).trans (.of (by simp))
    have := inv_zero hP hp (m := ((S + (i + 1) : Nat) : Int) - S) (by omega) (by omega) z
    rw [show S + 1 + i = S + (i + 1) by omega]
    exact this
/-- the coefficients are told by the values -/
theorem coef_uniq {p : Int} {P : Nat} (hP : p = P) (hp : p ∈ primes) {c C : List Int} (hl : c.length = C.length) (hn : c.length ≤ P) (h1 : ∀ z ∈ c, 0 ≤ z ∧ z < p) (h2 : ∀ z ∈ C, 0 ≤ z ∧ z < p) (h : ∀ x : Nat, x < P → Eqm p (evalL c x) (evalL C x)) : c = C := by
  refine eq_of_zip c C hl h1 h2 (roots_zero hP hp c.length _ 0 (by rw [List.length_zipWith]; omega) (by omega) fun i hi => ?_)
  rw [evalL_sub c C _ hl, Nat.zero_add]
  exact ((h i (by omega)).sub Eqm.refl).trans (.of (by omega))
def diffs (P : Nat) (G f : List Int) : List Nat := (List.range P).filter fun x => decide (G.getD x 0 ≠ f.getD x 0)
theorem diffs_comp {P : Nat} {G f : List Int} : (rngD 0 P).filter (onI fun i => decide (G.getD i.toNat 0 ≠ f.getD i.toNat 0)) = ((diffs P G f).map fun (x : Nat) => D.int (x : Int)) := by
  rw [filter_rng]; rfl
/-- how many of a row's members add up -/
theorem two_max {V : List Int} (h0 : ∀ z ∈ V, 0 ≤ z) {a b : Nat} (ha : a < V.length) (hb : b < V.length) (hab : a ≠ b) : V.getD a 0 + V.getD b 0 ≤ V.sum := by
  induction V generalizing a b with
  | nil => simp at ha
  | cons v V ih =>
    have nn : ∀ {l : List Int}, (∀ z ∈ l, 0 ≤ z) → ∀ k, k < l.length → l.getD k 0 ≤ l.sum := fun {l} => by
      induction l with
      | nil => intro _ k hk; simp at hk
      | cons x l ihl =>
        intro h k hk
        have s0 : 0 ≤ l.sum := sum_nonneg fun z hz => h z (List.mem_cons_of_mem _ hz)
        have hx := h x (List.mem_cons_self ..)
        cases k with
        | zero => simp; omega
        | succ k =>
          have := ihl (fun z hz => h z (List.mem_cons_of_mem _ hz)) k (by simpa using hk)
          simp only [List.sum_cons, List.getD_cons_succ]
          omega
    have hV : ∀ z ∈ V, 0 ≤ z := fun z hz => h0 z (List.mem_cons_of_mem _ hz)
    have hv := h0 v (List.mem_cons_self ..)
    cases a with
    | zero =>
      cases b with
      | zero => exact absurd rfl hab
      | succ b =>
        have := nn hV b (by simpa using hb)
        simp only [List.getD_cons_zero, List.getD_cons_succ, List.sum_cons]
        omega
    | succ a =>
      cases b with
      | zero =>
        have := nn hV a (by simpa using ha)
        simp only [List.getD_cons_zero, List.getD_cons_succ, List.sum_cons]
        omega
      | succ b =>
        have := ih hV (by simpa using ha) (by simpa using hb) (by omega)
        simp only [List.getD_cons_succ, List.sum_cons]
        omega
/-- most votes are for the polynomial's value -/
theorem arg_good {p : Int} {P Dn X : Nat} (hP : p = P) (hp : p ∈ primes) (hD : Dn ≤ 4) (hD2 : Dn + 2 ≤ P) {f G C0 : List Int} {s : Int} (hf : Tab p P f) (hC0 : C0.length = Dn + 1) (hG : ∀ x : Nat, x < P → G.getD x 0 = evalL C0 (x - s) % p) (hw : 2 * ((Dn + 1 : Nat) : Int) * (diffs P G f).length < p) {m : Int} (hm : ArgM (votesL (voteN (rowD Dn) f P (Dn + 1) X) P P) m) :
    m = evalL C0 (X - s) % p := by
  have h0 : 0 < P := by omega
  have hp0 : 0 < p := by omega
  have v0 := Int.emod_nonneg (evalL C0 (X - s)) (show p ≠ 0 by omega)
  have v1 := Int.emod_lt_of_pos (evalL C0 (X - s)) hp0
  have hmany := votes_many (X := X) (f := f) (s := s) hP hp hD hD2 hC0
  have ew : sumN P (fun y => one (err f P (fun n => evalL C0 (n - s)) y)) = (diffs P G f).length := by
    unfold diffs
    rw [len_filter]
    refine sumN_congr fun k hk => ?_
    congr 1
    unfold err fAt
    rw [Nat.mod_eq_of_lt hk, ← hP, ← hG k hk]
    rw [Bool.eq_iff_iff, decide_eq_true_eq, decide_eq_true_eq]
    exact ⟨fun h e => h e.symm, fun h e => h e.symm⟩
  rw [ew] at hmany
  have eV : (votesL (voteN (rowD Dn) f P (Dn + 1) X) P P).getD (evalL C0 (X - s) % p).toNat 0 = sumN P fun h => one (voteN (rowD Dn) f P (Dn + 1) X h == (evalL C0 (X - s) % p).toNat) := by
    have := votesL_get (V := voteN (rowD Dn) f P (Dn + 1) X) (k := P) (show (evalL C0 (X - s) % p).toNat < P by omega)
    simp [List.getD, this]
  rw [← eV] at hmany
  have hs := votes_sum (V := voteN (rowD Dn) f P (Dn + 1) X) (P := P) (fun h _ => vote_lt h0)
  have mu := hm.up
  rw [votesL_len] at mu
  apply Classical.byContradiction
  intro ne
  have t := two_max (V := votesL (voteN (rowD Dn) f P (Dn + 1) X) P P) (fun z hz => (votes_small (by have := prime_lo hp; omega) z hz).1) (a := m.toNat) (b := (evalL C0 (X - s) % p).toNat) (by rw [votesL_len]; have := hm.lo; omega) (by rw [votesL_len]; omega) (by have := hm.lo; omega)
  rw [hs] at t
  have mx := hm.mx.2 ((votesL (voteN (rowD Dn) f P (Dn + 1) X) P P).getD (evalL C0 (X - s) % p).toNat 0) (List.mem_of_getElem? (getD_at (by rw [votesL_len]; omega)))
  have : 2 * (((Dn + 1 : Nat) : Int) * (diffs P G f).length) = 2 * ((Dn + 1 : Nat) : Int) * (diffs P G f).length := by rw [Int.mul_assoc]
  omega
def tabOf (p : Int) (P : Nat) (c : List Int) : List Int := (List.range P).map fun (x : Nat) => evalL c (x : Int) % p
theorem tabOf_get {p : Int} {P : Nat} {c : List Int} {x : Nat} (h : x < P) : (tabOf p P c).getD x 0 = evalL c (x : Int) % p := by
  simp [tabOf, List.getD, h]
theorem tabOf_tab {p : Int} {P : Nat} {c : List Int} (hp : 0 < p) : Tab p P (tabOf p P c) := tab_of (by simp [tabOf]) fun x hx => by
  unfold tabOf at hx
  obtain ⟨k, _, rfl⟩ := List.mem_map.mp hx
  exact ⟨Int.emod_nonneg _ (by omega), Int.emod_lt_of_pos _ (by omega)⟩
theorem apart_diffs {p : Int} {P : Nat} {c f : List Int} : apart p P c f = diffs P (tabOf p P c) f := List.filter_congr fun z hz => by
  rw [tabOf_get (List.mem_range.mp hz)]
/-- a near curve is the one that is told -/
theorem close_is {p d : Int} {P Dn : Nat} (hP : p = P) (hp : p ∈ primes) (hd : d = Dn) (hD : Dn ≤ 4) (hD2 : Dn + 2 ≤ P) {f : List Int} (hf : Tab p P f) {c C : List Int} (hc : c.length = Dn + 1) (rc : ∀ z ∈ c, 0 ≤ z ∧ z < p) (hn : nearC p d P f c = true) (hC : C.length = Dn + 1) (rC : ∀ z ∈ C, 0 ≤ z ∧ z < p)
    (hm : ∀ X : Nat, X ≤ Dn → ∃ m, ArgM (votesL (voteN (rowD Dn) f P (Dn + 1) X) P P) m ∧ Eqm p (evalL C X) m) : C = c := by
  have hb := prime_lo hp
  have hw : 2 * ((Dn + 1 : Nat) : Int) * (diffs P (tabOf p P c) f).length < p := by
    have := of_decide_eq_true hn
    rw [apart_diffs] at this
    rw [show ((Dn + 1 : Nat) : Int) = d + 1 by omega]
    exact this
  have gC := good_poly (p := p) hC hD 0
  have gc := good_poly (p := p) hc hD 0
  refine coef_uniq hP hp (by omega) (by omega) rC rc fun x hx => ?_
  have key := good_all (by omega) gC gc 0 (fun i hi => ?_) x
  · simpa using key
  · obtain ⟨m, am, em⟩ := hm i hi
    have := arg_good (s := 0) hP hp hD hD2 hf hc (fun x hx => by rw [tabOf_get hx]; simp) hw am
    rw [this] at em
    have em2 := em.trans eqm_mod
    simpa using em2
end K55
end Py
end
section
set_option linter.all false
set_option maxRecDepth 100000
set_option maxHeartbeats 0
namespace Py
theorem one_sq (b : Bool) : one b * one b = one b := by cases b <;> rfl
/-- s (2 - s) -/
theorem pair_sum (q : Nat → Bool) : ∀ n, sumN n (fun i => one (q i) - 2 * sumN i (fun j => one (q i) * one (q j))) = sumN n (fun i => one (q i)) * (2 - sumN n (fun i => one (q i)))
  | 0 => by simp [sumN]
  | n + 1 => by
    rw [sumN, pair_sum q n, sumN, sumN_mul]
    have := one_sq (q n)
    generalize one (q n) = w at this ⊢
    generalize sumN n (fun i => one (q i)) = s
    grind
theorem one_only {q : Nat → Bool} : ∀ {n : Nat}, sumN n (fun i => one (q i)) = 1 → ∃ i, i < n ∧ q i = true ∧ ∀ k, k < n → k ≠ i → q k = false
  | 0, h => by simp [sumN] at h
  | n + 1, h => by
    rw [sumN] at h
    have nn : 0 ≤ sumN n (fun i => one (q i)) := sumN_nonneg fun _ _ => one_nonneg _
    cases e : q n with
    | false =>
      rw [e] at h
      obtain ⟨i, hi, e2, e3⟩ := one_only (q := q) (n := n) (by simpa [one] using h)
      refine ⟨i, by omega, e2, fun k hk hne => ?_⟩
      rcases Nat.lt_succ_iff_lt_or_eq.mp hk with hk | rfl
      · exact e3 k hk hne
      · exact e
    | true =>
      rw [e] at h
      have z : sumN n (fun i => one (q i)) = 0 := by
        have : one true = 1 := rfl
        omega
      refine ⟨n, by omega, e, fun k hk hne => ?_⟩
      cases e2 : q k with
      | false => rfl
      | true =>
        have := sumN_ge_one (q := q) (n := n) (k := k) (by omega) e2
        omega
theorem pair_le {q : Nat → Bool} {n : Nat} {b : Bool} (h : ∀ i, i < n → q i = true → (∀ k, k < n → k ≠ i → q k = false) → b = true) : sumN n (fun i => one (q i) - 2 * sumN i (fun j => one (q i) * one (q j))) ≤ one b := by
  rw [pair_sum]
  have nn : 0 ≤ sumN n (fun i => one (q i)) := sumN_nonneg fun _ _ => one_nonneg _
  have ob := one_nonneg b
  obtain ⟨s, hs⟩ : ∃ s, s = sumN n (fun i => one (q i)) := ⟨_, rfl⟩
  rw [← hs] at nn ⊢
  by_cases z0 : s = 0
  · rw [z0, Int.zero_mul]; exact ob
  · by_cases z1 : s = 1
    · obtain ⟨i, hi, e1, e2⟩ := one_only (q := q) (n := n) (by rw [← hs, z1])
      rw [h i hi e1 e2, z1]
      decide
    · have : s * (2 - s) ≤ s * 0 := Int.mul_le_mul_of_nonneg_left (by omega) nn
      omega
/-- sums over shifted places -/
theorem shift_ge {G : Nat → Int} {P : Nat} (h0 : ∀ y, 0 ≤ G y) (hP : 0 < P) (k : Nat) : sumN P G ≤ sumN P fun x => G ((x + k) % P) := by
  have e : sumN P G = sumN P fun y => G (((y + (P - k % P)) % P + k) % P) := sumN_congr fun y hy => by
    congr 1
    have h1 : k % P < P := Nat.mod_lt _ hP
    have h2 : (((y + (P - k % P)) % P + k) % P) = (y + (P - k % P) + k) % P := by rw [Nat.mod_add_mod]
    have e1 := Nat.div_add_mod k P
    have h3 : y + (P - k % P) + k = y + P * (k / P + 1) := by rw [Nat.mul_add]; omega
    rw [h2, h3, Nat.add_mul_mod_self_left, Nat.mod_eq_of_lt hy]
  rw [e]
  refine sumN_inj (G := fun x => G ((x + k) % P)) (φ := fun y => (y + (P - k % P)) % P) (fun _ => h0 _) (fun y _ => Nat.mod_lt _ hP) fun a b ha hb h => ?_
  have d : (P : Int) ∣ (a : Int) - b := Int.dvd_of_emod_eq_zero (by
    have e : ((a + (P - k % P) : Nat) : Int) % P = ((b + (P - k % P) : Nat) : Int) % P := by exact_mod_cast h
    have : (a : Int) - b = ((a + (P - k % P) : Nat) : Int) - ((b + (P - k % P) : Nat) : Int) := by omega
    rw [this, Int.sub_emod, e]; simp)
  obtain ⟨q, hq⟩ := d
  have : q = 0 := by
    rcases Int.lt_trichotomy q 0 with y | y | y
    · have : (P : Int) * q ≤ (P : Int) * (-1) := Int.mul_le_mul_of_nonneg_left (by omega) (by omega)
      omega
    · exact y
    · have : (P : Int) * 1 ≤ (P : Int) * q := Int.mul_le_mul_of_nonneg_left (by omega) (by omega)
      omega
  subst this
  omega
theorem shift_le {G : Nat → Int} {P : Nat} (h0 : ∀ y, 0 ≤ G y) (hP : 0 < P) (k : Nat) : (sumN P fun x => G ((x + k) % P)) ≤ sumN P G := by
  refine sumN_inj (φ := fun x => (x + k) % P) h0 (fun y _ => Nat.mod_lt _ hP) fun a b ha hb h => ?_
  have d : (P : Int) ∣ (a : Int) - b := Int.dvd_of_emod_eq_zero (by
    have e : ((a + k : Nat) : Int) % P = ((b + k : Nat) : Int) % P := by exact_mod_cast h
    have : (a : Int) - b = ((a + k : Nat) : Int) - ((b + k : Nat) : Int) := by omega
    rw [this, Int.sub_emod, e]; simp)
  obtain ⟨q, hq⟩ := d
  have : q = 0 := by
    rcases Int.lt_trichotomy q 0 with y | y | y
    · have : (P : Int) * q ≤ (P : Int) * (-1) := Int.mul_le_mul_of_nonneg_left (by omega) (by omega)
      omega
    · exact y
    · have : (P : Int) * 1 ≤ (P : Int) * q := Int.mul_le_mul_of_nonneg_left (by omega) (by omega)
      omega
  subst this
  omega
theorem sumN_const (w : Int) : ∀ m : Nat, sumN m (fun _ => w) = m * w
  | 0 => by simp [sumN]
  | m + 1 => by rw [sumN, sumN_const w m, Int.natCast_succ, Int.add_mul]; omega
theorem sumN_sub (f g : Nat → Int) : ∀ n, sumN n (fun k => f k - g k) = sumN n f - sumN n g
  | 0 => rfl
  | n + 1 => by rw [sumN, sumN, sumN, sumN_sub f g n]; omega
namespace K55
/-- pairs in which one place alone is wrong -/
theorem pairs_ge {p : Int} {P n : Nat} (hP : p = P) (hp : p ∈ primes) (hn : n ≤ 6) (hn2 : n ≤ P) (q : Nat → Bool) :
    (n : Int) * (P * sumN P (fun y => one (q y))) - (n : Int) * (n - 1) * (sumN P (fun y => one (q y)) * sumN P (fun y => one (q y))) ≤
      sumN P fun x => sumN P fun h => sumN n (fun i => one (q ((x + i * h) % P)) - 2 * sumN i (fun j => one (q ((x + i * h) % P)) * one (q ((x + j * h) % P)))) := by
  have hb := prime_lo hp
  have h0 : 0 < P := by omega
  obtain ⟨w, hw⟩ : ∃ w, w = sumN P (fun y => one (q y)) := ⟨_, rfl⟩
  have w0 : 0 ≤ w := by rw [hw]; exact sumN_nonneg fun _ _ => one_nonneg _
  -- the places alone
  have A : ∀ i, P * w ≤ sumN P fun x => sumN P fun h => one (q ((x + i * h) % P)) := fun i => by
    rw [sumN_swap (fun x h => one (q ((x + i * h) % P)))]
    have : sumN P (fun _ => w) ≤ sumN P fun h => sumN P fun x => one (q ((x + i * h) % P)) := sumN_le fun h _ => by
      rw [hw]
      exact shift_ge (G := fun y => one (q y)) (fun _ => one_nonneg _) h0 (i * h)
    rw [sumN_const] at this
    exact this
  -- two places
  have B : ∀ i j, j < i → i < n → (sumN P fun x => sumN P fun h => one (q ((x + i * h) % P)) * one (q ((x + j * h) % P))) ≤ w * w := fun i j hj hi => by
    rw [sumN_swap (fun x h => one (q ((x + i * h) % P)) * one (q ((x + j * h) % P)))]
    have s1 : (sumN P fun h => sumN P fun x => one (q ((x + i * h) % P)) * one (q ((x + j * h) % P))) ≤ sumN P fun h => sumN P fun y => one (q ((y + (1 + (i - j - 1)) * h) % P)) * one (q y) := sumN_le fun h _ => by
      have e : (sumN P fun x => one (q ((x + i * h) % P)) * one (q ((x + j * h) % P))) = sumN P fun x => (fun y => one (q ((y + (1 + (i - j - 1)) * h) % P)) * one (q y)) ((x + j * h) % P) := sumN_congr fun x _ => by
        show _ = one (q (((x + j * h) % P + (1 + (i - j - 1)) * h) % P)) * one (q ((x + j * h) % P))
        have : ((x + j * h) % P + (1 + (i - j - 1)) * h) % P = (x + i * h) % P := by
          rw [Nat.mod_add_mod, Nat.add_assoc, ← Nat.add_mul]
          congr 3
          omega
        rw [this]
      rw [e]
      exact shift_le (G := fun y => one (q ((y + (1 + (i - j - 1)) * h) % P)) * one (q y)) (fun y => Int.mul_nonneg (one_nonneg _) (one_nonneg _)) h0 (j * h)
    refine Int.le_trans s1 ?_
    rw [sumN_swap (fun h y => one (q ((y + (1 + (i - j - 1)) * h) % P)) * one (q y))]
    have s2 : (sumN P fun y => sumN P fun h => one (q ((y + (1 + (i - j - 1)) * h) % P)) * one (q y)) ≤ sumN P fun y => w * one (q y) := sumN_le fun y _ => by
      have e : (sumN P fun h => one (q ((y + (1 + (i - j - 1)) * h) % P)) * one (q y)) = one (q y) * sumN P fun h => one (q ((y + (1 + (i - j - 1)) * h) % P)) := by
        rw [← sumN_mul]
        exact sumN_congr fun h _ => Int.mul_comm _ _
      rw [e, Int.mul_comm w]
      refine Int.mul_le_mul_of_nonneg_left ?_ (one_nonneg _)
      rw [hw]
      exact sumN_inj (G := fun y => one (q y)) (φ := fun h => (y + (1 + (i - j - 1)) * h) % P) (fun _ => one_nonneg _) (fun _ _ => Nat.mod_lt _ h0) fun a b ha hb' e => injP hP hp y (i - j - 1) (by omega) (by omega) a b ha hb' e
    refine Int.le_trans s2 ?_
    rw [sumN_mul, ← hw]
    exact Int.le_refl _
  -- all
  have e1 : (sumN P fun x => sumN P fun h => sumN n (fun i => one (q ((x + i * h) % P)) - 2 * sumN i (fun j => one (q ((x + i * h) % P)) * one (q ((x + j * h) % P))))) = sumN n fun i => (sumN P fun x => sumN P fun h => one (q ((x + i * h) % P))) - 2 * sumN i fun j => sumN P fun x => sumN P fun h => one (q ((x + i * h) % P)) * one (q ((x + j * h) % P)) := by
    have a1 : ∀ x, (sumN P fun h => sumN n (fun i => one (q ((x + i * h) % P)) - 2 * sumN i (fun j => one (q ((x + i * h) % P)) * one (q ((x + j * h) % P))))) = sumN n fun i => (sumN P fun h => one (q ((x + i * h) % P))) - 2 * sumN i fun j => sumN P fun h => one (q ((x + i * h) % P)) * one (q ((x + j * h) % P)) := fun x => by
      rw [sumN_swap (fun h i => one (q ((x + i * h) % P)) - 2 * sumN i (fun j => one (q ((x + i * h) % P)) * one (q ((x + j * h) % P))))]
      refine sumN_congr fun i _ => ?_
      rw [sumN_sub, sumN_mul, sumN_swap (fun h j => one (q ((x + i * h) % P)) * one (q ((x + j * h) % P)))]
    rw [sumN_congr (fun x _ => a1 x), sumN_swap (fun x i => (sumN P fun h => one (q ((x + i * h) % P))) - 2 * sumN i fun j => sumN P fun h => one (q ((x + i * h) % P)) * one (q ((x + j * h) % P)))]
    refine sumN_congr fun i _ => ?_
    rw [sumN_sub, sumN_mul, sumN_swap (fun x j => sumN P fun h => one (q ((x + i * h) % P)) * one (q ((x + j * h) % P)))]
  rw [e1, ← hw]
  have le : sumN n (fun i => P * w - 2 * (i * (w * w))) ≤ sumN n fun i => (sumN P fun x => sumN P fun h => one (q ((x + i * h) % P))) - 2 * sumN i fun j => sumN P fun x => sumN P fun h => one (q ((x + i * h) % P)) * one (q ((x + j * h) % P)) := sumN_le fun i hi => by
    have a := A i
    have b : (sumN i fun j => sumN P fun x => sumN P fun h => one (q ((x + i * h) % P)) * one (q ((x + j * h) % P))) ≤ sumN i fun _ => w * w := sumN_le fun j hj => B i j hj hi
    rw [sumN_const] at b
    omega
  refine Int.le_trans (Int.le_of_eq ?_) le
  have tri : ∀ (n : Nat) (u v : Int), sumN n (fun i => u - 2 * (i * v)) = n * u - n * (n - 1) * v := fun n u v => by
    induction n with
    | zero => simp [sumN]
    | succ n ih => rw [sumN, ih]; push_cast; grind
  exact (tri n (P * w) (w * w)).symm
theorem row_all {d : Nat} (hd : d ≤ 4) {c : List Int} (hc : c.length = d + 1) (X H : Int) : sumN (d + 2) (fun k => rAt (rowD d) k * evalL c (X + (k : Int) * H)) = 0 := by
  have := row_poly hd hc 0 X H
  rw [sumN_front, rowD_0]
  simp only [Int.sub_zero] at this
  have e : sumN (d + 1) (fun k => rAt (rowD d) (k + 1) * evalL c (X + ((k + 1 : Nat) : Int) * H)) = sumN (d + 1) (fun k => rAt (rowD d) (1 + k) * evalL c (X + ((1 + k : Nat) : Int) * H)) := sumN_congr fun k _ => by rw [Nat.add_comm]
  rw [e]
  simpa using this
theorem rowD_unit : ∀ P ∈ ([2, 3, 5, 7, 11, 13, 17, 19, 23, 29, 31, 37, 41, 43, 47, 53, 59, 61, 67, 71, 73, 79, 83, 89, 97, 101] : List Nat), ∀ d ∈ ([0, 1, 2, 3, 4] : List Nat), d + 2 ≤ P → ∀ k ∈ List.range (d + 2), rAt (rowD d) k % (P : Int) ≠ 0 := by decide +kernel
/-- one wrong place breaks the pair -/
theorem breaks {p : Int} {P d X H : Nat} {f c : List Int} (hP : p = P) (hp : p ∈ primes) (hd : d ≤ 4) (hd2 : d + 2 ≤ P) (hc : c.length = d + 1) (hf : Tab p P f) {i : Nat} (hi : i < d + 2)
    (h1 : err f P (fun n => evalL c n) ((X + i * H) % P) = true) (h2 : ∀ k, k < d + 2 → k ≠ i → err f P (fun n => evalL c n) ((X + k * H) % P) = false) : 0 < stepS (rowD d) f P 0 (d + 2) X H % (P : Int) := by
  have hb := prime_lo hp
  have h0 : 0 < P := by omega
  -- the lack at a place
  obtain ⟨D, hD⟩ : ∃ D : Nat → Int, D = fun k => rAt (rowD d) k * (fAt f P (X + k * H) - evalL c ((X : Int) + (k : Int) * H)) := ⟨_, rfl⟩
  have eS : stepS (rowD d) f P 0 (d + 2) X H = sumN (d + 2) D := by
    have := row_all hd hc X H
    have e : sumN (d + 2) D = sumN (d + 2) (fun k => rAt (rowD d) k * fAt f P (X + k * H)) - sumN (d + 2) (fun k => rAt (rowD d) k * evalL c ((X : Int) + (k : Int) * H)) := by
      rw [← sumN_sub, hD]
      exact sumN_congr fun k _ => Int.mul_sub _ _ _
    rw [e, this, Int.sub_zero]
    unfold stepS
    exact sumN_congr fun k _ => by rw [Nat.zero_add]
  have ev : ∀ k : Nat, Eqm p (evalL c (((X + k * H) % P : Nat) : Int)) (evalL c ((X : Int) + (k : Int) * H)) := fun k => by
    have e : (((X + k * H) % P : Nat) : Int) = ((X : Int) + (k : Int) * H) % p := by subst hP; push_cast; rfl
    rw [e]
    exact evalL_eqm c eqm_mod
  have fa : ∀ z : Nat, fAt f P (z % P) = fAt f P z := fun z => by unfold fAt; rw [Nat.mod_mod]
  have z0 : ∀ k, k < d + 2 → k ≠ i → Eqm p (D k) 0 := fun k hk hne => by
    have := h2 k hk hne
    unfold err at this
    simp only [decide_eq_false_iff_not, ne_eq, Decidable.not_not, Nat.mod_mod] at this
    rw [fa] at this
    rw [hD]
    show Eqm p (rAt (rowD d) k * (fAt f P (X + k * H) - evalL c ((X : Int) + (k : Int) * H))) 0
    rw [this, ← hP]
    have e : Eqm p (evalL c (((X + k * H) % P : Nat) : Int) % p - evalL c ((X : Int) + (k : Int) * H)) 0 := ((eqm_mod.trans (ev k)).sub Eqm.refl).trans (.of (by omega))
    exact (Eqm.refl.mul e).trans (.of (Int.mul_zero _))
  have e2 : Eqm p (sumN (d + 2) D) (D i) := by
    have : Eqm p (sumN (d + 2) D) (sumN (d + 2) fun k => one (k == i) * D k) := sumN_eqm fun k hk => by
      by_cases z : k = i
      · subst z; exact .of (by simp [one])
      · have : (k == i) = false := by simpa using z
        rw [this]
        exact (z0 k hk z).trans (.of (by simp [one]))
    rw [sumN_pick D i (d + 2) hi] at this
    exact this
  have nz : ¬ Eqm p (D i) 0 := fun z => by
    unfold err at h1
    simp only [decide_eq_true_eq, ne_eq, Nat.mod_mod] at h1
    rw [fa] at h1
    rw [hD] at z
    have z : Eqm p (rAt (rowD d) i * (fAt f P (X + i * H) - evalL c ((X : Int) + (i : Int) * H))) 0 := z
    have ru := rowD_unit P (primesN hP hp) d (by simp only [List.mem_cons, List.not_mem_nil, or_false]; omega) hd2 i (List.mem_range.mpr hi)
    have r0 := Int.emod_nonneg (rAt (rowD d) i) (show p ≠ 0 by omega)
    have r1 := Int.emod_lt_of_pos (rAt (rowD d) i) (show 0 < p by omega)
    have z2 := inv_zero hP hp (m := rAt (rowD d) i % p) (by rw [← hP] at ru; omega) r1 ((eqm_mod.mul Eqm.refl).trans z)
    apply h1
    rw [← hP]
    have z3 : Eqm p (fAt f P (X + i * H)) (evalL c (((X + i * H) % P : Nat) : Int) % p) := by
      have := z2.add (Eqm.refl (a := evalL c ((X : Int) + (i : Int) * H)))
      refine Eqm.trans (.of (by omega)) (this.trans (Eqm.trans (.of (by omega)) ((ev i).symm.trans eqm_mod.symm)))
    have fl : (X + i * H) % P < f.length := by rw [hf.len]; exact Nat.mod_lt _ h0
    have mem : fAt f P (X + i * H) ∈ f := List.mem_of_getElem? (getD_at fl)
    exact eqm_small z3 (hf.low _ mem) (hf.up _ mem) (Int.emod_nonneg _ (by omega)) (Int.emod_lt_of_pos _ (by omega))
  rw [eS]
  have nn := Int.emod_nonneg (sumN (d + 2) D) (show (P : Int) ≠ 0 by omega)
  apply Classical.byContradiction
  intro q
  apply nz
  refine e2.symm.trans ?_
  show _ % p = 0 % p
  rw [hP]
  have : sumN (d + 2) D % (P : Int) = 0 := by omega
  rw [this]
  simp
theorem broken_ge {p : Int} {P d : Nat} {f c : List Int} (hP : p = P) (hp : p ∈ primes) (hd : d ≤ 4) (hd2 : d + 2 ≤ P) (hc : c.length = d + 1) (hf : Tab p P f) {w : Int} (hw : w = sumN P fun y => one (err f P (fun n => evalL c n) y)) :
    ((d + 2 : Nat) : Int) * (P * w) - ((d + 2 : Nat) : Int) * ((d + 2 : Nat) - 1) * (w * w) ≤ badN (rowD d) f P (d + 2) := by
  have h := pairs_ge (n := d + 2) hP hp (by omega) hd2 (fun y => err f P (fun n => evalL c n) y)
  rw [← hw] at h
  refine Int.le_trans h ?_
  unfold badN
  refine sumN_le fun x hx => sumN_le fun hh hhh => ?_
  exact pair_le (q := fun i => err f P (fun n => evalL c n) ((x + i * hh) % P)) fun i hi e1 e2 => decide_eq_true (breaks hP hp hd hd2 hc hf hi e1 e2)
/-- near, and few are wrong: fewer still -/
theorem near_few {B p d w : Int} (hd : 0 ≤ d) (hp : 0 < p) (hw : 0 ≤ w) (hB : (d + 2) * (p * w) - (d + 2) * (d + 1) * (w * w) ≤ B) (h : 2 * (d + 1) * w < p) (hn : B * (d + 1) * (d + 3) * (d + 3) < (d + 2) * p * p) : w * (d + 1) * (d + 3) < p := by
  -- 2 B ≥ (d + 2) w p
  have b1 : (d + 2) * (w * p) ≤ 2 * B := by
    have a : w * (2 * (d + 1) * w) ≤ w * p := Int.mul_le_mul_of_nonneg_left (by omega) hw
    have b := Int.mul_le_mul_of_nonneg_left a (show 0 ≤ d + 2 by omega)
    have e1 : (d + 2) * (w * (2 * (d + 1) * w)) = 2 * ((d + 2) * (d + 1) * (w * w)) := by grind
    have e2 : (d + 2) * (p * w) = (d + 2) * (w * p) := by rw [Int.mul_comm p]
    omega
  obtain ⟨K, hK⟩ : ∃ K, K = (d + 1) * (d + 3) * (d + 3) := ⟨_, rfl⟩
  have hK0 : 0 ≤ K := by rw [hK]; exact Int.mul_nonneg (Int.mul_nonneg (by omega) (by omega)) (by omega)
  have b2 : (d + 2) * (w * p) * K ≤ 2 * B * K := Int.mul_le_mul_of_nonneg_right b1 hK0
  have e3 : B * (d + 1) * (d + 3) * (d + 3) = B * K := by rw [hK]; grind
  rw [e3] at hn
  have b3 : (d + 2) * (w * p) * K < 2 * ((d + 2) * p * p) := by
    have : 2 * B * K = 2 * (B * K) := Int.mul_assoc _ _ _
    omega
  have b4 : w * K < 2 * p := by
    apply Classical.byContradiction
    intro q
    have c1 : (d + 2) * p * (2 * p) ≤ (d + 2) * p * (w * K) := Int.mul_le_mul_of_nonneg_left (by omega) (Int.mul_nonneg (by omega) (by omega))
    have c2 : (d + 2) * p * (2 * p) = 2 * ((d + 2) * p * p) := by grind
    have c3 : (d + 2) * p * (w * K) = (d + 2) * (w * p) * K := by grind
    omega
  have b5 : 3 * (w * (d + 1) * (d + 3)) ≤ (d + 3) * (w * (d + 1) * (d + 3)) := Int.mul_le_mul_of_nonneg_right (by omega) (Int.mul_nonneg (Int.mul_nonneg hw (by omega)) (by omega))
  have e6 : (d + 3) * (w * (d + 1) * (d + 3)) = w * K := by rw [hK]; grind
  omega
end K55
end Py
end
section
set_option linter.all false
set_option maxRecDepth 100000
set_option maxHeartbeats 0
namespace Py
/-- a draw within a comprehension -/
theorem comp_draw {F : Cell → Prop} {p : Int} {b : M W} {i : Nat} (E : Cell → Env) (hw : ∀ c, wipe [i] (E c) = E c) (hw2 : ∀ c d, wipe [i] ((E c).set i (.val d)) = E c)
    (hb : ∀ c d, F c → ∃ (v : Int) (c' : Cell), F c' ∧ 0 ≤ v ∧ v < p ∧ b ((E c).set i (.val d)) = .ok (.d (.int v)) ((E c').set i (.val d))) :
    ∀ (ds : List D) (acc : List D) (c : Cell), F c → ∃ (vs : List Int) (c' : Cell), F c' ∧ vs.length = ds.length ∧ (∀ x ∈ vs, 0 ≤ x ∧ x < p) ∧ compL (gName i) tYes b [i] ds acc (E c) = .ok (acc ++ vs.map .int) (E c')
  | [], acc, c, h => ⟨[], c, h, rfl, by simp, by simp [compL]⟩
  | d :: ds, acc, c, h => by
    obtain ⟨v, c1, h1, h2, h3, h4⟩ := hb c d h
    obtain ⟨vs, c', h5, h6, h7, h8⟩ := comp_draw E hw hw2 hb ds (acc ++ [.int v]) c1 h1
    refine ⟨v :: vs, c', h5, by simp [h6], fun x hx => ?_, ?_⟩
    · rcases List.mem_cons.mp hx with rfl | hx
      · exact ⟨h2, h3⟩
      · exact h7 x hx
    · show bnd (gName i d) _ (E c) = _
      rw [bnd_ok (gName_u i d (E c)), bnd_ok (tYes_u _)]
      simp only [if_true]
      rw [bnd_ok h4, bnd_ok (frz_d _ _), hw2, h8]
      simp

theorem ints_rep {c : List Int} (h : ∀ z ∈ c, 0 ≤ z ∧ z < 1000) (hl : c.length ≤ 2000) : bRepr [.tup (c.map .int)] = some (.d (.str (D.tup (c.map .int)).text)) := by
  refine bRepr_ok (w := 66 * (c.map D.int).length) (k := 1) (rep_tup fun d hd => ?_) (by rw [List.length_map]; omega) (by omega)
  obtain ⟨i, hi, rfl⟩ := List.mem_map.mp hd
  have := h i hi
  exact rep_int (by omega)
@[simp] theorem bInt_t : bInt [.bl true] = some (.d (.int 1)) := rfl
@[simp] theorem bInt_f : bInt [.bl false] = some (.d (.int 0)) := rfl
@[simp] theorem bInt_b (b : Bool) : bInt [.bl b] = some (.d (.int (if b then 1 else 0))) := by cases b <;> rfl
theorem rep_non : bRepr [.non] = some (.d (.str (D.non).text)) := by kernel_rfl
theorem int_rep {z : Int} (h : 0 ≤ z ∧ z < 1000) : bRepr [.int z] = some (.d (.str (D.int z).text)) := bRepr_ok (rep_int (by omega)) (by omega) (by omega)
namespace K55
theorem diffs_set {P : Nat} {G f : List Int} (j : Nat) (v : Int) : ((diffs P G (f.set j v)).length : Int) ≤ (diffs P G f).length + 1 := by
  unfold diffs
  rw [len_filter, len_filter]
  have le : sumN P (fun x => one (decide (G.getD x 0 ≠ (f.set j v).getD x 0))) ≤ sumN P fun x => one (decide (G.getD x 0 ≠ f.getD x 0)) + one (x == j) := sumN_le fun x hx => by
    by_cases z : x = j
    · subst z
      have a := one_nonneg (decide (G.getD x 0 ≠ f.getD x 0))
      have b : one (decide (G.getD x 0 ≠ (f.set x v).getD x 0)) ≤ 1 := by unfold one; split <;> decide
      have c : one (x == x) = 1 := by simp [one]
      omega
    · have e : (f.set j v).getD x 0 = f.getD x 0 := by
        simp only [List.getD, List.getElem?_set]
        rw [if_neg (fun q => z q.symm)]
      rw [e]
      have := one_nonneg (x == j)
      omega
  rw [sumN_add, sumN_one] at le
  have : one (decide (j < P)) ≤ 1 := by unfold one; split <;> decide
  omega
theorem diffs_self {P : Nat} {G : List Int} : diffs P G G = [] := by
  unfold diffs
  rw [List.filter_eq_nil_iff]
  intro x _
  simp
theorem turned2_ok (ds : List Int) (a : Nat) (p many : Int) (P : Nat) (hp : 0 < p) (hP : p = P) (f : List Int) (hf : Tab p P f) (hm0 : 0 ≤ many) (hm : many < 1000) : ∃ (f' : List Int) (a' : Nat), Tab p P f' ∧ ((diffs P f f').length : Int) ≤ many ∧ g__law_turned [.l (hand ds a), .a (.int p), .a (.tup (f.map .int)), .a (.int many)] = .ok (.d (.tup (f'.map .int))) [hand ds a'] := by
  suffices k : ∃ r cs, g__law_turned [.l (hand ds a), .a (.int p), .a (.tup (f.map .int)), .a (.int many)] = .ok r cs ∧ ∃ (c : List Int) (a' : Nat), (r = .d (.tup (c.map .int)) ∧ cs = [hand ds a']) ∧ Tab p P c ∧ ((diffs P f c).length : Int) ≤ many by
    obtain ⟨r, cs, h, c, a', ⟨rfl, rfl⟩, t, t2⟩ := k
    exact ⟨c, a', t, t2, h⟩
  rw [e__law_turned]
  refine fin_ok ?_
  unfold b__law_turned
  refine ok_step (e' := [.al 5, .val (.int p), .own (.lst (f.map .int)), .val (.int many), .un, .lent (hand ds a)]) (by simp) ?_
  refine ok_seq (ok_for (fun k e => ∃ (g : List Int) (a : Nat) (s : Sl), e = [.al 5, .val (.int p), .own (.lst (g.map .int)), .val (.int many), s, .lent (hand ds a)] ∧ Tab p P g ∧ ((diffs P f g).length : Int) ≤ k) (ds := rngD 0 many.toNat) (by simp [big_of (show -(2 ^ 62) ≤ many by omega) (show many < 2 ^ 62 by omega)]; rfl) ?_ ?_ ?_)
  · exact ⟨f, a, _, rfl, hf, by rw [diffs_self]; simp⟩
  · rintro k d e hd ⟨g, a, s, rfl, ht, hk2⟩
    obtain ⟨hk, i, hi, rfl⟩ := rngD_at hd
    obtain ⟨v, v0, v1, h1⟩ := take_ok ds a p hp
    obtain ⟨u, u0, u1, h2⟩ := take_ok ds (a + 1) p hp
    obtain ⟨j, hj⟩ : ∃ j : Nat, u = j := ⟨_, (Int.toNat_of_nonneg u0).symm⟩
    have hj2 : j < g.length := by rw [ht.len]; omega
    have i1 : ixn g.length u = some j := by rw [hj]; exact ixn_nat hj2
    refine ⟨_, rfl, .of (by simp [h1, h2, i1]; exact ⟨rfl, rfl⟩) ?_⟩
    refine ⟨.inl rfl, g.set j v, _, _, by rw [List.map_set], set_tab ht j v0 v1, ?_⟩
    have := diffs_set (P := P) (G := f) (f := g) j v
    push_cast
    omega
  · rintro e' ⟨g, a, s, rfl, ht, hk2⟩
    rw [rngD_ln] at hk2
    exact ⟨rfl, .of (by simp; exact ⟨rfl, rfl⟩) ⟨_, _, _, rfl, rfl, rfl, g, _, ⟨rfl, rfl⟩, ht, by omega⟩⟩
theorem small_min {p : Int} {P : Nat} (hP : p = P) (hp : p ∈ primes13) (a2 a3 a4 a5 a6 a7 a8 : Sl) : ∃ m : Int, 0 < m ∧ m ≤ p - 1 ∧ m ≤ 3 ∧ P ^ m.toNat ≤ 1000 ∧
    (eB bMin (aCons (eOp oIx (eLst (aConsF (eC (.int 2)) (aConsF (eC (.int 3)) aNil))) (eB bInt (aCons (eOp oLt (eVar 1) (eC (.int 8))) aNil))) (aCons (eOp oSub (eVar 1) (eC (.int 1))) aNil))) [.al 8, .val (.int p), a2, a3, a4, a5, a6, a7, a8] = .ok (.d (.int m)) [.al 8, .val (.int p), a2, a3, a4, a5, a6, a7, a8] := by
  unfold primes13 at hp
  simp only [List.mem_cons, List.not_mem_nil, or_false] at hp
  have l2 : 2 ≤ lim := by decide
  rcases hp with rfl | rfl | rfl | rfl | rfl | rfl
  · have : P = 2 := by omega
    subst this
    exact ⟨1, by decide, by decide, by decide, by decide, by simp [l2]⟩
  · have : P = 3 := by omega
    subst this
    exact ⟨2, by decide, by decide, by decide, by decide, by simp [l2]⟩
  · have : P = 5 := by omega
    subst this
    exact ⟨3, by decide, by decide, by decide, by decide, by simp [l2]⟩
  · have : P = 7 := by omega
    subst this
    exact ⟨3, by decide, by decide, by decide, by decide, by simp [l2]⟩
  · have : P = 11 := by omega
    subst this
    exact ⟨2, by decide, by decide, by decide, by decide, by simp [l2]⟩
  · have : P = 13 := by omega
    subst this
    exact ⟨2, by decide, by decide, by decide, by decide, by simp [l2]⟩
end K55
end Py
end
section
set_option linter.all false
set_option maxRecDepth 100000
set_option maxHeartbeats 0
namespace Py
namespace K55
theorem mem13 {p : Int} (h : p ∈ primes13) : p ∈ primes := by
  unfold primes13 at h
  unfold primes
  simp only [List.mem_cons, List.not_mem_nil, or_false] at h ⊢
  omega
/-- what the law finds is what the program tells -/
theorem near_same {p d : Int} {P Dn : Nat} (hP : p = P) (hp : p ∈ primes) (hd : d = Dn) (hD : Dn ≤ 4) (hD2 : Dn + 2 ≤ P) {f : List Int} (hf : Tab p P f) :
    ∃ z : D, g_close_curve [.a (.int p), .a (.int d), .a (.tup (f.map .int))] = .ok (.d z) [] ∧ ((z = .non ∧ (allC P (Dn + 1)).filter (nearC p d P f) = []) ∨ ∃ C : List Int, (∀ x ∈ C, 0 ≤ x ∧ x < p) ∧ C.length = Dn + 1 ∧ z = dC C ∧ (allC P (Dn + 1)).filter (nearC p d P f) = [C]) := by
  have hb := prime_lo hp
  obtain ⟨C, hC, rC, argC, dCc⟩ := close_curve_ok p d P Dn hP hp hd hD hD2 f hf
  have one : ∀ c ∈ (allC P (Dn + 1)).filter (nearC p d P f), C = c := fun c hc => by
    obtain ⟨h1, h2⟩ := List.mem_filter.mp hc
    obtain ⟨h3, h4⟩ := mem_allC.mp h1
    exact close_is hP hp hd hD hD2 hf h3 (fun z hz => by have := h4 z hz; omega) h2 hC rC argC
  have le1 := few ((nodup_allC P (Dn + 1)).filter (nearC p d P f)) (fun a ha b hb => (one a ha).symm.trans (one b hb))
  by_cases z : nearC p d P f C = true
  · have z' : 2 * (d + 1) * ((apart p P C f).length : Int) < p := of_decide_eq_true z
    rw [if_pos z'] at dCc
    have mem : C ∈ (allC P (Dn + 1)).filter (nearC p d P f) := List.mem_filter.mpr ⟨mem_allC.mpr ⟨hC, fun x hx => by have := rC x hx; omega⟩, z⟩
    refine ⟨_, dCc, .inr ⟨C, rC, hC, rfl, ?_⟩⟩
    match q : (allC P (Dn + 1)).filter (nearC p d P f), mem, le1, one with
    | [], mem, _, _ => simp at mem
    | [a], _, _, one => rw [one a (by simp)]
    | _ :: _ :: _, _, le1, _ => simp at le1
  · have z' : ¬ 2 * (d + 1) * ((apart p P C f).length : Int) < p := fun q => z (decide_eq_true q)
    rw [if_neg z'] at dCc
    refine ⟨_, dCc, .inl ⟨rfl, ?_⟩⟩
    match q : (allC P (Dn + 1)).filter (nearC p d P f), one with
    | [], _ => rfl
    | a :: _, one =>
      have e := one a (by simp)
      subst e
      have : C ∈ (allC P (Dn + 1)).filter (nearC p d P f) := by rw [q]; simp
      exact absurd (List.mem_filter.mp this).2 z
theorem is_small_ok (ds : List Int) (a : Nat) : ∃ a', g__law_is_small [.l (hand ds a)] = .ok (.d (.bl true)) [hand ds a'] := by
  suffices k : ∃ r cs, g__law_is_small [.l (hand ds a)] = .ok r cs ∧ ∃ a', r = .d (.bl true) ∧ cs = [hand ds a'] by
    obtain ⟨r, cs, h, a', rfl, rfl⟩ := k
    exact ⟨a', h⟩
  rw [e__law_is_small]
  refine fin_ok ?_
  unfold b__law_is_small
  obtain ⟨p, hp13, d1⟩ := prime_ok ds a 13 primes13 (.inl ⟨rfl, rfl⟩)
  refine ok_step (by simp [d1]; rfl) ?_
  have hp := mem13 hp13
  have hb := prime_lo hp
  obtain ⟨P, hP⟩ : ∃ P : Nat, p = P := ⟨p.toNat, by omega⟩
  have h0 : 0 < P := by omega
  have bp : big p = true := big_of (by omega) (by omega)
  have pn : p.toNat = P := by omega
  have P13 : P ≤ 13 := by
    unfold primes13 at hp13
    simp only [List.mem_cons, List.not_mem_nil, or_false] at hp13
    omega
  obtain ⟨m, m0, m1, m3, mP, hm⟩ := small_min hP hp13 .un .un .un .un .un .un (.lent (hand ds (a + 1)))
  obtain ⟨d, dl, du, d2⟩ := take_ok ds (a + 1) m m0
  obtain ⟨Dn, hd⟩ : ∃ Dn : Nat, d = Dn := ⟨d.toNat, by omega⟩
  refine ok_step (e' := [.al 8, .val (.int p), .val (.int d), .un, .un, .un, .un, .un, .lent (hand ds (a + 2))]) ?_ ?_
  · rw [sSet_u, bnd_u, eCall_u, bnd_u, aCons_u, bnd_u, eVar_u]
    simp only [List.getElem?_cons_succ, List.getElem?_cons_zero, bnd_u, aConsF_u, hm]
    simp [d2]
  have hD : Dn ≤ 4 := by omega
  have hD2 : Dn + 2 ≤ P := by omega
  have hPD : P ^ (Dn + 1) ≤ 1000 := Nat.le_trans (Nat.pow_le_pow_right h0 (by omega)) mP
  -- a drawn table
  obtain ⟨f0, c1, ⟨a1, rfl⟩, fl, fr, hc⟩ := comp_draw (F := fun c => ∃ a, c = hand ds a) (p := p) (b := eCall g__law_take [true, false] (aCons (eVar 0) (aConsF (eVar 1) aNil))) (i := 7) (fun c => [.al 8, .val (.int p), .val (.int d), .un, .un, .un, .un, .un, .lent c]) (fun c => rfl) (fun c d => rfl) (fun c d hc => by
    obtain ⟨a, rfl⟩ := hc
    obtain ⟨v, k1, k2, k3⟩ := take_ok ds a p (by omega)
    exact ⟨v, hand ds (a + 1), ⟨_, rfl⟩, k1, k2, by simp [k3]⟩) (rngD 0 P) [] (hand ds (a + 2)) ⟨_, rfl⟩
  rw [rngD_ln] at fl
  have e1 := eComp_ok (i := iRng1 (eVar 1)) (e := [.al 8, .val (.int p), .val (.int d), .un, .un, .un, .un, .un, .lent (hand ds (a + 2))]) (e1 := [.al 8, .val (.int p), .val (.int d), .un, .un, .un, .un, .un, .lent (hand ds (a + 2))]) (by simp [bp, pn]) (by rw [rngD_ln]; unfold lim; omega) hc
  refine ok_step (e' := [.al 8, .val (.int p), .val (.int d), .val (.tup (f0.map .int)), .un, .un, .un, .un, .lent (hand ds a1)]) (by rw [sSet_u, bnd_u, eB_u, bnd_u, aCons_u, bnd_ok e1]; simp) ?_
  have hf0 : Tab p P f0 := tab_of fl fr
  obtain ⟨t, t0, t1, d3⟩ := take_ok ds a1 2 (by omega)
  refine ok_seq (Ok.imp (Q := fun c e' => c = .next ∧ ∃ (f : List Int) (a : Nat) (s4 : Sl), Tab p P f ∧ e' = [.al 8, .val (.int p), .val (.int d), .val (.tup (f.map .int)), s4, .un, .un, .un, .lent (hand ds a)]) ?_ ?_)
  · by_cases z : t = 0
    · refine ok_ifT (e' := [.al 8, .val (.int p), .val (.int d), .val (.tup (f0.map .int)), .un, .un, .un, .un, .lent (hand ds (a1 + 1))]) (by simp [d3, z]) ?_
      obtain ⟨c, a2, cl, cr, d4⟩ := curve_ok ds (a1 + 1) p d (by omega) (by omega) (by omega)
      refine ok_step (e' := [.al 8, .val (.int p), .val (.int d), .val (.tup (f0.map .int)), .val (.tup (c.map .int)), .un, .un, .un, .lent (hand ds a2)]) (by simp [d4]) ?_
      have e2 := comp_rng (i := iRng1 (eVar 1)) (g := gName 7) (b := eCall g__law_value [] (aConsF (eVar 1) (aConsF (eVar 4) (aConsF (eVar 7) aNil)))) (vs := [7]) (e := [.al 8, .val (.int p), .val (.int d), .val (.tup (f0.map .int)), .val (.tup (c.map .int)), .un, .un, .un, .lent (hand ds a2)]) (e1 := [.al 8, .val (.int p), .val (.int d), .val (.tup (f0.map .int)), .val (.tup (c.map .int)), .un, .un, .un, .lent (hand ds a2)]) (lo := 0) (n := P)
        (fun k => .int (evalL c (k : Int) % p)) (by simp [bp, pn]) (by unfold lim; omega) (fun k i hk hi => by
          have hv := value_ok p i (by omega) (small_of (by omega) (by omega)) c _ (.inr rfl)
          have hi' : i = (k : Int) := by omega
          refine ⟨_, rfl, rfl, ?_⟩
          rw [← hi']
          simp [hv])
      have e3 : ((List.range P).map fun (k : Nat) => D.int (evalL c (k : Int) % p)) = (tabOf p P c).map .int := by unfold tabOf; rw [List.map_map]; rfl
      rw [e3] at e2
      refine ok_step (e' := [.al 8, .val (.int p), .val (.int d), .val (.tup ((tabOf p P c).map .int)), .val (.tup (c.map .int)), .un, .un, .un, .lent (hand ds a2)]) (by rw [sSet_u, bnd_u, eB_u, bnd_u, aCons_u, bnd_ok e2]; simp) ?_
      have l2 : 2 ≤ lim := by decide
      obtain ⟨u, hu⟩ : ∃ u : Int, (u = 3 ∨ u = 7) ∧ (eOp oIx (eLst (aConsF (eC (.int 3)) (aConsF (eC (.int 7)) aNil))) (eB bInt (aCons (eOp oGt (eVar 1) (eC (.int 7))) aNil))) [.al 8, .val (.int p), .val (.int d), .val (.tup ((tabOf p P c).map .int)), .val (.tup (c.map .int)), .un, .un, .un, .lent (hand ds a2)] = .ok (.d (.int u)) [.al 8, .val (.int p), .val (.int d), .val (.tup ((tabOf p P c).map .int)), .val (.tup (c.map .int)), .un, .un, .un, .lent (hand ds a2)] := by
        by_cases z : 7 < p
        · exact ⟨7, .inr rfl, by simp [l2, z, -bInt_b]⟩
        · exact ⟨3, .inl rfl, by simp [l2, z, -bInt_b]⟩
      obtain ⟨hu1, hu2⟩ := hu
      obtain ⟨v, v0, v1, d5⟩ := take_ok ds a2 u (by omega)
      obtain ⟨f, a3, hf, _, d6⟩ := turned2_ok ds (a2 + 1) p v P (by omega) hP _ (tabOf_tab (P := P) (c := c) (show 0 < p by omega)) v0 (by omega)
      refine .of (a := .next) (e := [.al 8, .val (.int p), .val (.int d), .val (.tup (f.map .int)), .val (.tup (c.map .int)), .un, .un, .un, .lent (hand ds a3)]) ?_ ⟨rfl, f, a3, _, hf, rfl⟩
      generalize eOp oIx (eLst (aConsF (eC (.int 3)) (aConsF (eC (.int 7)) aNil))) (eB bInt (aCons (eOp oGt (eVar 1) (eC (.int 7))) aNil)) = mm at hu2 ⊢
      simp [hu2, d5, d6]
    · exact ok_ifF (e' := [.al 8, .val (.int p), .val (.int d), .val (.tup (f0.map .int)), .un, .un, .un, .un, .lent (hand ds (a1 + 1))]) (by simp [d3, z]) (.of rfl ⟨rfl, f0, _, _, hf0, rfl⟩)
  · rintro c e ⟨rfl, f, a2, s4, hf, rfl⟩
    refine ⟨rfl, ?_⟩
    have s1 : small64 (d + 1) = true := small_of (by omega) (by omega)
    have s3 : small64 (d + 3) = true := small_of (by omega) (by omega)
    have s2 : small64 p = true := small_of (by omega) (by omega)
    have hn := is_near_ok p d P Dn hP hp hd hD hD2 f hf
    have hB := broken_ok p d P Dn hP (by omega) (by omega) hd hD f hf
    have hnb : decide (badN (rowD Dn) f P (Dn + 2) * (d + 1) * (d + 3) * (d + 3) < (d + 2) * p * p) = nearB p d P Dn f := rfl
    generalize nearB p d P Dn f = nb at hn hnb
    generalize badN (rowD Dn) f P (Dn + 2) = B at hB hnb
    refine ok_step (e' := [.al 8, .val (.int p), .val (.int d), .val (.tup (f.map .int)), s4, .un, .un, .un, .lent (hand ds a2)]) (by simp [hn, hB, s1, s2, s3, hnb, rep_bl]) ?_
    have hN := law_near_ok p d P Dn hP hp hd hD hPD f hf
    obtain ⟨z, hz, hcase⟩ := near_same hP hp hd hD hD2 hf
    refine ok_step (e' := [.al 8, .val (.int p), .val (.int d), .val (.tup (f.map .int)), s4, .own (.lst (((allC P (Dn + 1)).filter (nearC p d P f)).map dC)), .un, .un, .lent (hand ds a2)]) (by simp [hN]) ?_
    refine ok_step (by simp; rfl) ?_
    rcases hcase with ⟨rfl, hL⟩ | ⟨C, rC, lC, rfl, hL⟩
    · rw [hL]
      refine ok_step (by simp; rfl) ?_
      exact ok_sret (w := .d (.bl true)) (e' := [.al 8, .val (.int p), .val (.int d), .val (.tup (f.map .int)), s4, .own (.lst []), .val .non, .un, .lent (hand ds a2)]) (by simp [hz, rep_non]) ⟨_, _, _, rfl, rfl, rfl, _, rfl, rfl⟩
    · rw [hL]
      have rp : bRepr [dC C] = some (.d (.str (dC C).text)) := ints_rep (fun x hx => by have := rC x hx; omega) (by omega)
      refine ok_step (e' := [.al 8, .val (.int p), .val (.int d), .val (.tup (f.map .int)), s4, .own (.lst [dC C]), .val (dC C), .un, .lent (hand ds a2)]) (by simp) ?_
      generalize dC C = y at hz rp ⊢
      exact ok_sret (w := .d (.bl true)) (e' := [.al 8, .val (.int p), .val (.int d), .val (.tup (f.map .int)), s4, .own (.lst [y]), .val y, .un, .lent (hand ds a2)]) (by simp [hz, rp]) ⟨_, _, _, rfl, rfl, rfl, _, rfl, rfl⟩
end K55
end Py
end
section
set_option linter.all false
set_option maxRecDepth 100000
set_option maxHeartbeats 0
namespace Py
namespace K55
theorem clean_comp (p : Int) (P : Nat) (hP : p = P) (h0 : 0 < P) (hP2 : P < 1000) (c : List Int) (a0 a1 a3 a5 a6 a7 a8 a9 a10 a11 a12 a13 a14 a15 : Sl) :
    eComp (iRng1 (eVar 2)) (gName 12) tYes (eCall g__law_value [] (aConsF (eVar 2) (aConsF (eVar 4) (aConsF (eVar 12) aNil)))) [12] [a0, a1, .val (.int p), a3, .val (.tup (c.map .int)), a5, a6, a7, a8, a9, a10, a11, a12, a13, a14, a15]
      = .ok (.fr (.lst ((tabOf p P c).map .int))) [a0, a1, .val (.int p), a3, .val (.tup (c.map .int)), a5, a6, a7, a8, a9, a10, a11, a12, a13, a14, a15] := by
  have bp : big p = true := big_of (by omega) (by omega)
  have e2 := comp_rng (i := iRng1 (eVar 2)) (g := gName 12) (b := eCall g__law_value [] (aConsF (eVar 2) (aConsF (eVar 4) (aConsF (eVar 12) aNil)))) (vs := [12]) (e := [a0, a1, .val (.int p), a3, .val (.tup (c.map .int)), a5, a6, a7, a8, a9, a10, a11, a12, a13, a14, a15]) (e1 := [a0, a1, .val (.int p), a3, .val (.tup (c.map .int)), a5, a6, a7, a8, a9, a10, a11, a12, a13, a14, a15]) (lo := 0) (n := P)
    (fun k => .int (evalL c (k : Int) % p)) (by simp [bp, lenI hP]) (by unfold lim; omega) (fun k i hk hi => by
      have hv := value_ok p i (by omega) (small_of (by omega) (by omega)) c _ (.inr rfl)
      have hi' : i = (k : Int) := by omega
      refine ⟨_, rfl, rfl, ?_⟩
      rw [← hi']
      simp [hv])
  have e3 : ((List.range P).map fun (k : Nat) => D.int (evalL c (k : Int) % p)) = (tabOf p P c).map .int := by unfold tabOf; rw [List.map_map]; rfl
  rw [e3] at e2
  exact e2
/-- the wrong places, as numbers -/
def wrongL (p : Int) (P : Nat) (c f : List Int) : List Int := (apart p P c f).map fun (x : Nat) => (x : Int)
theorem wrongL_len {p : Int} {P : Nat} {c f : List Int} : (wrongL p P c f).length = (apart p P c f).length := List.length_map _
theorem wrongL_range {p : Int} {P : Nat} (hP2 : P < 1000) {c f : List Int} : ∀ z ∈ wrongL p P c f, 0 ≤ z ∧ z < 1000 := fun z hz => by
  unfold wrongL at hz
  obtain ⟨k, hk, rfl⟩ := List.mem_map.mp hz
  have := List.mem_range.mp (List.mem_filter.mp (show k ∈ (List.range P).filter _ from hk)).1
  omega
theorem wrongL_le {p : Int} {P : Nat} {c f : List Int} : (wrongL p P c f).length ≤ P := by
  rw [wrongL_len]
  have := List.length_filter_le (fun (x : Nat) => decide (evalL c (x : Int) % p ≠ f.getD x 0)) (List.range P)
  rw [List.length_range] at this
  exact this
theorem places_comp (p : Int) (P : Nat) (hP : p = P) (h0 : 0 < P) (hP2 : P < 1000) (c f : List Int) (hf : Tab p P f) (a0 a1 a3 a4 a6 a8 a9 a10 a11 a12 a13 a14 a15 : Sl) :
    eComp (iRng1 (eVar 2)) (gName 12) (tBl (eOp oNe (eOp oIx (eVar 7) (eVar 12)) (eOp oIx (eVar 5) (eVar 12)))) (eVar 12) [12] [a0, a1, .val (.int p), a3, a4, .val (.tup ((tabOf p P c).map .int)), a6, .val (.tup (f.map .int)), a8, a9, a10, a11, a12, a13, a14, a15]
      = .ok (.fr (.lst ((wrongL p P c f).map .int))) [a0, a1, .val (.int p), a3, a4, .val (.tup ((tabOf p P c).map .int)), a6, .val (.tup (f.map .int)), a8, a9, a10, a11, a12, a13, a14, a15] := by
  have bp : big p = true := big_of (by omega) (by omega)
  have hG : Tab p P (tabOf p P c) := tabOf_tab (by omega)
  have hc := comp_map (i := iRng1 (eVar 2)) (g := gName 12) (t := tBl (eOp oNe (eOp oIx (eVar 7) (eVar 12)) (eOp oIx (eVar 5) (eVar 12)))) (b := eVar 12) (vs := [12]) (e := [a0, a1, .val (.int p), a3, a4, .val (.tup ((tabOf p P c).map .int)), a6, .val (.tup (f.map .int)), a8, a9, a10, a11, a12, a13, a14, a15]) (e1 := [a0, a1, .val (.int p), a3, a4, .val (.tup ((tabOf p P c).map .int)), a6, .val (.tup (f.map .int)), a8, a9, a10, a11, a12, a13, a14, a15]) (ds := rngD 0 P)
    (fun d => d) (onI fun i => decide (evalL c i % p ≠ f.getD i.toNat 0)) (by simp [bp, lenI hP]) (by rw [rngD_ln]; unfold lim; omega) (fun d hd => by
      obtain ⟨j, hj, rfl⟩ := rngD_mem hd
      obtain ⟨y, hy⟩ : ∃ y : Int, y = 0 + (j : Int) := ⟨_, rfl⟩
      rw [← hy]
      have i1 : ixn f.length y = some y.toNat := ixn_at (by omega) (by rw [hf.len]; omega)
      have i2 : ixn (tabOf p P c).length y = some y.toNat := ixn_at (by omega) (by rw [hG.len]; omega)
      have g1 := getD_at (show y.toNat < f.length by rw [hf.len]; omega)
      have g2 := getD_at (show y.toNat < (tabOf p P c).length by rw [hG.len]; omega)
      rw [tabOf_get (show y.toNat < P by omega), show ((y.toNat : Nat) : Int) = y by omega] at g2
      generalize ha : f.getD y.toNat 0 = a at g1
      generalize hb : evalL c y % p = b at g2
      refine ⟨_, rfl, ?_, rfl, fun _ => rfl⟩
      simp only [onI_int, ha, hb]
      generalize tabOf p P c = G at i2 g2
      simp [i1, i2, g1, g2, eq_comm])
  rw [List.map_id', filter_rng] at hc
  have ea : ((List.range P).filter fun (k : Nat) => decide (evalL c (k : Int) % p ≠ f.getD (k : Int).toNat 0)) = apart p P c f := rfl
  rw [ea, nats_map] at hc
  exact hc
theorem places2_comp (p : Int) (P : Nat) (hP : p = P) (h0 : 0 < P) (hP2 : P < 1000) (c f : List Int) (hf : Tab p P f) (a0 a1 a3 a4 a5 a6 a8 a9 a10 a12 a13 a14 a15 : Sl) :
    eComp (iRng1 (eVar 2)) (gName 12) (tBl (eOp oNe (eOp oIx (eVar 7) (eVar 12)) (eCall g__law_value [] (aConsF (eVar 2) (aConsF (eVar 11) (aConsF (eVar 12) aNil)))))) (eVar 12) [12] [a0, a1, .val (.int p), a3, a4, a5, a6, .val (.tup (f.map .int)), a8, a9, a10, .val (.tup (c.map .int)), a12, a13, a14, a15]
      = .ok (.fr (.lst ((wrongL p P c f).map .int))) [a0, a1, .val (.int p), a3, a4, a5, a6, .val (.tup (f.map .int)), a8, a9, a10, .val (.tup (c.map .int)), a12, a13, a14, a15] := by
  have bp : big p = true := big_of (by omega) (by omega)
  have hc := comp_map (i := iRng1 (eVar 2)) (g := gName 12) (t := tBl (eOp oNe (eOp oIx (eVar 7) (eVar 12)) (eCall g__law_value [] (aConsF (eVar 2) (aConsF (eVar 11) (aConsF (eVar 12) aNil)))))) (b := eVar 12) (vs := [12]) (e := [a0, a1, .val (.int p), a3, a4, a5, a6, .val (.tup (f.map .int)), a8, a9, a10, .val (.tup (c.map .int)), a12, a13, a14, a15]) (e1 := [a0, a1, .val (.int p), a3, a4, a5, a6, .val (.tup (f.map .int)), a8, a9, a10, .val (.tup (c.map .int)), a12, a13, a14, a15]) (ds := rngD 0 P)
    (fun d => d) (onI fun i => decide (evalL c i % p ≠ f.getD i.toNat 0)) (by simp [bp, lenI hP]) (by rw [rngD_ln]; unfold lim; omega) (fun d hd => by
      obtain ⟨j, hj, rfl⟩ := rngD_mem hd
      obtain ⟨y, hy⟩ : ∃ y : Int, y = 0 + (j : Int) := ⟨_, rfl⟩
      rw [← hy]
      have hv := value_ok p y (by omega) (small_of (by omega) (by omega)) c _ (.inr rfl)
      have i1 : ixn f.length y = some y.toNat := ixn_at (by omega) (by rw [hf.len]; omega)
      have g1 := getD_at (show y.toNat < f.length by rw [hf.len]; omega)
      generalize ha : f.getD y.toNat 0 = a at g1
      generalize hb : evalL c y % p = b at hv
      refine ⟨_, rfl, ?_, rfl, fun _ => rfl⟩
      simp only [onI_int, ha, hb]
      simp [i1, g1, hv, eq_comm])
  rw [List.map_id', filter_rng] at hc
  have ea : ((List.range P).filter fun (k : Nat) => decide (evalL c (k : Int) % p ≠ f.getD (k : Int).toNat 0)) = apart p P c f := rfl
  rw [ea, nats_map] at hc
  exact hc
/-- how many places are turned -/
theorem many_ok (ds : List Int) (a : Nat) (most : Int) (h0 : 0 ≤ most) (h1 : most < 1000) (a0 a2 a3 a4 a5 a7 a8 a9 a10 a11 a12 a13 a14 a15 : Sl) : ∃ many : Int, 0 ≤ many ∧ many ≤ most ∧
    (eOp oMul (eOp oIx (eLst (aConsF (eC (.int 0)) (aConsF (eC (.int 1)) (aConsF (eVar 6) (aConsF (eCall g__law_take [true, false] (aCons (eVar 1) (aConsF (eOp oAdd (eVar 6) (eC (.int 1))) aNil))) aNil))))) (eCall g__law_take [true, false] (aCons (eVar 1) (aConsF (eC (.int 4)) aNil)))) (eB bInt (aCons (eOp oGt (eVar 6) (eC (.int 0))) aNil))) [a0, .own (hand ds a), a2, a3, a4, a5, .val (.int most), a7, a8, a9, a10, a11, a12, a13, a14, a15]
      = .ok (.d (.int many)) [a0, .own (hand ds (a + 2)), a2, a3, a4, a5, .val (.int most), a7, a8, a9, a10, a11, a12, a13, a14, a15] := by
  obtain ⟨u, u0, u1, d1⟩ := take_ok ds a (most + 1) (by omega)
  obtain ⟨v, v0, v1, d2⟩ := take_ok ds (a + 1) 4 (by omega)
  have l4 : 4 ≤ lim := by decide
  have go : ∀ r : Int, oIx (.lst [.int 0, .int 1, .int most, .int u]) (.int v) = some (.d (.int r)) → 0 ≤ r → (0 < most → r ≤ most) → ∃ many : Int, 0 ≤ many ∧ many ≤ most ∧
    (eOp oMul (eOp oIx (eLst (aConsF (eC (.int 0)) (aConsF (eC (.int 1)) (aConsF (eVar 6) (aConsF (eCall g__law_take [true, false] (aCons (eVar 1) (aConsF (eOp oAdd (eVar 6) (eC (.int 1))) aNil))) aNil))))) (eCall g__law_take [true, false] (aCons (eVar 1) (aConsF (eC (.int 4)) aNil)))) (eB bInt (aCons (eOp oGt (eVar 6) (eC (.int 0))) aNil))) [a0, .own (hand ds a), a2, a3, a4, a5, .val (.int most), a7, a8, a9, a10, a11, a12, a13, a14, a15]
      = .ok (.d (.int many)) [a0, .own (hand ds (a + 2)), a2, a3, a4, a5, .val (.int most), a7, a8, a9, a10, a11, a12, a13, a14, a15] := fun r hr r0 rm => by
    have n0 : small64 0 = true := by decide
    have n1 : small64 1 = true := by decide
    by_cases z : 0 < most
    · exact ⟨r, r0, rm z, by simp [l4, d1, d2, hr, z, n1, -oIx_lst, -bInt_b]⟩
    · exact ⟨0, Int.le_refl _, by omega, by simp [l4, d1, d2, hr, z, n0, -oIx_lst, -bInt_b]⟩
  have : v = 0 ∨ v = 1 ∨ v = 2 ∨ v = 3 := by omega
  rcases this with rfl | rfl | rfl | rfl
  · exact go 0 rfl (by omega) (by omega)
  · exact go 1 rfl (by omega) (by omega)
  · exact go most rfl (by omega) (by omega)
  · exact go u rfl (by omega) (by omega)
end K55
end Py
end
section
set_option linter.all false
set_option maxRecDepth 100000
set_option maxHeartbeats 0
namespace Py
namespace K55
/-- the wrong places are as many as the errors -/
theorem wrong_sum {p : Int} {P : Nat} (hP : p = P) {c f : List Int} : ((wrongL p P c f).length : Int) = sumN P (fun y => one (err f P (fun n => evalL c n) y)) := by
  rw [wrongL_len]
  unfold apart
  rw [len_filter]
  refine sumN_congr fun k hk => ?_
  congr 1
  unfold err fAt
  rw [Nat.mod_eq_of_lt hk, ← hP]
  rw [Bool.eq_iff_iff, decide_eq_true_eq, decide_eq_true_eq]
  exact ⟨fun h e => h e.symm, fun h e => h e.symm⟩
/-- votes for the curve's value -/
theorem votes_value {p : Int} {P Dn X : Nat} (hP : p = P) (hp : p ∈ primes) (hD : Dn ≤ 4) (hD2 : Dn + 2 ≤ P) {c f : List Int} (hc : c.length = Dn + 1) :
    p - ((Dn + 1 : Nat) : Int) * (wrongL p P c f).length ≤ (votesL (voteN (rowD Dn) f P (Dn + 1) X) P P).getD (evalL c X % p).toNat 0 := by
  have h0 : 0 < P := by omega
  have hmany := votes_many (X := X) (f := f) (s := 0) hP hp hD hD2 hc
  simp only [Int.sub_zero] at hmany
  rw [← wrong_sum hP] at hmany
  have v0 := Int.emod_nonneg (evalL c X) (show p ≠ 0 by omega)
  have v1 := Int.emod_lt_of_pos (evalL c X) (show 0 < p by omega)
  have eV : (votesL (voteN (rowD Dn) f P (Dn + 1) X) P P).getD (evalL c X % p).toNat 0 = sumN P fun h => one (voteN (rowD Dn) f P (Dn + 1) X h == (evalL c X % p).toNat) := by
    have := votesL_get (V := voteN (rowD Dn) f P (Dn + 1) X) (k := P) (show (evalL c X % p).toNat < P by omega)
    simp [List.getD, this]
  rw [eV]
  omega
theorem votes_up {V : Nat → Nat} {P k : Nat} (hk : k < 1000) (v : Nat) (hv : v < P) : 0 ≤ (votesL V P k).getD v 0 ∧ (votesL V P k).getD v 0 ≤ k := by
  have := votesL_get (V := V) (k := k) hv
  exact votes_small (V := V) (P := P) hk _ (List.mem_of_getElem? (getD_at (by rw [votesL_len]; exact hv)))
/-- near: what the law asks of it -/
theorem near_law {p d w : Int} {P Dn : Nat} (hP : p = P) (hp : p ∈ primes) (hd : d = Dn) (hD : Dn ≤ 4) (hD2 : Dn + 2 ≤ P) {c f : List Int} (hc : c.length = Dn + 1) (hf : Tab p P f) (hw : w = (wrongL p P c f).length) (hq : 2 * (d + 1) * w < p) (hn : nearB p d P Dn f = true) : w * (d + 1) * (d + 3) < p := by
  have hb := prime_lo hp
  have e := broken_ge hP hp hD hD2 hc hf rfl
  rw [← wrong_sum hP, ← hw] at e
  have n := of_decide_eq_true hn
  refine near_few (B := badN (rowD Dn) f P (Dn + 2)) (by omega) (by omega) (by omega) ?_ hq n
  rw [show d + 2 = ((Dn + 2 : Nat) : Int) by omega, hP]
  rw [show d + 1 = ((Dn + 2 : Nat) : Int) - 1 by omega]
  exact e
theorem one_take {p : Int} {P : Nat} (hP : p = P) (hp : p ∈ primes) {d w v : Int} (hd0 : 0 ≤ d) (hw0 : 0 ≤ w) (hq : 2 * (d + 1) * w < p) (hv : p - (d + 1) * w ≤ v) : p < 2 * v ∧ p - v ≤ (d + 1) * w ∧ (w * (d + 1) * (d + 3) < p → (d + 2) * p < (d + 3) * v) := by
  have e : 2 * (d + 1) * w = 2 * ((d + 1) * w) := Int.mul_assoc _ _ _
  refine ⟨by omega, by omega, fun h => ?_⟩
  have a : (d + 3) * (p - (d + 1) * w) ≤ (d + 3) * v := Int.mul_le_mul_of_nonneg_left hv (by omega)
  have b : (d + 3) * (p - (d + 1) * w) = (d + 2) * p + p - w * (d + 1) * (d + 3) := by grind
  omega
abbrev lawE (a0 : Sl) (c : Cell) (p d : Int) (C G : List Int) (most : Int) (f L : List Int) (w : Int) (a10 a11 a12 a13 a14 a15 : Sl) : Env :=
  [a0, .own c, .val (.int p), .val (.int d), .val (.tup (C.map .int)), .val (.tup (G.map .int)), .val (.int most), .val (.tup (f.map .int)), .val (.tup (L.map .int)), .val (.int w), a10, a11, a12, a13, a14, a15]
/-- the three places -/
theorem three_ok (ds : List Int) (a : Nat) (p d w most : Int) (P Dn : Nat) (hP : p = P) (hp : p ∈ primes) (hd : d = Dn) (hD : Dn ≤ 4) (hD2 : Dn + 2 ≤ P) (c f L : List Int) (hc : c.length = Dn + 1) (rc : ∀ z ∈ c, 0 ≤ z ∧ z < p) (hf : Tab p P f) (hw : w = (wrongL p P c f).length) (hq : 2 * (d + 1) * w < p) (nb : Bool) (hnb : nb = true → w * (d + 1) * (d + 3) < p) (a0 a11 a12 a13 a14 a15 : Sl) :
    Ok (sFor (iRng1 (eC (.int 3))) (gName 13) (sSeq (sSet 12 (eCall g__law_take [true, false] (aCons (eVar 1) (aConsF (eVar 2) aNil))))
    (sSeq (sSet 14 (eCall g_value_at [] (aConsF (eVar 2) (aConsF (eVar 4) (aConsF (eVar 12) aNil)))))
    (sSeq (sSet 15 (eCall g__law_votes [] (aConsF (eVar 2) (aConsF (eVar 3) (aConsF (eVar 7) (aConsF (eVar 12) aNil))))))
    (sSeq (sIf (tOr (tBl (eOp oNe (eB bRepr (aCons (eVar 14) aNil)) (eB bRepr (aCons (eOp oIx (eVar 5) (eVar 12)) aNil)))) (tOr (tBl (eOp oLe (eOp oMul (eC (.int 2)) (eOp oIx (eVar 15) (eVar 14))) (eVar 2))) (tBl (eOp oGt (eOp oSub (eVar 2) (eOp oIx (eVar 15) (eVar 14))) (eOp oMul (eOp oAdd (eVar 3) (eC (.int 1))) (eVar 9)))))) (sRet (eC (.bl false))) sNext)
    (sIf (tAnd (tTru (eVar 10)) (tBl (eOp oLe (eOp oMul (eOp oAdd (eVar 3) (eC (.int 3))) (eOp oIx (eVar 15) (eVar 14))) (eOp oMul (eOp oAdd (eVar 3) (eC (.int 2))) (eVar 2))))) (sRet (eC (.bl false))) sNext)))))
      (lawE a0 (hand ds a) p d c (tabOf p P c) most f L w (.val (.bl nb)) a11 a12 a13 a14 a15))
      fun q e' => q = .next ∧ ∃ a' s12 s13 s14 s15, e' = lawE a0 (hand ds a') p d c (tabOf p P c) most f L w (.val (.bl nb)) a11 s12 s13 s14 s15 := by
  have hb := prime_lo hp
  have b3 : big 3 = true := by decide
  have n2 : small64 2 = true := by decide
  have s1 : small64 (d + 1) = true := small_of (by omega) (by omega)
  have s2 : small64 (d + 2) = true := small_of (by omega) (by omega)
  have s3 : small64 (d + 3) = true := small_of (by omega) (by omega)
  have hG : Tab p P (tabOf p P c) := tabOf_tab (by omega)
  refine ok_for (e0 := lawE a0 (hand ds a) p d c (tabOf p P c) most f L w (.val (.bl nb)) a11 a12 a13 a14 a15) (fun k e => ∃ a' s12 s13 s14 s15, e = lawE a0 (hand ds a') p d c (tabOf p P c) most f L w (.val (.bl nb)) a11 s12 s13 s14 s15) (ds := rngD 0 3) (by simp [b3]) ⟨_, _, _, _, _, rfl⟩ ?_ ?_
  · rintro k e env he ⟨a', s12, s13, s14, s15, rfl⟩
    obtain ⟨hk, t, ht, rfl⟩ := rngD_at he
    refine ⟨_, rfl, ?_⟩
    simp only [List.set_cons_succ, List.set_cons_zero]
    obtain ⟨x, x0, x1, d1⟩ := take_ok ds a' p (by omega)
    refine ok_step (e' := lawE a0 (hand ds (a' + 1)) p d c (tabOf p P c) most f L w (.val (.bl nb)) a11 (.val (.int x)) (.val (.int t)) s14 s15) (by simp [d1]) ?_
    have va := value_at_ok p x hp c (by omega) (by omega) rc x0 x1
    obtain ⟨X, hX⟩ : ∃ X : Nat, x = X := ⟨x.toNat, by omega⟩
    have vo := votes_ok p d x P Dn X hP (by omega) (by omega) hd hD hX f hf
    have vv := votes_value (X := X) (f := f) hP hp hD hD2 hc
    rw [← hX, ← hw, show ((Dn + 1 : Nat) : Int) = d + 1 by omega] at vv
    have i1 : ixn (tabOf p P c).length x = some x.toNat := ixn_at x0 (by rw [hG.len]; omega)
    have g1 := getD_at (show x.toNat < (tabOf p P c).length by rw [hG.len]; omega)
    rw [tabOf_get (show x.toNat < P by omega), show ((x.toNat : Nat) : Int) = x by omega] at g1
    have y0 := Int.emod_nonneg (evalL c x) (show p ≠ 0 by omega)
    have y1 := Int.emod_lt_of_pos (evalL c x) (show 0 < p by omega)
    generalize evalL c x % p = y at va vv g1 y0 y1
    have ry : bRepr [.int y] = some (.d (.str (D.int y).text)) := int_rep ⟨y0, by omega⟩
    refine ok_step (e' := lawE a0 (hand ds (a' + 1)) p d c (tabOf p P c) most f L w (.val (.bl nb)) a11 (.val (.int x)) (.val (.int t)) (.val (.int y)) s15) (by simp [va]) ?_
    have lV := votesL_len (voteN (rowD Dn) f P (Dn + 1) X) P P
    have gV := getD_at (show y.toNat < (votesL (voteN (rowD Dn) f P (Dn + 1) X) P P).length by rw [lV]; omega)
    have uV := votes_up (V := voteN (rowD Dn) f P (Dn + 1) X) (P := P) (k := P) (by omega) y.toNat (by omega)
    generalize votesL (voteN (rowD Dn) f P (Dn + 1) X) P P = V at vo vv lV gV uV
    generalize V.getD y.toNat 0 = v at vv gV uV
    have i2 : ixn V.length y = some y.toNat := ixn_at y0 (by rw [lV]; omega)
    generalize tabOf p P c = G at i1 g1
    obtain ⟨c1, c2, c3⟩ := one_take hP hp (by omega) (by omega) hq vv
    have sv : small64 v = true := small_of (by omega) (by omega)
    refine ok_step (e' := lawE a0 (hand ds (a' + 1)) p d c G most f L w (.val (.bl nb)) a11 (.val (.int x)) (.val (.int t)) (.val (.int y)) (.own (.lst (V.map .int)))) (by simp [vo]) ?_
    have k1 : ¬ 2 * v ≤ p := by omega
    have k2 : ¬ (d + 1) * w < p - v := by omega
    refine ok_step (e' := lawE a0 (hand ds (a' + 1)) p d c G most f L w (.val (.bl nb)) a11 (.val (.int x)) (.val (.int t)) (.val (.int y)) (.own (.lst (V.map .int)))) (by simp [ry, i1, g1, i2, gV, n2, s1, k1, k2]) ?_
    refine .of (a := .next) (e := lawE a0 (hand ds (a' + 1)) p d c G most f L w (.val (.bl nb)) a11 (.val (.int x)) (.val (.int t)) (.val (.int y)) (.own (.lst (V.map .int)))) ?_ ⟨.inl rfl, _, _, _, _, _, rfl⟩
    cases nb with
    | false => simp
    | true =>
      have k3 : ¬ (d + 3) * v ≤ (d + 2) * p := by have := c3 (hnb rfl); omega
      simp [i2, gV, s2, s3, k3]
  · rintro e' ⟨a', s12, s13, s14, s15, rfl⟩
    exact ⟨rfl, _, _, _, _, _, rfl⟩
end K55
end Py
end
section
set_option linter.all false
set_option maxRecDepth 100000
set_option maxHeartbeats 0
namespace Py
namespace K55
theorem pick_prime (ds : List Int) (v : Int) (v0 : 0 ≤ v) (v1 : v < 3) (a : Nat) : ∃ m p : Int, oIx (.lst [.int 13, .int 37, .int 101]) (.int v) = some (.d (.int m)) ∧ p ∈ primes ∧ g__law_prime [.l (hand ds a), .a (.int m)] = .ok (.d (.int p)) [hand ds (a + 1)] := by
  have : v = 0 ∨ v = 1 ∨ v = 2 := by omega
  rcases this with rfl | rfl | rfl
  · obtain ⟨p, hp, h⟩ := prime_ok ds a 13 primes13 (.inl ⟨rfl, rfl⟩)
    exact ⟨13, p, rfl, mem13 hp, h⟩
  · obtain ⟨p, hp, h⟩ := prime_ok ds a 37 primes37 (.inr (.inl ⟨rfl, rfl⟩))
    refine ⟨37, p, rfl, ?_, h⟩
    unfold primes37 at hp
    unfold primes
    simp only [List.mem_cons, List.not_mem_nil, or_false] at hp ⊢
    omega
  · obtain ⟨p, hp, h⟩ := prime_ok ds a 101 primes (.inr (.inr ⟨rfl, rfl⟩))
    exact ⟨101, p, rfl, hp, h⟩
theorem law_true (ns : List Int) (hn : ns.length ≤ 63) : g_law [.a (.lst (ns.map .int))] = .ok (.d (.bl true)) [] := by
  obtain ⟨ds, hds⟩ := draws_ok ns hn
  obtain ⟨L0, hL0⟩ : ∃ L, L = D.lst (ns.map .int) := ⟨_, rfl⟩
  rw [← hL0] at hds ⊢
  rw [e_law]
  refine fn_is ?_
  unfold b_law
  have l2 : 2 ≤ lim := by decide
  have l3 : 3 ≤ lim := by decide
  refine ok_step (e' := [.val L0, .own (hand ds 0), .un, .un, .un, .un, .un, .un, .un, .un, .un, .un, .un, .un, .un, .un]) (by simp [hds, l2, hand]) ?_
  obtain ⟨v, v0, v1, d1⟩ := take_ok ds 0 3 (by omega)
  obtain ⟨m, p, hm, hp, d2⟩ := pick_prime ds v v0 v1 1
  refine ok_step (e' := [.val L0, .own (hand ds 2), .val (.int p), .un, .un, .un, .un, .un, .un, .un, .un, .un, .un, .un, .un, .un]) (by simp [l3, d1, hm, d2, -oIx_lst]) ?_
  have hb := prime_lo hp
  obtain ⟨P, hP⟩ : ∃ P : Nat, p = P := ⟨p.toNat, by omega⟩
  have h0 : 0 < P := by omega
  obtain ⟨mn, hmn⟩ : ∃ mn : Int, mn = if p - 1 < 5 then p - 1 else 5 := ⟨_, rfl⟩
  have mn0 : 0 < mn ∧ mn ≤ 5 ∧ mn ≤ p - 1 := by rw [hmn]; split <;> omega
  obtain ⟨d, dl, du, d3⟩ := take_ok ds 2 mn (by omega)
  refine ok_step (e' := [.val L0, .own (hand ds 3), .val (.int p), .val (.int d), .un, .un, .un, .un, .un, .un, .un, .un, .un, .un, .un, .un]) (by simp [← hmn, d3]) ?_
  obtain ⟨Dn, hd⟩ : ∃ Dn : Nat, d = Dn := ⟨d.toNat, by omega⟩
  have hD : Dn ≤ 4 := by omega
  have hD2 : Dn + 2 ≤ P := by omega
  obtain ⟨c, a1, cl, cr, d4⟩ := curve_ok ds 3 p d (by omega) (by omega) (by omega)
  have hc : c.length = Dn + 1 := by omega
  refine ok_step (e' := [.val L0, .own (hand ds a1), .val (.int p), .val (.int d), .val (.tup (c.map .int)), .un, .un, .un, .un, .un, .un, .un, .un, .un, .un, .un]) (by simp [d4]) ?_
  have e1 := clean_comp p P hP h0 (by omega) c (.val L0) (.own (hand ds a1)) (.val (.int d)) .un .un .un .un .un .un .un .un .un .un .un
  have hG : Tab p P (tabOf p P c) := tabOf_tab (by omega)
  refine ok_step (e' := [.val L0, .own (hand ds a1), .val (.int p), .val (.int d), .val (.tup (c.map .int)), .val (.tup ((tabOf p P c).map .int)), .un, .un, .un, .un, .un, .un, .un, .un, .un, .un]) (by rw [sSet_u, bnd_u, eB_u, bnd_u, aCons_u, bnd_ok e1]; simp) ?_
  obtain ⟨q, hq⟩ : ∃ q : Int, q = 2 * (d + 1) := ⟨_, rfl⟩
  have q0 : 0 < q := by omega
  have q1 : q < 1073741824 := by omega
  obtain ⟨most, hmost⟩ : ∃ most : Int, most = (p - 1) / q := ⟨_, rfl⟩
  have m0 : 0 ≤ most := by rw [hmost]; exact Int.ediv_nonneg (by omega) (by omega)
  have mq : q * most ≤ p - 1 := by rw [hmost]; exact Int.mul_ediv_self_le (by omega)
  have m1 : most ≤ p - 1 := by
    have : 1 * most ≤ q * most := Int.mul_le_mul_of_nonneg_right (by omega) m0
    omega
  have n2 : small64 2 = true := by decide
  refine ok_step (e' := [.val L0, .own (hand ds a1), .val (.int p), .val (.int d), .val (.tup (c.map .int)), .val (.tup ((tabOf p P c).map .int)), .val (.int most), .un, .un, .un, .un, .un, .un, .un, .un, .un]) (by simp [n2, ← hq, q0, q1, hmost]) ?_
  obtain ⟨many, k0, k1, d5⟩ := many_ok ds a1 most m0 (by omega) (.val L0) (.val (.int p)) (.val (.int d)) (.val (.tup (c.map .int))) (.val (.tup ((tabOf p P c).map .int))) .un .un .un .un .un .un .un .un .un
  obtain ⟨f, a2, hf, hfd, d6⟩ := turned2_ok ds (a1 + 2) p many P (by omega) hP _ hG k0 (by omega)
  refine ok_step (e' := [.val L0, .own (hand ds a2), .val (.int p), .val (.int d), .val (.tup (c.map .int)), .val (.tup ((tabOf p P c).map .int)), .val (.int most), .val (.tup (f.map .int)), .un, .un, .un, .un, .un, .un, .un, .un]) ?_ ?_
  · generalize (eOp oMul (eOp oIx (eLst (aConsF (eC (.int 0)) (aConsF (eC (.int 1)) (aConsF (eVar 6) (aConsF (eCall g__law_take [true, false] (aCons (eVar 1) (aConsF (eOp oAdd (eVar 6) (eC (.int 1))) aNil))) aNil))))) (eCall g__law_take [true, false] (aCons (eVar 1) (aConsF (eC (.int 4)) aNil)))) (eB bInt (aCons (eOp oGt (eVar 6) (eC (.int 0))) aNil))) = mm at d5 ⊢
    simp [d5, d6]
  have hwm : ((wrongL p P c f).length : Int) ≤ most := by
    rw [wrongL_len, apart_diffs]
    omega
  have e2 := places_comp p P hP h0 (by omega) c f hf (.val L0) (.own (hand ds a2)) (.val (.int d)) (.val (.tup (c.map .int))) (.val (.int most)) .un .un .un .un .un .un .un .un
  refine ok_step (e' := [.val L0, .own (hand ds a2), .val (.int p), .val (.int d), .val (.tup (c.map .int)), .val (.tup ((tabOf p P c).map .int)), .val (.int most), .val (.tup (f.map .int)), .val (.tup ((wrongL p P c f).map .int)), .un, .un, .un, .un, .un, .un, .un]) (by rw [sSet_u, bnd_u, eB_u, bnd_u, aCons_u, bnd_ok e2]; simp) ?_
  obtain ⟨w, hw⟩ : ∃ w : Int, w = (wrongL p P c f).length := ⟨_, rfl⟩
  have w0 : 0 ≤ w := by omega
  have hqw : 2 * (d + 1) * w < p := by
    rw [← hq]
    have : q * w ≤ q * most := Int.mul_le_mul_of_nonneg_left (by omega) (by omega)
    omega
  refine ok_step (e' := lawE (.val L0) (hand ds a2) p d c (tabOf p P c) most f (wrongL p P c f) w .un .un .un .un .un .un) (by simp [hw]) ?_
  -- the curve is told
  have hcc : g_close_curve [.a (.int p), .a (.int d), .a (.tup (f.map .int))] = .ok (.d (dC c)) [] := by
    obtain ⟨z, hz, hcase⟩ := near_same hP hp hd hD hD2 hf
    have mem : c ∈ (allC P (Dn + 1)).filter (nearC p d P f) := List.mem_filter.mpr ⟨mem_allC.mpr ⟨hc, fun x hx => by have := cr x hx; omega⟩, decide_eq_true (by rw [← wrongL_len, ← hw]; exact hqw)⟩
    rcases hcase with ⟨rfl, hL⟩ | ⟨C, rC, lC, rfl, hL⟩
    · rw [hL] at mem; simp at mem
    · rw [hL] at mem
      have : c = C := by simpa using mem
      rw [this]; exact hz
  have rp : bRepr [dC c] = some (.d (.str (dC c).text)) := ints_rep (fun x hx => by have := cr x hx; omega) (by omega)
  have hwo := wrong_on_ok p P hP hp c f (by omega) (by omega) cr hf
  rw [nats_map] at hwo
  have rw1 : ∀ c : List Int, bRepr [.tup ((wrongL p P c f).map .int)] = some (.d (.str (D.tup ((wrongL p P c f).map .int)).text)) := fun c => ints_rep (wrongL_range (by omega)) (by have := wrongL_le (p := p) (P := P) (c := c) (f := f); omega)
  have rwc := rw1 c
  unfold dC at hcc rp
  have hwo : g_wrong_on [.a (.int p), .a (.tup (c.map .int)), .a (.tup (f.map .int))] = .ok (.d (.tup ((wrongL p P c f).map .int))) [] := hwo
  refine ok_step (e' := lawE (.val L0) (hand ds a2) p d c (tabOf p P c) most f (wrongL p P c f) w .un .un .un .un .un .un) (by simp only [lawE]; generalize tabOf p P c = G; generalize wrongL p P c f = L at hwo rwc; simp [hcc, rp, hwo, rwc, -List.map_map]) ?_
  refine ok_step (e' := lawE (.val L0) (hand ds a2) p d c (tabOf p P c) most f (wrongL p P c f) w (.val (.bl false)) .un .un .un .un .un) (by simp) ?_
  refine ok_seq (Ok.imp (Q := fun q e' => q = .next ∧ ∃ nb : Bool, (nb = true → w * (d + 1) * (d + 3) < p) ∧ e' = lawE (.val L0) (hand ds a2) p d c (tabOf p P c) most f (wrongL p P c f) w (.val (.bl nb)) .un .un .un .un .un) ?_ ?_)
  · by_cases z : p < 38
    · refine ok_ifT (e' := lawE (.val L0) (hand ds a2) p d c (tabOf p P c) most f (wrongL p P c f) w (.val (.bl false)) .un .un .un .un .un) (by simp [z]) ?_
      have s1 : small64 (d + 1) = true := small_of (by omega) (by omega)
      have s3 : small64 (d + 3) = true := small_of (by omega) (by omega)
      have s2 : small64 p = true := small_of (by omega) (by omega)
      have hn := is_near_ok p d P Dn hP hp hd hD hD2 f hf
      have hB := broken_ok p d P Dn hP (by omega) (by omega) hd hD f hf
      have hnb : decide (badN (rowD Dn) f P (Dn + 2) * (d + 1) * (d + 3) * (d + 3) < (d + 2) * p * p) = nearB p d P Dn f := rfl
      have hlt : nearB p d P Dn f = true → w * (d + 1) * (d + 3) < p := near_law hP hp hd hD hD2 hc hf hw hqw
      generalize nearB p d P Dn f = nb at hn hnb hlt
      generalize badN (rowD Dn) f P (Dn + 2) = B at hB hnb
      generalize tabOf p P c = G
      generalize wrongL p P c f = L
      refine ok_step (e' := lawE (.val L0) (hand ds a2) p d c G most f L w (.val (.bl nb)) .un .un .un .un .un) (by simp [hn]) ?_
      refine ok_step (e' := lawE (.val L0) (hand ds a2) p d c G most f L w (.val (.bl nb)) .un .un .un .un .un) (by simp [hB, s1, s2, s3, hnb, rep_bl]) ?_
      refine .of (a := .next) (e := lawE (.val L0) (hand ds a2) p d c G most f L w (.val (.bl nb)) .un .un .un .un .un) ?_ ⟨rfl, nb, hlt, rfl⟩
      cases nb with
      | false => simp
      | true =>
        have k3 : ¬ p ≤ w * (d + 1) * (d + 3) := by have := hlt rfl; omega
        simp [s1, s3, k3]
    · exact ok_ifF (e' := lawE (.val L0) (hand ds a2) p d c (tabOf p P c) most f (wrongL p P c f) w (.val (.bl false)) .un .un .un .un .un) (by simp [z]) (.of rfl ⟨rfl, false, fun h => by simp at h, rfl⟩)
  · rintro q' e ⟨rfl, nb, hnb, rfl⟩
    refine ⟨rfl, ?_⟩
    obtain ⟨u, u0, u1, d7⟩ := take_ok ds a2 5 (by omega)
    obtain ⟨o, a3, ol, orr, d8⟩ := curve_ok ds (a2 + 1) p u (by omega) u0 (by omega)
    refine ok_step (e' := lawE (.val L0) (hand ds a3) p d c (tabOf p P c) most f (wrongL p P c f) w (.val (.bl nb)) (.val (.tup (o.map .int))) .un .un .un .un) (by simp [d7, d8]) ?_
    obtain ⟨x, x0, x1, d9⟩ := take_ok ds a3 p (by omega)
    refine ok_step (e' := lawE (.val L0) (hand ds (a3 + 1)) p d c (tabOf p P c) most f (wrongL p P c f) w (.val (.bl nb)) (.val (.tup (o.map .int))) (.val (.int x)) .un .un .un) (by simp [d9]) ?_
    have va := value_at_ok p x hp o (by omega) (by omega) orr x0 x1
    have vb := value_ok p x (by omega) (small_of (by omega) (by omega)) o _ (.inr rfl)
    have y0 := Int.emod_nonneg (evalL o x) (show p ≠ 0 by omega)
    have y1 := Int.emod_lt_of_pos (evalL o x) (show 0 < p by omega)
    have ry : bRepr [.int (evalL o x % p)] = some (.d (.str (D.int (evalL o x % p)).text)) := int_rep ⟨y0, by omega⟩
    refine ok_step (e' := lawE (.val L0) (hand ds (a3 + 1)) p d c (tabOf p P c) most f (wrongL p P c f) w (.val (.bl nb)) (.val (.tup (o.map .int))) (.val (.int x)) .un .un .un) (by generalize evalL o x % p = y at va vb ry; generalize tabOf p P c = G; generalize wrongL p P c f = L; simp [va, vb, ry, perm]) ?_
    have e3 := places2_comp p P hP h0 (by omega) o f hf (.val L0) (.own (hand ds (a3 + 1))) (.val (.int d)) (.val (.tup (c.map .int))) (.val (.tup ((tabOf p P c).map .int))) (.val (.int most)) (.val (.tup ((wrongL p P c f).map .int))) (.val (.int w)) (.val (.bl nb)) (.val (.int x)) .un .un .un
    refine ok_step (e' := lawE (.val L0) (hand ds (a3 + 1)) p d c (tabOf p P c) most f (wrongL p P o f) w (.val (.bl nb)) (.val (.tup (o.map .int))) (.val (.int x)) .un .un .un) (by rw [sSet_u, bnd_u, eB_u, bnd_u, aCons_u, bnd_ok e3]; simp) ?_
    have hwo2 := wrong_on_ok p P hP hp o f (by omega) (by omega) orr hf
    rw [nats_map] at hwo2
    have hwo2 : g_wrong_on [.a (.int p), .a (.tup (o.map .int)), .a (.tup (f.map .int))] = .ok (.d (.tup ((wrongL p P o f).map .int))) [] := hwo2
    have rwo := rw1 o
    refine ok_step (e' := lawE (.val L0) (hand ds (a3 + 1)) p d c (tabOf p P c) most f (wrongL p P o f) w (.val (.bl nb)) (.val (.tup (o.map .int))) (.val (.int x)) .un .un .un) (by generalize tabOf p P c = G; generalize wrongL p P o f = L at hwo2 rwo; simp [hwo2, rwo, perm]) ?_
    refine ok_seq (Ok.imp (three_ok ds (a3 + 1) p d w most P Dn hP hp hd hD hD2 c f (wrongL p P o f) hc cr hf hw hqw nb hnb (.val L0) (.val (.tup (o.map .int))) (.val (.int x)) .un .un .un) ?_)
    rintro q' e ⟨rfl, a4, s12, s13, s14, s15, rfl⟩
    refine ⟨rfl, ?_⟩
    obtain ⟨a5, d10⟩ := is_small_ok ds a4
    refine ok_sret (w := .d (.bl true)) (e' := lawE (.val L0) (hand ds a5) p d c (tabOf p P c) most f (wrongL p P o f) w (.val (.bl nb)) (.val (.tup (o.map .int))) s12 s13 s14 s15) (by simp [d10]) ⟨_, rfl, rfl, rfl⟩
end K55
end Py
end
section
set_option Elab.async false
set_option linter.all false
set_option maxRecDepth 100000
namespace Py
namespace K55
open PySem PySem.Spec PyProof.Rows L2
def topS (i : Nat) : Stmt := PySem.Challenge.pw_nearrealm_k55_whole_one_curve.main.body.getD i (.Pass ⟨0, 0, 0, 0⟩)
abbrev s_is_integer : Stmt := topS 5
abbrev s_is_number : Stmt := topS 6
abbrev s_is_below : Stmt := topS 7
abbrev s_row_below : Stmt := topS 8
abbrev s_ways_of : Stmt := topS 10
abbrev s_is_prime : Stmt := topS 14
abbrev s_check_prime : Stmt := topS 15
abbrev s_check_table : Stmt := topS 16
abbrev s_check_degree : Stmt := topS 17
abbrev s_factors_of : Stmt := topS 18
abbrev s_step_sum : Stmt := topS 19
abbrev s_broken_steps : Stmt := topS 20
abbrev s_step_votes : Stmt := topS 21
abbrev s_is_near : Stmt := topS 22
abbrev s_inverse_of : Stmt := topS 25
abbrev s_times_less : Stmt := topS 26
abbrev s_value_of : Stmt := topS 28
abbrev s_curve_through : Stmt := topS 27
abbrev s_places_apart : Stmt := topS 29
abbrev s_close_curve : Stmt := topS 30
abbrev s_is_curve : Stmt := topS 31
abbrev s_value_at : Stmt := topS 32
abbrev s_wrong_on : Stmt := topS 33
abbrev s__law_draws : Stmt := topS 35
abbrev s__law_take : Stmt := topS 36
abbrev s__law_prime : Stmt := topS 37
abbrev s__law_value : Stmt := topS 38
abbrev s__law_curve : Stmt := topS 39
abbrev s__law_turned : Stmt := topS 40
abbrev s__law_steps : Stmt := topS 41
abbrev s__law_broken : Stmt := topS 42
abbrev s__law_votes : Stmt := topS 43
abbrev s__law_near : Stmt := topS 44
abbrev s__law_is_small : Stmt := topS 45
abbrev s_law : Stmt := topS 46
def cDef : Stmt → Stmt
  | .ClassDef _ _ _ body _ _ _ _ _ _ _ => body.getD 0 (.Pass ⟨0, 0, 0, 0⟩)
  | s => s
abbrev si_InvalidNumber : Stmt := cDef (topS 2)
abbrev si_InvalidMap : Stmt := cDef (topS 3)
structure Txt (K : PySem.W.Frag) (mg : Str → Option Value) where
  f_is_integer : FunT K mg "is_integer" s_is_integer ["value"]
  f_is_number : FunT K mg "is_number" s_is_number ["value"]
  f_is_below : FunT K mg "is_below" s_is_below ["value", "bound"]
  f_row_below : FunT K mg "row_below" s_row_below ["value", "length", "bound"]
  f_ways_of : FunT K mg "ways_of" s_ways_of ["many"]
  f_is_prime : FunT K mg "is_prime" s_is_prime ["value", "most"]
  f_check_prime : FunT K mg "check_prime" s_check_prime ["p"]
  f_check_table : FunT K mg "check_table" s_check_table ["p", "f"]
  f_check_degree : FunT K mg "check_degree" s_check_degree ["p", "d", "f"]
  f_factors_of : FunT K mg "factors_of" s_factors_of ["d"]
  f_step_sum : FunT K mg "step_sum" s_step_sum ["p", "factors", "f", "x", "h"]
  f_broken_steps : FunT K mg "broken_steps" s_broken_steps ["p", "d", "f"]
  f_step_votes : FunT K mg "step_votes" s_step_votes ["p", "d", "f", "x"]
  f_is_near : FunT K mg "is_near" s_is_near ["p", "d", "f"]
  f_inverse_of : FunT K mg "inverse_of" s_inverse_of ["p", "number"]
  f_times_less : FunT K mg "times_less" s_times_less ["p", "curve", "x"]
  f_value_of : FunT K mg "value_of" s_value_of ["p", "curve", "x"]
  f_curve_through : FunT K mg "curve_through" s_curve_through ["p", "values"]
  f_places_apart : FunT K mg "places_apart" s_places_apart ["p", "curve", "f"]
  f_close_curve : FunT K mg "close_curve" s_close_curve ["p", "d", "f"]
  f_is_curve : FunT K mg "is_curve" s_is_curve ["p", "value"]
  f_value_at : FunT K mg "value_at" s_value_at ["p", "curve", "x"]
  f_wrong_on : FunT K mg "wrong_on" s_wrong_on ["p", "curve", "f"]
  f__law_draws : FunT K mg "_law_draws" s__law_draws ["script", "many"]
  f__law_take : FunT K mg "_law_take" s__law_take ["hand", "many"]
  f__law_prime : FunT K mg "_law_prime" s__law_prime ["hand", "most"]
  f__law_value : FunT K mg "_law_value" s__law_value ["p", "curve", "x"]
  f__law_curve : FunT K mg "_law_curve" s__law_curve ["hand", "p", "d"]
  f__law_turned : FunT K mg "_law_turned" s__law_turned ["hand", "p", "f", "many"]
  f__law_steps : FunT K mg "_law_steps" s__law_steps ["d"]
  f__law_broken : FunT K mg "_law_broken" s__law_broken ["p", "d", "f"]
  f__law_votes : FunT K mg "_law_votes" s__law_votes ["p", "d", "f", "x"]
  f__law_near : FunT K mg "_law_near" s__law_near ["p", "d", "f"]
  f__law_is_small : FunT K mg "_law_is_small" s__law_is_small ["hand"]
  f_law : FunT K mg "law" s_law ["script"]
  n_abs : mg "abs" = none
  n_all : mg "all" = none
  n_bool : mg "bool" = none
  n_enumerate : mg "enumerate" = none
  n_int : mg "int" = none
  n_isinstance : mg "isinstance" = none
  n_len : mg "len" = none
  n_list : mg "list" = none
  n_max : mg "max" = none
  n_min : mg "min" = none
  n_range : mg "range" = none
  n_repr : mg "repr" = none
  n_reversed : mg "reversed" = none
  n_sum : mg "sum" = none
  n_tuple : mg "tuple" = none
  n_zip : mg "zip" = none
  c_MOST_PRIME : ∃ t, mg "MOST_PRIME" = some (.int (101) t)
  c_MOST_DEGREE : ∃ t, mg "MOST_DEGREE" = some (.int (4) t)
  c_MOST_NUMBERS : ∃ t, mg "MOST_NUMBERS" = some (.int (5) t)
  x_InvalidNumber : ErrT K mg "InvalidNumber" "InvalidNumber.__init__" si_InvalidNumber ["self", "value"]
  fl_InvalidNumber : ∀ f ∈ (["value"] : List String).map Str.ofString, PySem.W.findIn K (.ref x_InvalidNumber.C) f = some none
  x_InvalidMap : ErrT K mg "InvalidMap" "InvalidMap.__init__" si_InvalidMap ["self", "value"]
  fl_InvalidMap : ∀ f ∈ (["value"] : List String).map Str.ofString, PySem.W.findIn K (.ref x_InvalidMap.C) f = some none
  C_InvalidNumber : Addr
  m_InvalidNumber : mg "InvalidNumber" = some (.ref C_InvalidNumber)
  C_InvalidMap : Addr
  m_InvalidMap : mg "InvalidMap" = some (.ref C_InvalidMap)
  ctk : CtOk K mg ct ["value"]
theorem i_InvalidNumber {P : Program} {w : World} {K : PySem.W.Frag} {mg : Str → Option Value} {base : Heap} (T : Txt K mg) : FnOk P w K mg base CX0 1 T.x_InvalidNumber.fI T.x_InvalidNumber.fd ["self", "value"] (spI K ((["value"] : List String).map Str.ofString)) := init1 T.x_InvalidNumber.F (show FnScope ["self", "value"] ["self", "value"] (defScope si_InvalidNumber) from ⟨rfl, rfl, rfl, by decide +kernel, rfl, by decide +kernel, by decide +kernel⟩) fun _ _ _ _ _ _ => pss_one (ps_ost (pv 0) (pv 1))
theorem i_InvalidMap {P : Program} {w : World} {K : PySem.W.Frag} {mg : Str → Option Value} {base : Heap} (T : Txt K mg) : FnOk P w K mg base CX0 1 T.x_InvalidMap.fI T.x_InvalidMap.fd ["self", "value"] (spI K ((["value"] : List String).map Str.ofString)) := init1 T.x_InvalidMap.F (show FnScope ["self", "value"] ["self", "value"] (defScope si_InvalidMap) from ⟨rfl, rfl, rfl, by decide +kernel, rfl, by decide +kernel, by decide +kernel⟩) fun _ _ _ _ _ _ => pss_one (ps_ost (pv 0) (pv 1))
abbrev NN_is_integer : List Str := ["value"]
theorem sc_is_integer : FnScope ["value"] ["value"] (defScope s_is_integer) := ⟨rfl, rfl, rfl, by decide +kernel, rfl, by decide +kernel, by decide +kernel⟩
theorem ok_is_integer {P : Program} {w : World} {K : PySem.W.Frag} {mg : Str → Option Value} {base : Heap} (T : Txt K mg) : Prom P w K mg base 1 T.f_is_integer.f T.f_is_integer.fd ["value"] (spM K mg 1 g_is_integer) :=
  fn_ok T.f_is_integer.F sc_is_integer fun cdv A outer s H E hr => have sc := sc_is_integer
      (sss_one (ss_ret (se_and (se_callB call_isi cs_isi T.n_isinstance (sa_cons (se_var 0) (sa_cons (se_ty (by rfl) T.n_int (by decide +kernel)) sa_nil))) (se_one (se_not (se_callB call_isi cs_isi T.n_isinstance (sa_cons (se_var 0) (sa_cons (se_ty (by rfl) T.n_bool (by decide +kernel)) sa_nil))))))))
abbrev NN_is_number : List Str := ["value"]
theorem sc_is_number : FnScope ["value"] ["value"] (defScope s_is_number) := ⟨rfl, rfl, rfl, by decide +kernel, rfl, by decide +kernel, by decide +kernel⟩
theorem ok_is_number {P : Program} {w : World} {K : PySem.W.Frag} {mg : Str → Option Value} {base : Heap} (T : Txt K mg) : Prom P w K mg base 2 T.f_is_number.f T.f_is_number.fd ["value"] (spM K mg 1 g_is_number) :=
  fn_ok T.f_is_number.F sc_is_number fun cdv A outer s H E hr => have sc := sc_is_number
      (sss_one (ss_ret (se_and (se_call (mask := []) (ok_is_integer T) (hr.mono (by decide)) T.f_is_integer.m T.f_is_integer.F.kp T.f_is_integer.b (takes_of rfl rfl rfl rfl) mkFn_len (sa_consF (se_var 0) sa_nil)) (se_one (se_cmp op_ge ops_ge (se_var 0) se_int (nomark _))))))
abbrev NN_is_below : List Str := ["value", "bound"]
theorem sc_is_below : FnScope ["value", "bound"] ["value", "bound"] (defScope s_is_below) := ⟨rfl, rfl, rfl, by decide +kernel, rfl, by decide +kernel, by decide +kernel⟩
theorem ok_is_below {P : Program} {w : World} {K : PySem.W.Frag} {mg : Str → Option Value} {base : Heap} (T : Txt K mg) : Prom P w K mg base 2 T.f_is_below.f T.f_is_below.fd ["value", "bound"] (spM K mg 2 g_is_below) :=
  fn_ok T.f_is_below.F sc_is_below fun cdv A outer s H E hr => have sc := sc_is_below
      (sss_one (ss_ret (se_and (se_call (mask := []) (ok_is_integer T) (hr.mono (by decide)) T.f_is_integer.m T.f_is_integer.F.kp T.f_is_integer.b (takes_of rfl rfl rfl rfl) mkFn_len (sa_consF (se_var 0) sa_nil)) (se_one (se_chain op_le ops_le op_lt ops_lt se_int (se_var 0) (se_var 1))))))
abbrev NN_row_below : List Str := ["value", "length", "bound", "one"]
theorem sc_row_below : FnScope ["value", "length", "bound", "one"] ["value", "length", "bound"] (defScope s_row_below) := ⟨rfl, rfl, rfl, by decide +kernel, rfl, by decide +kernel, by decide +kernel⟩
theorem ok_row_below {P : Program} {w : World} {K : PySem.W.Frag} {mg : Str → Option Value} {base : Heap} (T : Txt K mg) : Prom P w K mg base 3 T.f_row_below.f T.f_row_below.fd ["value", "length", "bound"] (spM K mg 3 g_row_below) :=
  fn_ok T.f_row_below.F sc_row_below fun cdv A outer s H E hr => have sc := sc_row_below
      (sss_cons (ss_if (st_pw (spw_or (st_not (st_val (se_callB call_isi cs_isi T.n_isinstance (sa_cons (se_var 0) (sa_cons (se_ty (by rfl) T.n_tuple (by decide +kernel)) sa_nil))))) (spw_or1 (st_cmp (OpR.or op_ne (op_neD hr.r.units)) ops_ne (se_callB call_len_seq cs_len T.n_len (sa_cons (se_var 0) sa_nil)) (se_var 1) (nomark _))))) (sss_one (ss_ret se_bl)) sss_nil)
      (sss_cons (ss_for (passes_of rfl) rfl (si_seq (se_var 0)) (sg_name (i := 3) sc.nd) (sss_one (ss_if (st_not (st_val (se_call (mask := []) (ok_is_below T) (hr.mono (by decide)) T.f_is_below.m T.f_is_below.F.kp T.f_is_below.b (takes_of rfl rfl rfl rfl) mkFn_len (sa_consF (se_var 3) (sa_consF (se_var 2) sa_nil))))) (sss_one (ss_ret se_bl)) sss_nil)))
      (sss_one (ss_ret se_bl))))
abbrev NN_ways_of : List Str := ["many", "found", "_", "one", "other"]
theorem sc_ways_of : FnScope ["many", "found", "_", "one", "other"] ["many"] (defScope s_ways_of) := ⟨rfl, rfl, rfl, by decide +kernel, rfl, by decide +kernel, by decide +kernel⟩
theorem ok_ways_of {P : Program} {w : World} {K : PySem.W.Frag} {mg : Str → Option Value} {base : Heap} (T : Txt K mg) : Prom P w K mg base 1 T.f_ways_of.f T.f_ways_of.fd ["many"] (spM K mg 1 g_ways_of) :=
  fn_ok T.f_ways_of.F sc_ways_of fun cdv A outer s H E hr => have sc := sc_ways_of
      (sss_cons (ss_set (i := 1) sc.nd (se_lst (sa_consF se_int sa_nil)))
      (sss_cons (ss_for (passes_of rfl) rfl (si_range1 T.n_range (se_var 0)) (sg_name (i := 2) sc.nd) (sss_one (ss_set (i := 1) sc.nd (se_add (se_add (se_lst (sa_consF se_int sa_nil)) (se_comp rfl sc.nd (si_zip T.n_zip (sa_consF (se_var 1) (sa_consF (se_sl (se_var 1) (so_some se_int) so_none) sa_nil))) (own := [("one", 3), ("other", 4)]) (show blkC NN_ways_of (defScope s_ways_of) _ _ = true by decide +kernel) (by decide) (fun _ _ _ _ _ => (sg_tup rfl (sgs_cons (i := 3) sc.nd (sgs_cons (i := 4) sc.nd sgs_nil)))) (fun _ _ _ _ _ => sts_nil) (fun _ _ _ _ _ => (se_add (se_var 3) (se_var 4))))) (se_lst (sa_consF se_int sa_nil))))))
      (sss_one (ss_ret (se_var 1)))))
abbrev NN_is_prime : List Str := ["value", "most", "divisor"]
theorem sc_is_prime : FnScope ["value", "most", "divisor"] ["value", "most"] (defScope s_is_prime) := ⟨rfl, rfl, rfl, by decide +kernel, rfl, by decide +kernel, by decide +kernel⟩
theorem ok_is_prime {P : Program} {w : World} {K : PySem.W.Frag} {mg : Str → Option Value} {base : Heap} (T : Txt K mg) : Prom P w K mg base 3 T.f_is_prime.f T.f_is_prime.fd ["value", "most"] (spM K mg 2 g_is_prime) :=
  fn_ok T.f_is_prime.F sc_is_prime fun cdv A outer s H E hr => have sc := sc_is_prime
      (sss_cons (ss_if (st_pw (spw_or (st_not (st_val (se_call (mask := []) (ok_is_number T) (hr.mono (by decide)) T.f_is_number.m T.f_is_number.F.kp T.f_is_number.b (takes_of rfl rfl rfl rfl) mkFn_len (sa_consF (se_var 0) sa_nil)))) (spw_or1 (st_not (st_chain op_le ops_le op_le ops_le se_int (se_var 0) (se_var 1)))))) (sss_one (ss_ret se_bl)) sss_nil)
      (sss_one (ss_ret (se_callB (cr_all rfl) cs_all T.n_all (sa_cons (se_comp rfl sc.nd (si_range2 T.n_range se_int (se_var 0)) (own := [("divisor", 2)]) (show blkC NN_is_prime (defScope s_is_prime) _ _ = true by decide +kernel) (by decide) (fun _ _ _ _ _ => (sg_name (i := 2) sc.nd)) (fun _ _ _ _ _ => sts_nil) (fun _ _ _ _ _ => (se_cmp (OpR.or op_ne (op_neD hr.r.units)) ops_ne (se_mod (se_var 0) (se_var 2)) se_int (nomark _)))) sa_nil)))))
abbrev NN_check_prime : List Str := ["p"]
theorem sc_check_prime : FnScope ["p"] ["p"] (defScope s_check_prime) := ⟨rfl, rfl, rfl, by decide +kernel, rfl, by decide +kernel, by decide +kernel⟩
theorem ok_check_prime {P : Program} {w : World} {K : PySem.W.Frag} {mg : Str → Option Value} {base : Heap} (T : Txt K mg) : Prom P w K mg base 4 T.f_check_prime.f T.f_check_prime.fd ["p"] (spM K mg 1 g_check_prime) :=
  fn_ok T.f_check_prime.F sc_check_prime fun cdv A outer s H E hr => have sc := sc_check_prime
      (sss_one (ss_if (st_not (st_val (se_call (mask := []) (ok_is_prime T) (hr.mono (by decide)) T.f_is_prime.m T.f_is_prime.F.kp T.f_is_prime.b (takes_of rfl rfl rfl rfl) mkFn_len (sa_consF (se_var 0) (sa_consF (T.c_MOST_PRIME.elim fun t h => se_glob (v := .int (101)) (by rfl) h ⟨t, rfl⟩ fun _ => .int _) sa_nil))))) (sss_one (ss_raiseC (ns := ["value"]) T.x_InvalidNumber (i_InvalidNumber T) hr (takes_of rfl rfl rfl rfl) T.fl_InvalidNumber (sa_consF (se_var 0) sa_nil))) sss_nil))
abbrev NN_check_table : List Str := ["p", "f"]
theorem sc_check_table : FnScope ["p", "f"] ["p", "f"] (defScope s_check_table) := ⟨rfl, rfl, rfl, by decide +kernel, rfl, by decide +kernel, by decide +kernel⟩
theorem ok_check_table {P : Program} {w : World} {K : PySem.W.Frag} {mg : Str → Option Value} {base : Heap} (T : Txt K mg) : Prom P w K mg base 5 T.f_check_table.f T.f_check_table.fd ["p", "f"] (spM K mg 2 g_check_table) :=
  fn_ok T.f_check_table.F sc_check_table fun cdv A outer s H E hr => have sc := sc_check_table
      (sss_cons (ss_drop (se_call (mask := []) (ok_check_prime T) (hr.mono (by decide)) T.f_check_prime.m T.f_check_prime.F.kp T.f_check_prime.b (takes_of rfl rfl rfl rfl) mkFn_len (sa_consF (se_var 0) sa_nil)))
      (sss_one (ss_if (st_not (st_val (se_call (mask := []) (ok_row_below T) (hr.mono (by decide)) T.f_row_below.m T.f_row_below.F.kp T.f_row_below.b (takes_of rfl rfl rfl rfl) mkFn_len (sa_consF (se_var 1) (sa_consF (se_var 0) (sa_consF (se_var 0) sa_nil)))))) (sss_one (ss_raiseC (ns := ["value"]) T.x_InvalidMap (i_InvalidMap T) hr (takes_of rfl rfl rfl rfl) T.fl_InvalidMap (sa_consF (se_var 1) sa_nil))) sss_nil)))
abbrev NN_check_degree : List Str := ["p", "d", "f"]
theorem sc_check_degree : FnScope ["p", "d", "f"] ["p", "d", "f"] (defScope s_check_degree) := ⟨rfl, rfl, rfl, by decide +kernel, rfl, by decide +kernel, by decide +kernel⟩
theorem ok_check_degree {P : Program} {w : World} {K : PySem.W.Frag} {mg : Str → Option Value} {base : Heap} (T : Txt K mg) : Prom P w K mg base 6 T.f_check_degree.f T.f_check_degree.fd ["p", "d", "f"] (spM K mg 3 g_check_degree) :=
  fn_ok T.f_check_degree.F sc_check_degree fun cdv A outer s H E hr => have sc := sc_check_degree
      (sss_cons (ss_drop (se_call (mask := []) (ok_check_prime T) (hr.mono (by decide)) T.f_check_prime.m T.f_check_prime.F.kp T.f_check_prime.b (takes_of rfl rfl rfl rfl) mkFn_len (sa_consF (se_var 0) sa_nil)))
      (sss_cons (ss_if (st_pw (spw_or (st_not (st_val (se_call (mask := []) (ok_is_number T) (hr.mono (by decide)) T.f_is_number.m T.f_is_number.F.kp T.f_is_number.b (takes_of rfl rfl rfl rfl) mkFn_len (sa_consF (se_var 1) sa_nil)))) (spw_or (st_cmp op_gt ops_gt (se_var 1) (T.c_MOST_DEGREE.elim fun t h => se_glob (v := .int (4)) (by rfl) h ⟨t, rfl⟩ fun _ => .int _) (nomark _)) (spw_or1 (st_cmp op_gt ops_gt (se_add (se_var 1) se_int) (se_var 0) (nomark _)))))) (sss_one (ss_raiseC (ns := ["value"]) T.x_InvalidNumber (i_InvalidNumber T) hr (takes_of rfl rfl rfl rfl) T.fl_InvalidNumber (sa_consF (se_var 1) sa_nil))) sss_nil)
      (sss_one (ss_drop (se_call (mask := []) (ok_check_table T) (hr.mono (by decide)) T.f_check_table.m T.f_check_table.F.kp T.f_check_table.b (takes_of rfl rfl rfl rfl) mkFn_len (sa_consF (se_var 0) (sa_consF (se_var 2) sa_nil)))))))
abbrev NN_factors_of : List Str := ["d", "i", "way"]
theorem sc_factors_of : FnScope ["d", "i", "way"] ["d"] (defScope s_factors_of) := ⟨rfl, rfl, rfl, by decide +kernel, rfl, by decide +kernel, by decide +kernel⟩
theorem ok_factors_of {P : Program} {w : World} {K : PySem.W.Frag} {mg : Str → Option Value} {base : Heap} (T : Txt K mg) : Prom P w K mg base 2 T.f_factors_of.f T.f_factors_of.fd ["d"] (spM K mg 1 g_factors_of) :=
  fn_ok T.f_factors_of.F sc_factors_of fun cdv A outer s H E hr => have sc := sc_factors_of
      (sss_one (ss_ret (se_comp rfl sc.nd (si_enum T.n_enumerate (se_call (mask := []) (ok_ways_of T) (hr.mono (by decide)) T.f_ways_of.m T.f_ways_of.F.kp T.f_ways_of.b (takes_of rfl rfl rfl rfl) mkFn_len (sa_consF (se_add (se_var 0) se_int) sa_nil))) (own := [("i", 1), ("way", 2)]) (show blkC NN_factors_of (defScope s_factors_of) _ _ = true by decide +kernel) (by decide) (fun _ _ _ _ _ => (sg_tup rfl (sgs_cons (i := 1) sc.nd (sgs_cons (i := 2) sc.nd sgs_nil)))) (fun _ _ _ _ _ => sts_nil) (fun _ _ _ _ _ => (se_if (st_cmp (OpR.or op_eq (op_eqD hr.r.units)) ops_eq (se_mod (se_var 1) se_int) se_int (nomark _)) (se_var 2) (se_neg (se_var 2)))))))
abbrev NN_step_sum : List Str := ["p", "factors", "f", "x", "h", "i", "factor"]
theorem sc_step_sum : FnScope ["p", "factors", "f", "x", "h", "i", "factor"] ["p", "factors", "f", "x", "h"] (defScope s_step_sum) := ⟨rfl, rfl, rfl, by decide +kernel, rfl, by decide +kernel, by decide +kernel⟩
theorem ok_step_sum {P : Program} {w : World} {K : PySem.W.Frag} {mg : Str → Option Value} {base : Heap} (T : Txt K mg) : Prom P w K mg base 1 T.f_step_sum.f T.f_step_sum.fd ["p", "factors", "f", "x", "h"] (spM K mg 5 g_step_sum) :=
  fn_ok T.f_step_sum.F sc_step_sum fun cdv A outer s H E hr => have sc := sc_step_sum
      (sss_one (ss_ret (se_mod (se_callB (cr_sum2 rfl) cs_sum T.n_sum (sa_cons (se_comp rfl sc.nd (si_enum T.n_enumerate (se_var 1)) (own := [("i", 5), ("factor", 6)]) (show blkC NN_step_sum (defScope s_step_sum) _ _ = true by decide +kernel) (by decide) (fun _ _ _ _ _ => (sg_tup rfl (sgs_cons (i := 5) sc.nd (sgs_cons (i := 6) sc.nd sgs_nil)))) (fun _ _ _ _ _ => sts_nil) (fun _ _ _ _ _ => (se_mul (se_var 6) (se_ix (se_var 2) (se_mod (se_add (se_var 3) (se_mul (se_var 5) (se_var 4))) (se_var 0)))))) sa_nil)) (se_var 0))))
abbrev NN_broken_steps : List Str := ["p", "d", "f", "factors", "many", "x", "h"]
theorem sc_broken_steps : FnScope ["p", "d", "f", "factors", "many", "x", "h"] ["p", "d", "f"] (defScope s_broken_steps) := ⟨rfl, rfl, rfl, by decide +kernel, rfl, by decide +kernel, by decide +kernel⟩
theorem ok_broken_steps {P : Program} {w : World} {K : PySem.W.Frag} {mg : Str → Option Value} {base : Heap} (T : Txt K mg) : Prom P w K mg base 7 T.f_broken_steps.f T.f_broken_steps.fd ["p", "d", "f"] (spM K mg 3 g_broken_steps) :=
  fn_ok T.f_broken_steps.F sc_broken_steps fun cdv A outer s H E hr => have sc := sc_broken_steps
      (sss_cons (ss_drop (se_call (mask := []) (ok_check_degree T) (hr.mono (by decide)) T.f_check_degree.m T.f_check_degree.F.kp T.f_check_degree.b (takes_of rfl rfl rfl rfl) mkFn_len (sa_consF (se_var 0) (sa_consF (se_var 1) (sa_consF (se_var 2) sa_nil)))))
      (sss_cons (ss_set (i := 3) sc.nd (se_call (mask := []) (ok_factors_of T) (hr.mono (by decide)) T.f_factors_of.m T.f_factors_of.F.kp T.f_factors_of.b (takes_of rfl rfl rfl rfl) mkFn_len (sa_consF (se_var 1) sa_nil)))
      (sss_cons (ss_set (i := 4) sc.nd se_int)
      (sss_cons (ss_for (passes_of rfl) rfl (si_range1 T.n_range (se_var 0)) (sg_name (i := 5) sc.nd) (sss_one (ss_aug (i := 4) sc.nd iop_add ops_aAdd (se_callB call_len_seq cs_len T.n_len (sa_cons (se_comp rfl sc.nd (si_range1 T.n_range (se_var 0)) (own := [("h", 6)]) (show blkC NN_broken_steps (defScope s_broken_steps) _ _ = true by decide +kernel) (by decide) (fun _ _ _ _ _ => (sg_name (i := 6) sc.nd)) (fun _ _ _ _ _ => (sts_one (st_cmp (OpR.or op_ne (op_neD hr.r.units)) ops_ne (se_callV (ok_step_sum T) (hr.mono (by decide)) T.f_step_sum.m T.f_step_sum.F.kp T.f_step_sum.b takes0 mkFn_len (sa_consF (se_var 0) (sa_cons (se_var 3) (sa_consF (se_var 2) (sa_consF (se_var 5) (sa_consF (se_var 6) sa_nil)))))) se_int (nomark _)))) (fun _ _ _ _ _ => (se_var 6))) sa_nil)))))
      (sss_one (ss_ret (se_var 4)))))))
abbrev NN_step_votes : List Str := ["p", "d", "f", "x", "factors", "counts", "h", "_"]
theorem sc_step_votes : FnScope ["p", "d", "f", "x", "factors", "counts", "h", "_"] ["p", "d", "f", "x"] (defScope s_step_votes) := ⟨rfl, rfl, rfl, by decide +kernel, rfl, by decide +kernel, by decide +kernel⟩
theorem ok_step_votes {P : Program} {w : World} {K : PySem.W.Frag} {mg : Str → Option Value} {base : Heap} (T : Txt K mg) : Prom P w K mg base 7 T.f_step_votes.f T.f_step_votes.fd ["p", "d", "f", "x"] (spM K mg 4 g_step_votes) :=
  fn_ok T.f_step_votes.F sc_step_votes fun cdv A outer s H E hr => have sc := sc_step_votes
      (sss_cons (ss_drop (se_call (mask := []) (ok_check_degree T) (hr.mono (by decide)) T.f_check_degree.m T.f_check_degree.F.kp T.f_check_degree.b (takes_of rfl rfl rfl rfl) mkFn_len (sa_consF (se_var 0) (sa_consF (se_var 1) (sa_consF (se_var 2) sa_nil)))))
      (sss_cons (ss_if (st_not (st_val (se_call (mask := []) (ok_is_below T) (hr.mono (by decide)) T.f_is_below.m T.f_is_below.F.kp T.f_is_below.b (takes_of rfl rfl rfl rfl) mkFn_len (sa_consF (se_var 3) (sa_consF (se_var 0) sa_nil))))) (sss_one (ss_raiseC (ns := ["value"]) T.x_InvalidNumber (i_InvalidNumber T) hr (takes_of rfl rfl rfl rfl) T.fl_InvalidNumber (sa_consF (se_var 3) sa_nil))) sss_nil)
      (sss_cons (ss_set (i := 4) sc.nd (se_call (mask := []) (ok_factors_of T) (hr.mono (by decide)) T.f_factors_of.m T.f_factors_of.F.kp T.f_factors_of.b (takes_of rfl rfl rfl rfl) mkFn_len (sa_consF (se_var 1) sa_nil)))
      (sss_cons (se_compS (i := 5) rfl sc.nd (si_range1 T.n_range (se_var 0)) (own := [("_", 7)]) (show blkC NN_step_votes (defScope s_step_votes) _ _ = true by decide +kernel) (by decide) (fun _ _ _ _ _ => (sg_name (i := 7) sc.nd)) (fun _ _ _ _ _ => sts_nil) (fun _ _ _ _ _ => se_int))
      (sss_cons (ss_for (passes_of rfl) rfl (si_range1 T.n_range (se_var 0)) (sg_name (i := 6) sc.nd) (sss_one (ss_augS iop_add ops_aAdd (se_var 5) (se_mod (se_sub (se_ix (se_var 2) (se_var 3)) (se_callV (ok_step_sum T) (hr.mono (by decide)) T.f_step_sum.m T.f_step_sum.F.kp T.f_step_sum.b (takes_of rfl rfl rfl rfl) mkFn_len (sa_consF (se_var 0) (sa_cons (se_var 4) (sa_consF (se_var 2) (sa_consF (se_var 3) (sa_consF (se_var 6) sa_nil))))))) (se_var 0)) se_int)))
      (sss_one (ss_ret (se_callTy call_tuple_of cs_tuple T.n_tuple (sa_cons (se_var 5) sa_nil)))))))))
abbrev NN_is_near : List Str := ["p", "d", "f"]
theorem sc_is_near : FnScope ["p", "d", "f"] ["p", "d", "f"] (defScope s_is_near) := ⟨rfl, rfl, rfl, by decide +kernel, rfl, by decide +kernel, by decide +kernel⟩
theorem ok_is_near {P : Program} {w : World} {K : PySem.W.Frag} {mg : Str → Option Value} {base : Heap} (T : Txt K mg) : Prom P w K mg base 8 T.f_is_near.f T.f_is_near.fd ["p", "d", "f"] (spM K mg 3 g_is_near) :=
  fn_ok T.f_is_near.F sc_is_near fun cdv A outer s H E hr => have sc := sc_is_near
      (sss_one (ss_ret (se_cmp op_lt ops_lt (se_mul (se_mul (se_mul (se_call (mask := []) (ok_broken_steps T) (hr.mono (by decide)) T.f_broken_steps.m T.f_broken_steps.F.kp T.f_broken_steps.b (takes_of rfl rfl rfl rfl) mkFn_len (sa_consF (se_var 0) (sa_consF (se_var 1) (sa_consF (se_var 2) sa_nil)))) (se_add (se_var 1) se_int)) (se_add (se_var 1) se_int)) (se_add (se_var 1) se_int)) (se_mul (se_mul (se_add (se_var 1) se_int) (se_var 0)) (se_var 0)) (nomark _))))
abbrev NN_inverse_of : List Str := ["p", "number", "other"]
theorem sc_inverse_of : FnScope ["p", "number", "other"] ["p", "number"] (defScope s_inverse_of) := ⟨rfl, rfl, rfl, by decide +kernel, rfl, by decide +kernel, by decide +kernel⟩
theorem ok_inverse_of {P : Program} {w : World} {K : PySem.W.Frag} {mg : Str → Option Value} {base : Heap} (T : Txt K mg) : Prom P w K mg base 1 T.f_inverse_of.f T.f_inverse_of.fd ["p", "number"] (spM K mg 2 g_inverse_of) :=
  fn_ok T.f_inverse_of.F sc_inverse_of fun cdv A outer s H E hr => have sc := sc_inverse_of
      (sss_cons (ss_for (passes_of rfl) rfl (si_range2 T.n_range se_int (se_var 0)) (sg_name (i := 2) sc.nd) (sss_one (ss_if (st_cmp (OpR.or op_eq (op_eqD hr.r.units)) ops_eq (se_mod (se_mul (se_var 1) (se_var 2)) (se_var 0)) se_int (nomark _)) (sss_one (ss_ret (se_var 2))) sss_nil)))
      (sss_one (ss_ret se_int)))
abbrev NN_times_less : List Str := ["p", "curve", "x", "longer", "place", "number"]
theorem sc_times_less : FnScope ["p", "curve", "x", "longer", "place", "number"] ["p", "curve", "x"] (defScope s_times_less) := ⟨rfl, rfl, rfl, by decide +kernel, rfl, by decide +kernel, by decide +kernel⟩
theorem ok_times_less {P : Program} {w : World} {K : PySem.W.Frag} {mg : Str → Option Value} {base : Heap} (T : Txt K mg) : Prom P w K mg base 1 T.f_times_less.f T.f_times_less.fd ["p", "curve", "x"] (spM K mg 3 g_times_less) :=
  fn_ok T.f_times_less.F sc_times_less fun cdv A outer s H E hr => have sc := sc_times_less
      (sss_cons (ss_set (i := 3) sc.nd (se_add (se_lst (sa_consF se_int sa_nil)) (se_callTy call_list_of cs_list T.n_list (sa_cons (se_var 1) sa_nil))))
      (sss_cons (ss_for (passes_of rfl) rfl (si_enum T.n_enumerate (se_var 1)) (sg_tup rfl (sgs_cons (i := 4) sc.nd (sgs_cons (i := 5) sc.nd sgs_nil))) (sss_one (ss_put (se_mod (se_sub (se_ix (se_var 3) (se_var 4)) (se_mul (se_var 2) (se_var 5))) (se_var 0)) (se_var 3) (se_var 4))))
      (sss_one (ss_ret (se_var 3)))))
abbrev NN_value_of : List Str := ["p", "curve", "x", "total", "number"]
theorem sc_value_of : FnScope ["p", "curve", "x", "total", "number"] ["p", "curve", "x"] (defScope s_value_of) := ⟨rfl, rfl, rfl, by decide +kernel, rfl, by decide +kernel, by decide +kernel⟩
theorem ok_value_of {P : Program} {w : World} {K : PySem.W.Frag} {mg : Str → Option Value} {base : Heap} (T : Txt K mg) : Prom P w K mg base 1 T.f_value_of.f T.f_value_of.fd ["p", "curve", "x"] (spM K mg 3 g_value_of) :=
  fn_ok T.f_value_of.F sc_value_of fun cdv A outer s H E hr => have sc := sc_value_of
      (sss_cons (ss_set (i := 3) sc.nd se_int)
      (sss_cons (ss_for (passes_of rfl) rfl (si_reversed T.n_reversed (se_var 1)) (sg_name (i := 4) sc.nd) (sss_one (ss_set (i := 3) sc.nd (se_mod (se_add (se_mul (se_var 3) (se_var 2)) (se_var 4)) (se_var 0)))))
      (sss_one (ss_ret (se_var 3)))))
abbrev NN_curve_through : List Str := ["p", "values", "curve", "product", "x", "value", "lack", "place", "number", "_"]
theorem sc_curve_through : FnScope ["p", "values", "curve", "product", "x", "value", "lack", "place", "number", "_"] ["p", "values"] (defScope s_curve_through) := ⟨rfl, rfl, rfl, by decide +kernel, rfl, by decide +kernel, by decide +kernel⟩
theorem ok_curve_through {P : Program} {w : World} {K : PySem.W.Frag} {mg : Str → Option Value} {base : Heap} (T : Txt K mg) : Prom P w K mg base 2 T.f_curve_through.f T.f_curve_through.fd ["p", "values"] (spM K mg 2 g_curve_through) :=
  fn_ok T.f_curve_through.F sc_curve_through fun cdv A outer s H E hr => have sc := sc_curve_through
      (sss_cons (se_compS (i := 2) rfl sc.nd (si_seq (se_var 1)) (own := [("_", 9)]) (show blkC NN_curve_through (defScope s_curve_through) _ _ = true by decide +kernel) (by decide) (fun _ _ _ _ _ => (sg_name (i := 9) sc.nd)) (fun _ _ _ _ _ => sts_nil) (fun _ _ _ _ _ => se_int))
      (sss_cons (ss_set (i := 3) sc.nd (se_lst (sa_consF se_int sa_nil)))
      (sss_cons (ss_for (passes_of rfl) rfl (si_enum T.n_enumerate (se_var 1)) (sg_tup rfl (sgs_cons (i := 4) sc.nd (sgs_cons (i := 5) sc.nd sgs_nil))) (sss_cons (ss_set (i := 6) sc.nd (se_mul (se_sub (se_var 5) (se_callV (ok_value_of T) (hr.mono (by decide)) T.f_value_of.m T.f_value_of.F.kp T.f_value_of.b (takes_of rfl rfl rfl rfl) mkFn_len (sa_consF (se_var 0) (sa_cons (se_var 2) (sa_consF (se_var 4) sa_nil))))) (se_call (mask := []) (ok_inverse_of T) (hr.mono (by decide)) T.f_inverse_of.m T.f_inverse_of.F.kp T.f_inverse_of.b (takes_of rfl rfl rfl rfl) mkFn_len (sa_consF (se_var 0) (sa_consF (se_callV (ok_value_of T) (hr.mono (by decide)) T.f_value_of.m T.f_value_of.F.kp T.f_value_of.b (takes_of rfl rfl rfl rfl) mkFn_len (sa_consF (se_var 0) (sa_cons (se_var 3) (sa_consF (se_var 4) sa_nil)))) sa_nil)))))
      (sss_cons (ss_for (passes_of rfl) rfl (si_enum T.n_enumerate (se_var 3)) (sg_tup rfl (sgs_cons (i := 7) sc.nd (sgs_cons (i := 8) sc.nd sgs_nil))) (sss_one (ss_put (se_mod (se_add (se_ix (se_var 2) (se_var 7)) (se_mul (se_var 6) (se_var 8))) (se_var 0)) (se_var 2) (se_var 7))))
      (sss_one (ss_set (i := 3) sc.nd (se_callV (ok_times_less T) (hr.mono (by decide)) T.f_times_less.m T.f_times_less.F.kp T.f_times_less.b (takes_of rfl rfl rfl rfl) mkFn_len (sa_consF (se_var 0) (sa_cons (se_var 3) (sa_consF (se_var 4) sa_nil)))))))))
      (sss_one (ss_ret (se_callTy call_tuple_of cs_tuple T.n_tuple (sa_cons (se_var 2) sa_nil)))))))
abbrev NN_places_apart : List Str := ["p", "curve", "f", "x"]
theorem sc_places_apart : FnScope ["p", "curve", "f", "x"] ["p", "curve", "f"] (defScope s_places_apart) := ⟨rfl, rfl, rfl, by decide +kernel, rfl, by decide +kernel, by decide +kernel⟩
theorem ok_places_apart {P : Program} {w : World} {K : PySem.W.Frag} {mg : Str → Option Value} {base : Heap} (T : Txt K mg) : Prom P w K mg base 2 T.f_places_apart.f T.f_places_apart.fd ["p", "curve", "f"] (spM K mg 3 g_places_apart) :=
  fn_ok T.f_places_apart.F sc_places_apart fun cdv A outer s H E hr => have sc := sc_places_apart
      (sss_one (ss_ret (se_callTy call_tuple_of cs_tuple T.n_tuple (sa_cons (se_comp rfl sc.nd (si_range1 T.n_range (se_var 0)) (own := [("x", 3)]) (show blkC NN_places_apart (defScope s_places_apart) _ _ = true by decide +kernel) (by decide) (fun _ _ _ _ _ => (sg_name (i := 3) sc.nd)) (fun _ _ _ _ _ => (sts_one (st_cmp (OpR.or op_ne (op_neD hr.r.units)) ops_ne (se_call (mask := []) (ok_value_of T) (hr.mono (by decide)) T.f_value_of.m T.f_value_of.F.kp T.f_value_of.b takes0 mkFn_len (sa_consF (se_var 0) (sa_consF (se_var 1) (sa_consF (se_var 3) sa_nil)))) (se_ix (se_var 2) (se_var 3)) (nomark _)))) (fun _ _ _ _ _ => (se_var 3))) sa_nil))))
abbrev NN_close_curve : List Str := ["p", "d", "f", "values", "x", "votes", "curve", "value"]
theorem sc_close_curve : FnScope ["p", "d", "f", "values", "x", "votes", "curve", "value"] ["p", "d", "f"] (defScope s_close_curve) := ⟨rfl, rfl, rfl, by decide +kernel, rfl, by decide +kernel, by decide +kernel⟩
theorem ok_close_curve {P : Program} {w : World} {K : PySem.W.Frag} {mg : Str → Option Value} {base : Heap} (T : Txt K mg) : Prom P w K mg base 8 T.f_close_curve.f T.f_close_curve.fd ["p", "d", "f"] (spM K mg 3 g_close_curve) :=
  fn_ok T.f_close_curve.F sc_close_curve fun cdv A outer s H E hr => have sc := sc_close_curve
      (sss_cons (ss_drop (se_call (mask := []) (ok_check_degree T) (hr.mono (by decide)) T.f_check_degree.m T.f_check_degree.F.kp T.f_check_degree.b (takes_of rfl rfl rfl rfl) mkFn_len (sa_consF (se_var 0) (sa_consF (se_var 1) (sa_consF (se_var 2) sa_nil)))))
      (sss_cons (ss_set (i := 3) sc.nd (se_lst sa_nil))
      (sss_cons (ss_for (passes_of rfl) rfl (si_range1 T.n_range (se_add (se_var 1) se_int)) (sg_name (i := 4) sc.nd) (sss_cons (ss_set (i := 5) sc.nd (se_call (mask := []) (ok_step_votes T) (hr.mono (by decide)) T.f_step_votes.m T.f_step_votes.F.kp T.f_step_votes.b (takes_of rfl rfl rfl rfl) mkFn_len (sa_consF (se_var 0) (sa_consF (se_var 1) (sa_consF (se_var 2) (sa_consF (se_var 4) sa_nil))))))
      (sss_one (ss_app (se_var 3) (se_ix (se_comp rfl sc.nd (si_range1 T.n_range (se_var 0)) (own := [("value", 7)]) (show blkC NN_close_curve (defScope s_close_curve) _ _ = true by decide +kernel) (by decide) (fun _ _ _ _ _ => (sg_name (i := 7) sc.nd)) (fun _ _ _ _ _ => (sts_one (st_cmp (OpR.or op_eq (op_eqD hr.r.units)) ops_eq (se_ix (se_var 5) (se_var 7)) (se_callB (cr_max2 rfl hr.r.units) cs_max T.n_max (sa_cons (se_var 5) sa_nil)) (nomark _)))) (fun _ _ _ _ _ => (se_var 7))) se_int)))))
      (sss_cons (ss_set (i := 6) sc.nd (se_callV (ok_curve_through T) (hr.mono (by decide)) T.f_curve_through.m T.f_curve_through.F.kp T.f_curve_through.b (takes_of rfl rfl rfl rfl) mkFn_len (sa_consF (se_var 0) (sa_cons (se_var 3) sa_nil))))
      (sss_one (ss_ret (se_if (st_cmp op_lt ops_lt (se_mul (se_mul se_int (se_add (se_var 1) se_int)) (se_callB call_len_seq cs_len T.n_len (sa_cons (se_call (mask := []) (ok_places_apart T) (hr.mono (by decide)) T.f_places_apart.m T.f_places_apart.F.kp T.f_places_apart.b (takes_of rfl rfl rfl rfl) mkFn_len (sa_consF (se_var 0) (sa_consF (se_var 6) (sa_consF (se_var 2) sa_nil)))) sa_nil))) (se_var 0) (nomark _)) (se_var 6) se_non)))))))
abbrev NN_is_curve : List Str := ["p", "value"]
theorem sc_is_curve : FnScope ["p", "value"] ["p", "value"] (defScope s_is_curve) := ⟨rfl, rfl, rfl, by decide +kernel, rfl, by decide +kernel, by decide +kernel⟩
theorem ok_is_curve {P : Program} {w : World} {K : PySem.W.Frag} {mg : Str → Option Value} {base : Heap} (T : Txt K mg) : Prom P w K mg base 4 T.f_is_curve.f T.f_is_curve.fd ["p", "value"] (spM K mg 2 g_is_curve) :=
  fn_ok T.f_is_curve.F sc_is_curve fun cdv A outer s H E hr => have sc := sc_is_curve
      (sss_one (ss_ret (se_and (se_callB call_isi cs_isi T.n_isinstance (sa_cons (se_var 1) (sa_cons (se_ty (by rfl) T.n_tuple (by decide +kernel)) sa_nil))) (se_and (se_chain op_le ops_le op_le ops_le se_int (se_callB call_len_seq cs_len T.n_len (sa_cons (se_var 1) sa_nil)) (T.c_MOST_NUMBERS.elim fun t h => se_glob (v := .int (5)) (by rfl) h ⟨t, rfl⟩ fun _ => .int _)) (se_one (se_call (mask := []) (ok_row_below T) (hr.mono (by decide)) T.f_row_below.m T.f_row_below.F.kp T.f_row_below.b (takes_of rfl rfl rfl rfl) mkFn_len (sa_consF (se_var 1) (sa_consF (se_callB call_len_seq cs_len T.n_len (sa_cons (se_var 1) sa_nil)) (sa_consF (se_var 0) sa_nil)))))))))
abbrev NN_value_at : List Str := ["p", "curve", "x"]
theorem sc_value_at : FnScope ["p", "curve", "x"] ["p", "curve", "x"] (defScope s_value_at) := ⟨rfl, rfl, rfl, by decide +kernel, rfl, by decide +kernel, by decide +kernel⟩
theorem ok_value_at {P : Program} {w : World} {K : PySem.W.Frag} {mg : Str → Option Value} {base : Heap} (T : Txt K mg) : Prom P w K mg base 5 T.f_value_at.f T.f_value_at.fd ["p", "curve", "x"] (spM K mg 3 g_value_at) :=
  fn_ok T.f_value_at.F sc_value_at fun cdv A outer s H E hr => have sc := sc_value_at
      (sss_cons (ss_drop (se_call (mask := []) (ok_check_prime T) (hr.mono (by decide)) T.f_check_prime.m T.f_check_prime.F.kp T.f_check_prime.b (takes_of rfl rfl rfl rfl) mkFn_len (sa_consF (se_var 0) sa_nil)))
      (sss_cons (ss_if (st_not (st_val (se_call (mask := []) (ok_is_curve T) (hr.mono (by decide)) T.f_is_curve.m T.f_is_curve.F.kp T.f_is_curve.b (takes_of rfl rfl rfl rfl) mkFn_len (sa_consF (se_var 0) (sa_consF (se_var 1) sa_nil))))) (sss_one (ss_raiseC (ns := ["value"]) T.x_InvalidMap (i_InvalidMap T) hr (takes_of rfl rfl rfl rfl) T.fl_InvalidMap (sa_consF (se_var 1) sa_nil))) sss_nil)
      (sss_cons (ss_if (st_not (st_val (se_call (mask := []) (ok_is_below T) (hr.mono (by decide)) T.f_is_below.m T.f_is_below.F.kp T.f_is_below.b (takes_of rfl rfl rfl rfl) mkFn_len (sa_consF (se_var 2) (sa_consF (se_var 0) sa_nil))))) (sss_one (ss_raiseC (ns := ["value"]) T.x_InvalidNumber (i_InvalidNumber T) hr (takes_of rfl rfl rfl rfl) T.fl_InvalidNumber (sa_consF (se_var 2) sa_nil))) sss_nil)
      (sss_one (ss_ret (se_call (mask := []) (ok_value_of T) (hr.mono (by decide)) T.f_value_of.m T.f_value_of.F.kp T.f_value_of.b (takes_of rfl rfl rfl rfl) mkFn_len (sa_consF (se_var 0) (sa_consF (se_var 1) (sa_consF (se_var 2) sa_nil)))))))))
abbrev NN_wrong_on : List Str := ["p", "curve", "f"]
theorem sc_wrong_on : FnScope ["p", "curve", "f"] ["p", "curve", "f"] (defScope s_wrong_on) := ⟨rfl, rfl, rfl, by decide +kernel, rfl, by decide +kernel, by decide +kernel⟩
theorem ok_wrong_on {P : Program} {w : World} {K : PySem.W.Frag} {mg : Str → Option Value} {base : Heap} (T : Txt K mg) : Prom P w K mg base 5 T.f_wrong_on.f T.f_wrong_on.fd ["p", "curve", "f"] (spM K mg 3 g_wrong_on) :=
  fn_ok T.f_wrong_on.F sc_wrong_on fun cdv A outer s H E hr => have sc := sc_wrong_on
      (sss_cons (ss_drop (se_call (mask := []) (ok_check_prime T) (hr.mono (by decide)) T.f_check_prime.m T.f_check_prime.F.kp T.f_check_prime.b (takes_of rfl rfl rfl rfl) mkFn_len (sa_consF (se_var 0) sa_nil)))
      (sss_cons (ss_if (st_not (st_val (se_call (mask := []) (ok_is_curve T) (hr.mono (by decide)) T.f_is_curve.m T.f_is_curve.F.kp T.f_is_curve.b (takes_of rfl rfl rfl rfl) mkFn_len (sa_consF (se_var 0) (sa_consF (se_var 1) sa_nil))))) (sss_one (ss_raiseC (ns := ["value"]) T.x_InvalidMap (i_InvalidMap T) hr (takes_of rfl rfl rfl rfl) T.fl_InvalidMap (sa_consF (se_var 1) sa_nil))) sss_nil)
      (sss_cons (ss_if (st_not (st_val (se_call (mask := []) (ok_row_below T) (hr.mono (by decide)) T.f_row_below.m T.f_row_below.F.kp T.f_row_below.b (takes_of rfl rfl rfl rfl) mkFn_len (sa_consF (se_var 2) (sa_consF (se_var 0) (sa_consF (se_var 0) sa_nil)))))) (sss_one (ss_raiseC (ns := ["value"]) T.x_InvalidMap (i_InvalidMap T) hr (takes_of rfl rfl rfl rfl) T.fl_InvalidMap (sa_consF (se_var 2) sa_nil))) sss_nil)
      (sss_one (ss_ret (se_call (mask := []) (ok_places_apart T) (hr.mono (by decide)) T.f_places_apart.m T.f_places_apart.F.kp T.f_places_apart.b (takes_of rfl rfl rfl rfl) mkFn_len (sa_consF (se_var 0) (sa_consF (se_var 1) (sa_consF (se_var 2) sa_nil)))))))))
abbrev NN__law_draws : List Str := ["script", "many", "rests", "draws", "k", "cell", "at", "mixed"]
theorem sc__law_draws : FnScope ["script", "many", "rests", "draws", "k", "cell", "at", "mixed"] ["script", "many"] (defScope s__law_draws) := ⟨rfl, rfl, rfl, by decide +kernel, rfl, by decide +kernel, by decide +kernel⟩
theorem ok__law_draws {P : Program} {w : World} {K : PySem.W.Frag} {mg : Str → Option Value} {base : Heap} (T : Txt K mg) : Prom P w K mg base 1 T.f__law_draws.f T.f__law_draws.fd ["script", "many"] (spM K mg 2 g__law_draws) :=
  fn_ok T.f__law_draws.F sc__law_draws fun cdv A outer s H E hr => have sc := sc__law_draws
      (sss_cons (se_compS (i := 2) rfl sc.nd (si_seq (se_var 0)) (own := [("cell", 5)]) (show blkC NN__law_draws (defScope s__law_draws) _ _ = true by decide +kernel) (by decide) (fun _ _ _ _ _ => (sg_name (i := 5) sc.nd)) (fun _ _ _ _ _ => sts_nil) (fun _ _ _ _ _ => (se_callB call_abs cs_abs T.n_abs (sa_cons (se_callTy call_int1 cs_int T.n_int (sa_cons (se_var 5) sa_nil)) sa_nil))))
      (sss_cons (ss_set (i := 3) sc.nd (se_lst sa_nil))
      (sss_cons (ss_for (passes_of rfl) rfl (si_range1 T.n_range (se_var 1)) (sg_name (i := 4) sc.nd) (sss_cons (ss_set (i := 5) sc.nd (se_var 4))
      (sss_cons (ss_if (st_cmp op_gt ops_gt (se_callB call_len_seq cs_len T.n_len (sa_cons (se_var 0) sa_nil)) se_int (nomark _)) (sss_cons (ss_set (i := 6) sc.nd (se_mod (se_var 4) (se_callB call_len_seq cs_len T.n_len (sa_cons (se_var 0) sa_nil))))
      (sss_cons (ss_set (i := 5) sc.nd (se_callTy call_int1 cs_int T.n_int (sa_cons (se_ix (se_var 0) (se_var 6)) sa_nil)))
      (sss_one (ss_if (st_pw (spw_and (st_cmp op_ge ops_ge (se_var 5) (se_pow se_int se_int) (nomark _)) (spw_and1 (st_cmp op_gt ops_gt (se_ix (se_var 2) (se_var 6)) se_int (nomark _))))) (sss_cons (ss_app (se_var 3) (se_mod (se_callTy call_int1 cs_int T.n_int (sa_cons (se_ix (se_var 2) (se_var 6)) sa_nil)) se_int))
      (sss_cons (ss_put (se_div (se_callTy call_int1 cs_int T.n_int (sa_cons (se_ix (se_var 2) (se_var 6)) sa_nil)) se_int) (se_var 2) (se_var 6))
      (sss_one ss_cont))) sss_nil)))) sss_nil)
      (sss_cons (ss_set (i := 7) sc.nd (se_mod (se_callTy call_int1 cs_int T.n_int (sa_cons (se_add (se_add (se_mul (se_var 5) se_int) (se_mul (se_var 4) se_int)) se_int) sa_nil)) se_int))
      (sss_cons (ss_set (i := 7) sc.nd (se_mod (se_callTy call_int1 cs_int T.n_int (sa_cons (se_add (se_div (se_mul (se_var 7) (se_var 7)) se_int) (se_var 7)) sa_nil)) se_int))
      (sss_one (ss_app (se_var 3) (se_mod (se_callTy call_int1 cs_int T.n_int (sa_cons (se_add (se_div (se_mul (se_var 7) (se_var 7)) se_int) (se_mul (se_var 4) se_int)) sa_nil)) se_int))))))))
      (sss_one (ss_ret (se_var 3))))))
abbrev NN__law_take : List Str := ["hand", "many", "at", "draws"]
theorem sc__law_take : FnScope ["hand", "many", "at", "draws"] ["hand", "many"] (defScope s__law_take) := ⟨rfl, rfl, rfl, by decide +kernel, rfl, by decide +kernel, by decide +kernel⟩
theorem ok__law_take {P : Program} {w : World} {K : PySem.W.Frag} {mg : Str → Option Value} {base : Heap} (T : Txt K mg) : Prom P w K mg base 1 T.f__law_take.f T.f__law_take.fd ["hand", "many"] (spM K mg 2 g__law_take) :=
  fn_ok T.f__law_take.F sc__law_take fun cdv A outer s H E hr => have sc := sc__law_take
      (sss_cons (ss_set (i := 2) sc.nd (se_ix (se_var 0) se_int))
      (sss_cons (ss_put (se_add (se_var 2) se_int) (se_var 0) se_int)
      (sss_cons (ss_set (i := 3) sc.nd (se_ix (se_var 0) se_int))
      (sss_cons (ss_if (st_cmp op_ge ops_ge (se_var 2) (se_callB call_len_seq cs_len T.n_len (sa_cons (se_var 3) sa_nil)) (nomark _)) (sss_one (ss_ret se_int)) sss_nil)
      (sss_one (ss_ret (se_mod (se_div (se_callTy call_int1 cs_int T.n_int (sa_cons (se_ix (se_var 3) (se_var 2)) sa_nil)) se_int) (se_var 1))))))))
abbrev NN__law_prime : List Str := ["hand", "most", "primes", "p"]
theorem sc__law_prime : FnScope ["hand", "most", "primes", "p"] ["hand", "most"] (defScope s__law_prime) := ⟨rfl, rfl, rfl, by decide +kernel, rfl, by decide +kernel, by decide +kernel⟩
theorem ok__law_prime {P : Program} {w : World} {K : PySem.W.Frag} {mg : Str → Option Value} {base : Heap} (T : Txt K mg) : Prom P w K mg base 2 T.f__law_prime.f T.f__law_prime.fd ["hand", "most"] (spM K mg 2 g__law_prime) :=
  fn_ok T.f__law_prime.F sc__law_prime fun cdv A outer s H E hr => have sc := sc__law_prime
      (sss_cons (ss_set (i := 2) sc.nd (se_lst (sa_consF se_int (sa_consF se_int (sa_consF se_int (sa_consF se_int (sa_consF se_int (sa_consF se_int (sa_consF se_int (sa_consF se_int (sa_consF se_int (sa_consF se_int (sa_consF se_int (sa_consF se_int (sa_consF se_int (sa_consF se_int (sa_consF se_int (sa_consF se_int (sa_consF se_int (sa_consF se_int (sa_consF se_int (sa_consF se_int (sa_consF se_int (sa_consF se_int (sa_consF se_int (sa_consF se_int (sa_consF se_int (sa_consF se_int sa_nil))))))))))))))))))))))))))))
      (sss_cons (se_compS (i := 2) rfl sc.nd (si_seq (se_var 2)) (own := [("p", 3)]) (show blkC NN__law_prime (defScope s__law_prime) _ _ = true by decide +kernel) (by decide) (fun _ _ _ _ _ => (sg_name (i := 3) sc.nd)) (fun _ _ _ _ _ => (sts_one (st_cmp op_le ops_le (se_var 3) (se_var 1) (nomark _)))) (fun _ _ _ _ _ => (se_var 3)))
      (sss_one (ss_ret (se_ix (se_var 2) (se_call (mask := [true, false]) (ok__law_take T) (hr.mono (by decide)) T.f__law_take.m T.f__law_take.F.kp T.f__law_take.b (takes_of rfl rfl rfl rfl) mkFn_len (sa_cons (se_var 0) (sa_consF (se_callB call_len_seq cs_len T.n_len (sa_cons (se_var 2) sa_nil)) sa_nil))))))))
abbrev NN__law_value : List Str := ["p", "curve", "x", "total", "c"]
theorem sc__law_value : FnScope ["p", "curve", "x", "total", "c"] ["p", "curve", "x"] (defScope s__law_value) := ⟨rfl, rfl, rfl, by decide +kernel, rfl, by decide +kernel, by decide +kernel⟩
theorem ok__law_value {P : Program} {w : World} {K : PySem.W.Frag} {mg : Str → Option Value} {base : Heap} (T : Txt K mg) : Prom P w K mg base 1 T.f__law_value.f T.f__law_value.fd ["p", "curve", "x"] (spM K mg 3 g__law_value) :=
  fn_ok T.f__law_value.F sc__law_value fun cdv A outer s H E hr => have sc := sc__law_value
      (sss_cons (ss_set (i := 3) sc.nd se_int)
      (sss_cons (ss_for (passes_of rfl) rfl (si_seq (se_rev (se_var 1))) (sg_name (i := 4) sc.nd) (sss_one (ss_set (i := 3) sc.nd (se_mod (se_callTy call_int1 cs_int T.n_int (sa_cons (se_add (se_mul (se_var 3) (se_var 2)) (se_var 4)) sa_nil)) (se_var 0)))))
      (sss_one (ss_ret (se_var 3)))))
abbrev NN__law_curve : List Str := ["hand", "p", "d", "k"]
theorem sc__law_curve : FnScope ["hand", "p", "d", "k"] ["hand", "p", "d"] (defScope s__law_curve) := ⟨rfl, rfl, rfl, by decide +kernel, rfl, by decide +kernel, by decide +kernel⟩
theorem ok__law_curve {P : Program} {w : World} {K : PySem.W.Frag} {mg : Str → Option Value} {base : Heap} (T : Txt K mg) : Prom P w K mg base 2 T.f__law_curve.f T.f__law_curve.fd ["hand", "p", "d"] (spM K mg 3 g__law_curve) :=
  fn_ok T.f__law_curve.F sc__law_curve fun cdv A outer s H E hr => have sc := sc__law_curve
      (sss_one (ss_ret (se_callTy call_tuple_of cs_tuple T.n_tuple (sa_cons (se_comp rfl sc.nd (si_range1 T.n_range (se_add (se_var 2) se_int)) (own := [("k", 3)]) (show blkC NN__law_curve (defScope s__law_curve) _ _ = true by decide +kernel) (by decide) (fun _ _ _ _ _ => (sg_name (i := 3) sc.nd)) (fun _ _ _ _ _ => sts_nil) (fun _ _ _ _ _ => (se_call (mask := [true, false]) (ok__law_take T) (hr.mono (by decide)) T.f__law_take.m T.f__law_take.F.kp T.f__law_take.b takes0 mkFn_len (sa_cons (se_var 0) (sa_consF (se_var 1) sa_nil))))) sa_nil))))
abbrev NN__law_turned : List Str := ["hand", "p", "f", "many", "k"]
theorem sc__law_turned : FnScope ["hand", "p", "f", "many", "k"] ["hand", "p", "f", "many"] (defScope s__law_turned) := ⟨rfl, rfl, rfl, by decide +kernel, rfl, by decide +kernel, by decide +kernel⟩
theorem ok__law_turned {P : Program} {w : World} {K : PySem.W.Frag} {mg : Str → Option Value} {base : Heap} (T : Txt K mg) : Prom P w K mg base 2 T.f__law_turned.f T.f__law_turned.fd ["hand", "p", "f", "many"] (spM K mg 4 g__law_turned) :=
  fn_ok T.f__law_turned.F sc__law_turned fun cdv A outer s H E hr => have sc := sc__law_turned
      (sss_cons (ss_set (i := 2) sc.nd (se_callTy call_list_of cs_list T.n_list (sa_cons (se_var 2) sa_nil)))
      (sss_cons (ss_for (passes_of rfl) rfl (si_range1 T.n_range (se_var 3)) (sg_name (i := 4) sc.nd) (sss_one (ss_put (se_call (mask := [true, false]) (ok__law_take T) (hr.mono (by decide)) T.f__law_take.m T.f__law_take.F.kp T.f__law_take.b (takes_of rfl rfl rfl rfl) mkFn_len (sa_cons (se_var 0) (sa_consF (se_var 1) sa_nil))) (se_var 2) (se_call (mask := [true, false]) (ok__law_take T) (hr.mono (by decide)) T.f__law_take.m T.f__law_take.F.kp T.f__law_take.b (takes_of rfl rfl rfl rfl) mkFn_len (sa_cons (se_var 0) (sa_consF (se_var 1) sa_nil))))))
      (sss_one (ss_ret (se_callTy call_tuple_of cs_tuple T.n_tuple (sa_cons (se_var 2) sa_nil))))))
abbrev NN__law_steps : List Str := ["d", "row", "k", "x", "y"]
theorem sc__law_steps : FnScope ["d", "row", "k", "x", "y"] ["d"] (defScope s__law_steps) := ⟨rfl, rfl, rfl, by decide +kernel, rfl, by decide +kernel, by decide +kernel⟩
theorem ok__law_steps {P : Program} {w : World} {K : PySem.W.Frag} {mg : Str → Option Value} {base : Heap} (T : Txt K mg) : Prom P w K mg base 1 T.f__law_steps.f T.f__law_steps.fd ["d"] (spM K mg 1 g__law_steps) :=
  fn_ok T.f__law_steps.F sc__law_steps fun cdv A outer s H E hr => have sc := sc__law_steps
      (sss_cons (ss_set (i := 1) sc.nd (se_lst (sa_consF se_int sa_nil)))
      (sss_cons (ss_for (passes_of rfl) rfl (si_range1 T.n_range (se_add (se_var 0) se_int)) (sg_name (i := 2) sc.nd) (sss_one (se_compS (i := 1) rfl sc.nd (si_zip T.n_zip (sa_consF (se_add (se_var 1) (se_lst (sa_consF se_int sa_nil))) (sa_consF (se_add (se_lst (sa_consF se_int sa_nil)) (se_var 1)) sa_nil))) (own := [("x", 3), ("y", 4)]) (show blkC NN__law_steps (defScope s__law_steps) _ _ = true by decide +kernel) (by decide) (fun _ _ _ _ _ => (sg_tup rfl (sgs_cons (i := 3) sc.nd (sgs_cons (i := 4) sc.nd sgs_nil)))) (fun _ _ _ _ _ => sts_nil) (fun _ _ _ _ _ => (se_sub (se_var 3) (se_var 4))))))
      (sss_one (ss_ret (se_var 1)))))
abbrev NN__law_broken : List Str := ["p", "d", "f", "total", "row", "x", "h", "one", "i"]
theorem sc__law_broken : FnScope ["p", "d", "f", "total", "row", "x", "h", "one", "i"] ["p", "d", "f"] (defScope s__law_broken) := ⟨rfl, rfl, rfl, by decide +kernel, rfl, by decide +kernel, by decide +kernel⟩
theorem ok__law_broken {P : Program} {w : World} {K : PySem.W.Frag} {mg : Str → Option Value} {base : Heap} (T : Txt K mg) : Prom P w K mg base 2 T.f__law_broken.f T.f__law_broken.fd ["p", "d", "f"] (spM K mg 3 g__law_broken) :=
  fn_ok T.f__law_broken.F sc__law_broken fun cdv A outer s H E hr => have sc := sc__law_broken
      (sss_cons (ss_set (i := 3) sc.nd se_int)
      (sss_cons (ss_set (i := 4) sc.nd (se_call (mask := []) (ok__law_steps T) (hr.mono (by decide)) T.f__law_steps.m T.f__law_steps.F.kp T.f__law_steps.b (takes_of rfl rfl rfl rfl) mkFn_len (sa_consF (se_var 1) sa_nil)))
      (sss_cons (ss_for (passes_of rfl) rfl (si_range1 T.n_range (se_var 0)) (sg_name (i := 5) sc.nd) (sss_one (ss_for (passes_of rfl) rfl (si_range1 T.n_range (se_var 0)) (sg_name (i := 6) sc.nd) (sss_cons (ss_set (i := 7) sc.nd (se_callB (cr_sum2 rfl) cs_sum T.n_sum (sa_cons (se_comp rfl sc.nd (si_range1 T.n_range (se_add (se_var 1) se_int)) (own := [("i", 8)]) (show blkC NN__law_broken (defScope s__law_broken) _ _ = true by decide +kernel) (by decide) (fun _ _ _ _ _ => (sg_name (i := 8) sc.nd)) (fun _ _ _ _ _ => sts_nil) (fun _ _ _ _ _ => (se_mul (se_ix (se_var 4) (se_var 8)) (se_ix (se_var 2) (se_mod (se_callTy call_int1 cs_int T.n_int (sa_cons (se_add (se_var 5) (se_mul (se_var 8) (se_var 6))) sa_nil)) (se_var 0)))))) sa_nil)))
      (sss_one (ss_if (st_cmp op_gt ops_gt (se_mod (se_callTy call_int1 cs_int T.n_int (sa_cons (se_var 7) sa_nil)) (se_var 0)) se_int (nomark _)) (sss_one (ss_set (i := 3) sc.nd (se_add (se_var 3) se_int))) sss_nil))))))
      (sss_one (ss_ret (se_var 3))))))
abbrev NN__law_votes : List Str := ["p", "d", "f", "x", "row", "found", "h", "v", "i"]
theorem sc__law_votes : FnScope ["p", "d", "f", "x", "row", "found", "h", "v", "i"] ["p", "d", "f", "x"] (defScope s__law_votes) := ⟨rfl, rfl, rfl, by decide +kernel, rfl, by decide +kernel, by decide +kernel⟩
theorem ok__law_votes {P : Program} {w : World} {K : PySem.W.Frag} {mg : Str → Option Value} {base : Heap} (T : Txt K mg) : Prom P w K mg base 2 T.f__law_votes.f T.f__law_votes.fd ["p", "d", "f", "x"] (spM K mg 4 g__law_votes) :=
  fn_ok T.f__law_votes.F sc__law_votes fun cdv A outer s H E hr => have sc := sc__law_votes
      (sss_cons (ss_set (i := 4) sc.nd (se_call (mask := []) (ok__law_steps T) (hr.mono (by decide)) T.f__law_steps.m T.f__law_steps.F.kp T.f__law_steps.b (takes_of rfl rfl rfl rfl) mkFn_len (sa_consF (se_var 1) sa_nil)))
      (sss_cons (se_compS (i := 5) rfl sc.nd (si_range1 T.n_range (se_var 0)) (own := [("v", 7)]) (show blkC NN__law_votes (defScope s__law_votes) _ _ = true by decide +kernel) (by decide) (fun _ _ _ _ _ => (sg_name (i := 7) sc.nd)) (fun _ _ _ _ _ => sts_nil) (fun _ _ _ _ _ => se_int))
      (sss_cons (ss_for (passes_of rfl) rfl (si_range1 T.n_range (se_var 0)) (sg_name (i := 6) sc.nd) (sss_cons (ss_set (i := 7) sc.nd (se_mod (se_callTy call_int1 cs_int T.n_int (sa_cons (se_neg (se_callB (cr_sum2 rfl) cs_sum T.n_sum (sa_cons (se_comp rfl sc.nd (si_range2 T.n_range se_int (se_add (se_var 1) se_int)) (own := [("i", 8)]) (show blkC NN__law_votes (defScope s__law_votes) _ _ = true by decide +kernel) (by decide) (fun _ _ _ _ _ => (sg_name (i := 8) sc.nd)) (fun _ _ _ _ _ => sts_nil) (fun _ _ _ _ _ => (se_mul (se_ix (se_var 4) (se_var 8)) (se_ix (se_var 2) (se_mod (se_callTy call_int1 cs_int T.n_int (sa_cons (se_add (se_var 3) (se_mul (se_var 8) (se_var 6))) sa_nil)) (se_var 0)))))) sa_nil))) sa_nil)) (se_var 0)))
      (sss_one (ss_put (se_add (se_ix (se_var 5) (se_var 7)) se_int) (se_var 5) (se_var 7)))))
      (sss_one (ss_ret (se_var 5))))))
abbrev NN__law_near : List Str := ["p", "d", "f", "curves", "k", "longer", "one", "found", "curve", "w", "c", "x"]
theorem sc__law_near : FnScope ["p", "d", "f", "curves", "k", "longer", "one", "found", "curve", "w", "c", "x"] ["p", "d", "f"] (defScope s__law_near) := ⟨rfl, rfl, rfl, by decide +kernel, rfl, by decide +kernel, by decide +kernel⟩
theorem ok__law_near {P : Program} {w : World} {K : PySem.W.Frag} {mg : Str → Option Value} {base : Heap} (T : Txt K mg) : Prom P w K mg base 2 T.f__law_near.f T.f__law_near.fd ["p", "d", "f"] (spM K mg 3 g__law_near) :=
  fn_ok T.f__law_near.F sc__law_near fun cdv A outer s H E hr => have sc := sc__law_near
      (sss_cons (ss_set (i := 3) sc.nd (se_lst (sa_consF (se_tup sa_nil) sa_nil)))
      (sss_cons (ss_for (passes_of rfl) rfl (si_range1 T.n_range (se_add (se_var 1) se_int)) (sg_name (i := 4) sc.nd) (sss_cons (ss_set (i := 5) sc.nd (se_lst sa_nil))
      (sss_cons (ss_for (passes_of rfl) rfl (si_seq (se_var 3)) (sg_name (i := 6) sc.nd) (sss_one (ss_set (i := 5) sc.nd (se_add (se_var 5) (se_comp rfl sc.nd (si_range1 T.n_range (se_var 0)) (own := [("c", 10)]) (show blkC NN__law_near (defScope s__law_near) _ _ = true by decide +kernel) (by decide) (fun _ _ _ _ _ => (sg_name (i := 10) sc.nd)) (fun _ _ _ _ _ => sts_nil) (fun _ _ _ _ _ => (se_add (se_var 6) (se_tup (sa_consF (se_var 10) sa_nil)))))))))
      (sss_one (ss_set (i := 3) sc.nd (se_var 5))))))
      (sss_cons (ss_set (i := 7) sc.nd (se_lst sa_nil))
      (sss_cons (ss_for (passes_of rfl) rfl (si_seq (se_var 3)) (sg_name (i := 8) sc.nd) (sss_cons (ss_set (i := 9) sc.nd (se_callB call_len_seq cs_len T.n_len (sa_cons (se_comp rfl sc.nd (si_range1 T.n_range (se_var 0)) (own := [("x", 11)]) (show blkC NN__law_near (defScope s__law_near) _ _ = true by decide +kernel) (by decide) (fun _ _ _ _ _ => (sg_name (i := 11) sc.nd)) (fun _ _ _ _ _ => (sts_one (st_cmp (OpR.or op_ne (op_neD hr.r.units)) ops_ne (se_call (mask := []) (ok__law_value T) (hr.mono (by decide)) T.f__law_value.m T.f__law_value.F.kp T.f__law_value.b takes0 mkFn_len (sa_consF (se_var 0) (sa_consF (se_var 8) (sa_consF (se_var 11) sa_nil)))) (se_ix (se_var 2) (se_var 11)) (nomark _)))) (fun _ _ _ _ _ => (se_var 11))) sa_nil)))
      (sss_one (ss_if (st_cmp op_lt ops_lt (se_mul (se_mul se_int (se_add (se_var 1) se_int)) (se_var 9)) (se_var 0) (nomark _)) (sss_one (ss_app (se_var 7) (se_var 8))) sss_nil))))
      (sss_one (ss_ret (se_var 7)))))))
abbrev NN__law_is_small : List Str := ["hand", "p", "d", "f", "curve", "found", "due", "x"]
theorem sc__law_is_small : FnScope ["hand", "p", "d", "f", "curve", "found", "due", "x"] ["hand"] (defScope s__law_is_small) := ⟨rfl, rfl, rfl, by decide +kernel, rfl, by decide +kernel, by decide +kernel⟩
theorem ok__law_is_small {P : Program} {w : World} {K : PySem.W.Frag} {mg : Str → Option Value} {base : Heap} (T : Txt K mg) : Prom P w K mg base 9 T.f__law_is_small.f T.f__law_is_small.fd ["hand"] (spM K mg 1 g__law_is_small) :=
  fn_ok T.f__law_is_small.F sc__law_is_small fun cdv A outer s H E hr => have sc := sc__law_is_small
      (sss_cons (ss_set (i := 1) sc.nd (se_call (mask := [true, false]) (ok__law_prime T) (hr.mono (by decide)) T.f__law_prime.m T.f__law_prime.F.kp T.f__law_prime.b (takes_of rfl rfl rfl rfl) mkFn_len (sa_cons (se_var 0) (sa_consF se_int sa_nil))))
      (sss_cons (ss_set (i := 2) sc.nd (se_call (mask := [true, false]) (ok__law_take T) (hr.mono (by decide)) T.f__law_take.m T.f__law_take.F.kp T.f__law_take.b (takes_of rfl rfl rfl rfl) mkFn_len (sa_cons (se_var 0) (sa_consF (se_callB (cr_min2 rfl hr.r.units) cs_min T.n_min (sa_cons (se_ix (se_lst (sa_consF se_int (sa_consF se_int sa_nil))) (se_callTy call_int1 cs_int T.n_int (sa_cons (se_cmp op_lt ops_lt (se_var 1) se_int (nomark _)) sa_nil))) (sa_cons (se_sub (se_var 1) se_int) sa_nil))) sa_nil))))
      (sss_cons (ss_set (i := 3) sc.nd (se_callTy call_tuple_of cs_tuple T.n_tuple (sa_cons (se_comp rfl sc.nd (si_range1 T.n_range (se_var 1)) (own := [("x", 7)]) (show blkC NN__law_is_small (defScope s__law_is_small) _ _ = true by decide +kernel) (by decide) (fun _ _ _ _ _ => (sg_name (i := 7) sc.nd)) (fun _ _ _ _ _ => sts_nil) (fun _ _ _ _ _ => (se_call (mask := [true, false]) (ok__law_take T) (hr.mono (by decide)) T.f__law_take.m T.f__law_take.F.kp T.f__law_take.b takes0 mkFn_len (sa_cons (se_var 0) (sa_consF (se_var 1) sa_nil))))) sa_nil)))
      (sss_cons (ss_if (st_cmp (OpR.or op_eq (op_eqD hr.r.units)) ops_eq (se_call (mask := [true, false]) (ok__law_take T) (hr.mono (by decide)) T.f__law_take.m T.f__law_take.F.kp T.f__law_take.b (takes_of rfl rfl rfl rfl) mkFn_len (sa_cons (se_var 0) (sa_consF se_int sa_nil))) se_int (nomark _)) (sss_cons (ss_set (i := 4) sc.nd (se_call (mask := [true, false, false]) (ok__law_curve T) (hr.mono (by decide)) T.f__law_curve.m T.f__law_curve.F.kp T.f__law_curve.b (takes_of rfl rfl rfl rfl) mkFn_len (sa_cons (se_var 0) (sa_consF (se_var 1) (sa_consF (se_var 2) sa_nil)))))
      (sss_cons (ss_set (i := 3) sc.nd (se_callTy call_tuple_of cs_tuple T.n_tuple (sa_cons (se_comp rfl sc.nd (si_range1 T.n_range (se_var 1)) (own := [("x", 7)]) (show blkC NN__law_is_small (defScope s__law_is_small) _ _ = true by decide +kernel) (by decide) (fun _ _ _ _ _ => (sg_name (i := 7) sc.nd)) (fun _ _ _ _ _ => sts_nil) (fun _ _ _ _ _ => (se_call (mask := []) (ok__law_value T) (hr.mono (by decide)) T.f__law_value.m T.f__law_value.F.kp T.f__law_value.b takes0 mkFn_len (sa_consF (se_var 1) (sa_consF (se_var 4) (sa_consF (se_var 7) sa_nil)))))) sa_nil)))
      (sss_one (ss_set (i := 3) sc.nd (se_call (mask := [true, false, false, false]) (ok__law_turned T) (hr.mono (by decide)) T.f__law_turned.m T.f__law_turned.F.kp T.f__law_turned.b (takes_of rfl rfl rfl rfl) mkFn_len (sa_cons (se_var 0) (sa_consF (se_var 1) (sa_consF (se_var 3) (sa_consF (se_call (mask := [true, false]) (ok__law_take T) (hr.mono (by decide)) T.f__law_take.m T.f__law_take.F.kp T.f__law_take.b (takes_of rfl rfl rfl rfl) mkFn_len (sa_cons (se_var 0) (sa_consF (se_ix (se_lst (sa_consF se_int (sa_consF se_int sa_nil))) (se_callTy call_int1 cs_int T.n_int (sa_cons (se_cmp op_gt ops_gt (se_var 1) se_int (nomark _)) sa_nil))) sa_nil))) sa_nil))))))))) sss_nil)
      (sss_cons (ss_if (st_cmp (OpR.or op_ne (op_neD hr.r.units)) ops_ne (se_callB (call_repr hr.g hr.r.units) cs_repr T.n_repr (sa_cons (se_call (mask := []) (ok_is_near T) (hr.mono (by decide)) T.f_is_near.m T.f_is_near.F.kp T.f_is_near.b (takes_of rfl rfl rfl rfl) mkFn_len (sa_consF (se_var 1) (sa_consF (se_var 2) (sa_consF (se_var 3) sa_nil)))) sa_nil)) (se_callB (call_repr hr.g hr.r.units) cs_repr T.n_repr (sa_cons (se_cmp op_lt ops_lt (se_mul (se_mul (se_mul (se_call (mask := []) (ok__law_broken T) (hr.mono (by decide)) T.f__law_broken.m T.f__law_broken.F.kp T.f__law_broken.b (takes_of rfl rfl rfl rfl) mkFn_len (sa_consF (se_var 1) (sa_consF (se_var 2) (sa_consF (se_var 3) sa_nil)))) (se_add (se_var 2) se_int)) (se_add (se_var 2) se_int)) (se_add (se_var 2) se_int)) (se_mul (se_mul (se_add (se_var 2) se_int) (se_var 1)) (se_var 1)) (nomark _)) sa_nil)) (nomark _)) (sss_one (ss_ret se_bl)) sss_nil)
      (sss_cons (ss_set (i := 5) sc.nd (se_call (mask := []) (ok__law_near T) (hr.mono (by decide)) T.f__law_near.m T.f__law_near.F.kp T.f__law_near.b (takes_of rfl rfl rfl rfl) mkFn_len (sa_consF (se_var 1) (sa_consF (se_var 2) (sa_consF (se_var 3) sa_nil)))))
      (sss_cons (ss_set (i := 6) sc.nd se_non)
      (sss_cons (ss_if (st_cmp op_gt ops_gt (se_callB call_len_seq cs_len T.n_len (sa_cons (se_var 5) sa_nil)) se_int (nomark _)) (sss_one (ss_set (i := 6) sc.nd (se_ix (se_var 5) se_int))) sss_nil)
      (sss_one (ss_ret (se_and (se_cmp op_lt ops_lt (se_callB call_len_seq cs_len T.n_len (sa_cons (se_var 5) sa_nil)) se_int (nomark _)) (se_one (se_cmp (OpR.or op_eq (op_eqD hr.r.units)) ops_eq (se_callB (call_repr hr.g hr.r.units) cs_repr T.n_repr (sa_cons (se_call (mask := []) (ok_close_curve T) (hr.mono (by decide)) T.f_close_curve.m T.f_close_curve.F.kp T.f_close_curve.b (takes_of rfl rfl rfl rfl) mkFn_len (sa_consF (se_var 1) (sa_consF (se_var 2) (sa_consF (se_var 3) sa_nil)))) sa_nil)) (se_callB (call_repr hr.g hr.r.units) cs_repr T.n_repr (sa_cons (se_var 6) sa_nil)) (nomark _))))))))))))))
abbrev NN_law : List Str := ["script", "hand", "p", "d", "curve", "clean", "most", "f", "places", "w", "near", "other", "x", "k", "value", "votes"]
theorem sc_law : FnScope ["script", "hand", "p", "d", "curve", "clean", "most", "f", "places", "w", "near", "other", "x", "k", "value", "votes"] ["script"] (defScope s_law) := ⟨rfl, rfl, rfl, by decide +kernel, rfl, by decide +kernel, by decide +kernel⟩
theorem ok_law {P : Program} {w : World} {K : PySem.W.Frag} {mg : Str → Option Value} {base : Heap} (T : Txt K mg) : Prom P w K mg base 10 T.f_law.f T.f_law.fd ["script"] (spM K mg 1 g_law) :=
  fn_ok T.f_law.F sc_law fun cdv A outer s H E hr => have sc := sc_law
      (sss_cons (ss_set (i := 1) sc.nd (se_lst (sa_consF (se_call (mask := []) (ok__law_draws T) (hr.mono (by decide)) T.f__law_draws.m T.f__law_draws.F.kp T.f__law_draws.b (takes_of rfl rfl rfl rfl) mkFn_len (sa_consF (se_var 0) (sa_consF se_int sa_nil))) (sa_consF se_int sa_nil))))
      (sss_cons (ss_set (i := 2) sc.nd (se_call (mask := [true, false]) (ok__law_prime T) (hr.mono (by decide)) T.f__law_prime.m T.f__law_prime.F.kp T.f__law_prime.b (takes_of rfl rfl rfl rfl) mkFn_len (sa_cons (se_var 1) (sa_consF (se_ix (se_lst (sa_consF se_int (sa_consF se_int (sa_consF se_int sa_nil)))) (se_call (mask := [true, false]) (ok__law_take T) (hr.mono (by decide)) T.f__law_take.m T.f__law_take.F.kp T.f__law_take.b (takes_of rfl rfl rfl rfl) mkFn_len (sa_cons (se_var 1) (sa_consF se_int sa_nil)))) sa_nil))))
      (sss_cons (ss_set (i := 3) sc.nd (se_call (mask := [true, false]) (ok__law_take T) (hr.mono (by decide)) T.f__law_take.m T.f__law_take.F.kp T.f__law_take.b (takes_of rfl rfl rfl rfl) mkFn_len (sa_cons (se_var 1) (sa_consF (se_callB (cr_min2 rfl hr.r.units) cs_min T.n_min (sa_cons se_int (sa_cons (se_sub (se_var 2) se_int) sa_nil))) sa_nil))))
      (sss_cons (ss_set (i := 4) sc.nd (se_call (mask := [true, false, false]) (ok__law_curve T) (hr.mono (by decide)) T.f__law_curve.m T.f__law_curve.F.kp T.f__law_curve.b (takes_of rfl rfl rfl rfl) mkFn_len (sa_cons (se_var 1) (sa_consF (se_var 2) (sa_consF (se_var 3) sa_nil)))))
      (sss_cons (ss_set (i := 5) sc.nd (se_callTy call_tuple_of cs_tuple T.n_tuple (sa_cons (se_comp rfl sc.nd (si_range1 T.n_range (se_var 2)) (own := [("x", 12)]) (show blkC NN_law (defScope s_law) _ _ = true by decide +kernel) (by decide) (fun _ _ _ _ _ => (sg_name (i := 12) sc.nd)) (fun _ _ _ _ _ => sts_nil) (fun _ _ _ _ _ => (se_call (mask := []) (ok__law_value T) (hr.mono (by decide)) T.f__law_value.m T.f__law_value.F.kp T.f__law_value.b takes0 mkFn_len (sa_consF (se_var 2) (sa_consF (se_var 4) (sa_consF (se_var 12) sa_nil)))))) sa_nil)))
      (sss_cons (ss_set (i := 6) sc.nd (se_div (se_sub (se_var 2) se_int) (se_mul se_int (se_add (se_var 3) se_int))))
      (sss_cons (ss_set (i := 7) sc.nd (se_call (mask := [true, false, false, false]) (ok__law_turned T) (hr.mono (by decide)) T.f__law_turned.m T.f__law_turned.F.kp T.f__law_turned.b (takes_of rfl rfl rfl rfl) mkFn_len (sa_cons (se_var 1) (sa_consF (se_var 2) (sa_consF (se_var 5) (sa_consF (se_mul (se_ix (se_lst (sa_consF se_int (sa_consF se_int (sa_consF (se_var 6) (sa_consF (se_call (mask := [true, false]) (ok__law_take T) (hr.mono (by decide)) T.f__law_take.m T.f__law_take.F.kp T.f__law_take.b (takes_of rfl rfl rfl rfl) mkFn_len (sa_cons (se_var 1) (sa_consF (se_add (se_var 6) se_int) sa_nil))) sa_nil))))) (se_call (mask := [true, false]) (ok__law_take T) (hr.mono (by decide)) T.f__law_take.m T.f__law_take.F.kp T.f__law_take.b (takes_of rfl rfl rfl rfl) mkFn_len (sa_cons (se_var 1) (sa_consF se_int sa_nil)))) (se_callTy call_int1 cs_int T.n_int (sa_cons (se_cmp op_gt ops_gt (se_var 6) se_int (nomark _)) sa_nil))) sa_nil))))))
      (sss_cons (ss_set (i := 8) sc.nd (se_callTy call_tuple_of cs_tuple T.n_tuple (sa_cons (se_comp rfl sc.nd (si_range1 T.n_range (se_var 2)) (own := [("x", 12)]) (show blkC NN_law (defScope s_law) _ _ = true by decide +kernel) (by decide) (fun _ _ _ _ _ => (sg_name (i := 12) sc.nd)) (fun _ _ _ _ _ => (sts_one (st_cmp (OpR.or op_ne (op_neD hr.r.units)) ops_ne (se_ix (se_var 7) (se_var 12)) (se_ix (se_var 5) (se_var 12)) (nomark _)))) (fun _ _ _ _ _ => (se_var 12))) sa_nil)))
      (sss_cons (ss_set (i := 9) sc.nd (se_callB call_len_seq cs_len T.n_len (sa_cons (se_var 8) sa_nil)))
      (sss_cons (ss_if (st_pw (spw_or (st_cmp (OpR.or op_ne (op_neD hr.r.units)) ops_ne (se_callB (call_repr hr.g hr.r.units) cs_repr T.n_repr (sa_cons (se_call (mask := []) (ok_close_curve T) (hr.mono (by decide)) T.f_close_curve.m T.f_close_curve.F.kp T.f_close_curve.b (takes_of rfl rfl rfl rfl) mkFn_len (sa_consF (se_var 2) (sa_consF (se_var 3) (sa_consF (se_var 7) sa_nil)))) sa_nil)) (se_callB (call_repr hr.g hr.r.units) cs_repr T.n_repr (sa_cons (se_var 4) sa_nil)) (nomark _)) (spw_or1 (st_cmp (OpR.or op_ne (op_neD hr.r.units)) ops_ne (se_callB (call_repr hr.g hr.r.units) cs_repr T.n_repr (sa_cons (se_call (mask := []) (ok_wrong_on T) (hr.mono (by decide)) T.f_wrong_on.m T.f_wrong_on.F.kp T.f_wrong_on.b (takes_of rfl rfl rfl rfl) mkFn_len (sa_consF (se_var 2) (sa_consF (se_var 4) (sa_consF (se_var 7) sa_nil)))) sa_nil)) (se_callB (call_repr hr.g hr.r.units) cs_repr T.n_repr (sa_cons (se_var 8) sa_nil)) (nomark _))))) (sss_one (ss_ret se_bl)) sss_nil)
      (sss_cons (ss_set (i := 10) sc.nd se_bl)
      (sss_cons (ss_if (st_cmp op_lt ops_lt (se_var 2) se_int (nomark _)) (sss_cons (ss_set (i := 10) sc.nd (se_call (mask := []) (ok_is_near T) (hr.mono (by decide)) T.f_is_near.m T.f_is_near.F.kp T.f_is_near.b (takes_of rfl rfl rfl rfl) mkFn_len (sa_consF (se_var 2) (sa_consF (se_var 3) (sa_consF (se_var 7) sa_nil)))))
      (sss_cons (ss_if (st_cmp (OpR.or op_ne (op_neD hr.r.units)) ops_ne (se_callB (call_repr hr.g hr.r.units) cs_repr T.n_repr (sa_cons (se_var 10) sa_nil)) (se_callB (call_repr hr.g hr.r.units) cs_repr T.n_repr (sa_cons (se_cmp op_lt ops_lt (se_mul (se_mul (se_mul (se_call (mask := []) (ok__law_broken T) (hr.mono (by decide)) T.f__law_broken.m T.f__law_broken.F.kp T.f__law_broken.b (takes_of rfl rfl rfl rfl) mkFn_len (sa_consF (se_var 2) (sa_consF (se_var 3) (sa_consF (se_var 7) sa_nil)))) (se_add (se_var 3) se_int)) (se_add (se_var 3) se_int)) (se_add (se_var 3) se_int)) (se_mul (se_mul (se_add (se_var 3) se_int) (se_var 2)) (se_var 2)) (nomark _)) sa_nil)) (nomark _)) (sss_one (ss_ret se_bl)) sss_nil)
      (sss_one (ss_if (st_pw (spw_and (st_val (se_var 10)) (spw_and1 (st_cmp op_ge ops_ge (se_mul (se_mul (se_var 9) (se_add (se_var 3) se_int)) (se_add (se_var 3) se_int)) (se_var 2) (nomark _))))) (sss_one (ss_ret se_bl)) sss_nil)))) sss_nil)
      (sss_cons (ss_set (i := 11) sc.nd (se_call (mask := [true, false, false]) (ok__law_curve T) (hr.mono (by decide)) T.f__law_curve.m T.f__law_curve.F.kp T.f__law_curve.b (takes_of rfl rfl rfl rfl) mkFn_len (sa_cons (se_var 1) (sa_consF (se_var 2) (sa_consF (se_call (mask := [true, false]) (ok__law_take T) (hr.mono (by decide)) T.f__law_take.m T.f__law_take.F.kp T.f__law_take.b (takes_of rfl rfl rfl rfl) mkFn_len (sa_cons (se_var 1) (sa_consF se_int sa_nil))) sa_nil)))))
      (sss_cons (ss_set (i := 12) sc.nd (se_call (mask := [true, false]) (ok__law_take T) (hr.mono (by decide)) T.f__law_take.m T.f__law_take.F.kp T.f__law_take.b (takes_of rfl rfl rfl rfl) mkFn_len (sa_cons (se_var 1) (sa_consF (se_var 2) sa_nil))))
      (sss_cons (ss_if (st_cmp (OpR.or op_ne (op_neD hr.r.units)) ops_ne (se_callB (call_repr hr.g hr.r.units) cs_repr T.n_repr (sa_cons (se_callK0 ["x", "curve", "p"] (l := [2, 1, 0]) (mask := []) (ok_value_at T) (hr.mono (by decide)) T.f_value_at.m T.f_value_at.F.kp (kb_of T.f_value_at.F (fun _ _ _ _ _ _ us ws h1 h2 => match us, ws, h1, h2 with | [], [_, _, _], _, _ => rfl)) (takes_of rfl rfl rfl rfl) mkFn_len (sk_cons (se_var 12) (sk_cons (se_var 11) (sk_cons (se_var 2) sk_nil)))) sa_nil)) (se_callB (call_repr hr.g hr.r.units) cs_repr T.n_repr (sa_cons (se_call (mask := []) (ok__law_value T) (hr.mono (by decide)) T.f__law_value.m T.f__law_value.F.kp T.f__law_value.b (takes_of rfl rfl rfl rfl) mkFn_len (sa_consF (se_var 2) (sa_consF (se_var 11) (sa_consF (se_var 12) sa_nil)))) sa_nil)) (nomark _)) (sss_one (ss_ret se_bl)) sss_nil)
      (sss_cons (ss_set (i := 8) sc.nd (se_callTy call_tuple_of cs_tuple T.n_tuple (sa_cons (se_comp rfl sc.nd (si_range1 T.n_range (se_var 2)) (own := [("x", 12)]) (show blkC NN_law (defScope s_law) _ _ = true by decide +kernel) (by decide) (fun _ _ _ _ _ => (sg_name (i := 12) sc.nd)) (fun _ _ _ _ _ => (sts_one (st_cmp (OpR.or op_ne (op_neD hr.r.units)) ops_ne (se_ix (se_var 7) (se_var 12)) (se_call (mask := []) (ok__law_value T) (hr.mono (by decide)) T.f__law_value.m T.f__law_value.F.kp T.f__law_value.b takes0 mkFn_len (sa_consF (se_var 2) (sa_consF (se_var 11) (sa_consF (se_var 12) sa_nil)))) (nomark _)))) (fun _ _ _ _ _ => (se_var 12))) sa_nil)))
      (sss_cons (ss_if (st_cmp (OpR.or op_ne (op_neD hr.r.units)) ops_ne (se_callB (call_repr hr.g hr.r.units) cs_repr T.n_repr (sa_cons (se_callK0 ["f", "curve", "p"] (l := [2, 1, 0]) (mask := []) (ok_wrong_on T) (hr.mono (by decide)) T.f_wrong_on.m T.f_wrong_on.F.kp (kb_of T.f_wrong_on.F (fun _ _ _ _ _ _ us ws h1 h2 => match us, ws, h1, h2 with | [], [_, _, _], _, _ => rfl)) (takes_of rfl rfl rfl rfl) mkFn_len (sk_cons (se_var 7) (sk_cons (se_var 11) (sk_cons (se_var 2) sk_nil)))) sa_nil)) (se_callB (call_repr hr.g hr.r.units) cs_repr T.n_repr (sa_cons (se_var 8) sa_nil)) (nomark _)) (sss_one (ss_ret se_bl)) sss_nil)
      (sss_cons (ss_for (passes_of rfl) rfl (si_range1 T.n_range se_int) (sg_name (i := 13) sc.nd) (sss_cons (ss_set (i := 12) sc.nd (se_call (mask := [true, false]) (ok__law_take T) (hr.mono (by decide)) T.f__law_take.m T.f__law_take.F.kp T.f__law_take.b (takes_of rfl rfl rfl rfl) mkFn_len (sa_cons (se_var 1) (sa_consF (se_var 2) sa_nil))))
      (sss_cons (ss_set (i := 14) sc.nd (se_call (mask := []) (ok_value_at T) (hr.mono (by decide)) T.f_value_at.m T.f_value_at.F.kp T.f_value_at.b (takes_of rfl rfl rfl rfl) mkFn_len (sa_consF (se_var 2) (sa_consF (se_var 4) (sa_consF (se_var 12) sa_nil)))))
      (sss_cons (ss_set (i := 15) sc.nd (se_call (mask := []) (ok__law_votes T) (hr.mono (by decide)) T.f__law_votes.m T.f__law_votes.F.kp T.f__law_votes.b (takes_of rfl rfl rfl rfl) mkFn_len (sa_consF (se_var 2) (sa_consF (se_var 3) (sa_consF (se_var 7) (sa_consF (se_var 12) sa_nil))))))
      (sss_cons (ss_if (st_pw (spw_or (st_cmp (OpR.or op_ne (op_neD hr.r.units)) ops_ne (se_callB (call_repr hr.g hr.r.units) cs_repr T.n_repr (sa_cons (se_var 14) sa_nil)) (se_callB (call_repr hr.g hr.r.units) cs_repr T.n_repr (sa_cons (se_ix (se_var 5) (se_var 12)) sa_nil)) (nomark _)) (spw_or (st_cmp op_le ops_le (se_mul se_int (se_ix (se_var 15) (se_var 14))) (se_var 2) (nomark _)) (spw_or1 (st_cmp op_gt ops_gt (se_sub (se_var 2) (se_ix (se_var 15) (se_var 14))) (se_mul (se_add (se_var 3) se_int) (se_var 9)) (nomark _)))))) (sss_one (ss_ret se_bl)) sss_nil)
      (sss_one (ss_if (st_pw (spw_and (st_val (se_var 10)) (spw_and1 (st_cmp op_le ops_le (se_mul (se_add (se_var 3) se_int) (se_ix (se_var 15) (se_var 14))) (se_mul (se_add (se_var 3) se_int) (se_var 2)) (nomark _))))) (sss_one (ss_ret se_bl)) sss_nil)))))))
      (sss_one (ss_ret (se_call (mask := [true]) (ok__law_is_small T) (hr.mono (by decide)) T.f__law_is_small.m T.f__law_is_small.F.kp T.f__law_is_small.b (takes_of rfl rfl rfl rfl) mkFn_len (sa_cons (se_var 1) sa_nil))))))))))))))))))))))
end K55
end Py
end
section
set_option Elab.async false
set_option maxHeartbeats 0
set_option linter.all false
set_option maxRecDepth 100000
namespace Py
namespace K55
open PySem PySem.Spec PyProof.Rows L2
theorem all_mk {l : PySem.W.OpenLaw} {w : World} {K : PySem.W.Frag} {h : Heap} {mg : Str → Option Value} {fa : Addr} (X : K.In h) (G : h.Ns mainGlobals mg) (hfa : mg "law" = some (.ref fa))
    {f_is_integer : Addr} {od_is_integer an_is_integer : Option Addr} {sl_is_integer : Array (Option Value)} {oc_is_integer kV_is_integer dc_is_integer pm_is_integer cd_is_integer ct_is_integer : Value} (a_is_integer : PySem.W.nsIn K mainGlobals "is_integer" = some (some (.ref f_is_integer))) (l_is_integer : K.lookup f_is_integer = some ⟨oc_is_integer, od_is_integer, .func (PySem.W.fnOf "is_integer" "is_integer" (defArgs s_is_integer) (defBody s_is_integer) (defScope s_is_integer) .none kV_is_integer dc_is_integer pm_is_integer an_is_integer cd_is_integer ct_is_integer), sl_is_integer⟩) (c_is_integer : PySem.W.codeIn K cd_is_integer "is_integer" = true) (k_is_integer : PySem.W.keepIn K (.ref f_is_integer) = true)
    {f_is_number : Addr} {od_is_number an_is_number : Option Addr} {sl_is_number : Array (Option Value)} {oc_is_number kV_is_number dc_is_number pm_is_number cd_is_number ct_is_number : Value} (a_is_number : PySem.W.nsIn K mainGlobals "is_number" = some (some (.ref f_is_number))) (l_is_number : K.lookup f_is_number = some ⟨oc_is_number, od_is_number, .func (PySem.W.fnOf "is_number" "is_number" (defArgs s_is_number) (defBody s_is_number) (defScope s_is_number) .none kV_is_number dc_is_number pm_is_number an_is_number cd_is_number ct_is_number), sl_is_number⟩) (c_is_number : PySem.W.codeIn K cd_is_number "is_number" = true) (k_is_number : PySem.W.keepIn K (.ref f_is_number) = true)
    {f_is_below : Addr} {od_is_below an_is_below : Option Addr} {sl_is_below : Array (Option Value)} {oc_is_below kV_is_below dc_is_below pm_is_below cd_is_below ct_is_below : Value} (a_is_below : PySem.W.nsIn K mainGlobals "is_below" = some (some (.ref f_is_below))) (l_is_below : K.lookup f_is_below = some ⟨oc_is_below, od_is_below, .func (PySem.W.fnOf "is_below" "is_below" (defArgs s_is_below) (defBody s_is_below) (defScope s_is_below) .none kV_is_below dc_is_below pm_is_below an_is_below cd_is_below ct_is_below), sl_is_below⟩) (c_is_below : PySem.W.codeIn K cd_is_below "is_below" = true) (k_is_below : PySem.W.keepIn K (.ref f_is_below) = true)
    {f_row_below : Addr} {od_row_below an_row_below : Option Addr} {sl_row_below : Array (Option Value)} {oc_row_below kV_row_below dc_row_below pm_row_below cd_row_below ct_row_below : Value} (a_row_below : PySem.W.nsIn K mainGlobals "row_below" = some (some (.ref f_row_below))) (l_row_below : K.lookup f_row_below = some ⟨oc_row_below, od_row_below, .func (PySem.W.fnOf "row_below" "row_below" (defArgs s_row_below) (defBody s_row_below) (defScope s_row_below) .none kV_row_below dc_row_below pm_row_below an_row_below cd_row_below ct_row_below), sl_row_below⟩) (c_row_below : PySem.W.codeIn K cd_row_below "row_below" = true) (k_row_below : PySem.W.keepIn K (.ref f_row_below) = true)
    {f_ways_of : Addr} {od_ways_of an_ways_of : Option Addr} {sl_ways_of : Array (Option Value)} {oc_ways_of kV_ways_of dc_ways_of pm_ways_of cd_ways_of ct_ways_of : Value} (a_ways_of : PySem.W.nsIn K mainGlobals "ways_of" = some (some (.ref f_ways_of))) (l_ways_of : K.lookup f_ways_of = some ⟨oc_ways_of, od_ways_of, .func (PySem.W.fnOf "ways_of" "ways_of" (defArgs s_ways_of) (defBody s_ways_of) (defScope s_ways_of) .none kV_ways_of dc_ways_of pm_ways_of an_ways_of cd_ways_of ct_ways_of), sl_ways_of⟩) (c_ways_of : PySem.W.codeIn K cd_ways_of "ways_of" = true) (k_ways_of : PySem.W.keepIn K (.ref f_ways_of) = true)
    {f_is_prime : Addr} {od_is_prime an_is_prime : Option Addr} {sl_is_prime : Array (Option Value)} {oc_is_prime kV_is_prime dc_is_prime pm_is_prime cd_is_prime ct_is_prime : Value} (a_is_prime : PySem.W.nsIn K mainGlobals "is_prime" = some (some (.ref f_is_prime))) (l_is_prime : K.lookup f_is_prime = some ⟨oc_is_prime, od_is_prime, .func (PySem.W.fnOf "is_prime" "is_prime" (defArgs s_is_prime) (defBody s_is_prime) (defScope s_is_prime) .none kV_is_prime dc_is_prime pm_is_prime an_is_prime cd_is_prime ct_is_prime), sl_is_prime⟩) (c_is_prime : PySem.W.codeIn K cd_is_prime "is_prime" = true) (k_is_prime : PySem.W.keepIn K (.ref f_is_prime) = true)
    {f_check_prime : Addr} {od_check_prime an_check_prime : Option Addr} {sl_check_prime : Array (Option Value)} {oc_check_prime kV_check_prime dc_check_prime pm_check_prime cd_check_prime ct_check_prime : Value} (a_check_prime : PySem.W.nsIn K mainGlobals "check_prime" = some (some (.ref f_check_prime))) (l_check_prime : K.lookup f_check_prime = some ⟨oc_check_prime, od_check_prime, .func (PySem.W.fnOf "check_prime" "check_prime" (defArgs s_check_prime) (defBody s_check_prime) (defScope s_check_prime) .none kV_check_prime dc_check_prime pm_check_prime an_check_prime cd_check_prime ct_check_prime), sl_check_prime⟩) (c_check_prime : PySem.W.codeIn K cd_check_prime "check_prime" = true) (k_check_prime : PySem.W.keepIn K (.ref f_check_prime) = true)
    {f_check_table : Addr} {od_check_table an_check_table : Option Addr} {sl_check_table : Array (Option Value)} {oc_check_table kV_check_table dc_check_table pm_check_table cd_check_table ct_check_table : Value} (a_check_table : PySem.W.nsIn K mainGlobals "check_table" = some (some (.ref f_check_table))) (l_check_table : K.lookup f_check_table = some ⟨oc_check_table, od_check_table, .func (PySem.W.fnOf "check_table" "check_table" (defArgs s_check_table) (defBody s_check_table) (defScope s_check_table) .none kV_check_table dc_check_table pm_check_table an_check_table cd_check_table ct_check_table), sl_check_table⟩) (c_check_table : PySem.W.codeIn K cd_check_table "check_table" = true) (k_check_table : PySem.W.keepIn K (.ref f_check_table) = true)
    {f_check_degree : Addr} {od_check_degree an_check_degree : Option Addr} {sl_check_degree : Array (Option Value)} {oc_check_degree kV_check_degree dc_check_degree pm_check_degree cd_check_degree ct_check_degree : Value} (a_check_degree : PySem.W.nsIn K mainGlobals "check_degree" = some (some (.ref f_check_degree))) (l_check_degree : K.lookup f_check_degree = some ⟨oc_check_degree, od_check_degree, .func (PySem.W.fnOf "check_degree" "check_degree" (defArgs s_check_degree) (defBody s_check_degree) (defScope s_check_degree) .none kV_check_degree dc_check_degree pm_check_degree an_check_degree cd_check_degree ct_check_degree), sl_check_degree⟩) (c_check_degree : PySem.W.codeIn K cd_check_degree "check_degree" = true) (k_check_degree : PySem.W.keepIn K (.ref f_check_degree) = true)
    {f_factors_of : Addr} {od_factors_of an_factors_of : Option Addr} {sl_factors_of : Array (Option Value)} {oc_factors_of kV_factors_of dc_factors_of pm_factors_of cd_factors_of ct_factors_of : Value} (a_factors_of : PySem.W.nsIn K mainGlobals "factors_of" = some (some (.ref f_factors_of))) (l_factors_of : K.lookup f_factors_of = some ⟨oc_factors_of, od_factors_of, .func (PySem.W.fnOf "factors_of" "factors_of" (defArgs s_factors_of) (defBody s_factors_of) (defScope s_factors_of) .none kV_factors_of dc_factors_of pm_factors_of an_factors_of cd_factors_of ct_factors_of), sl_factors_of⟩) (c_factors_of : PySem.W.codeIn K cd_factors_of "factors_of" = true) (k_factors_of : PySem.W.keepIn K (.ref f_factors_of) = true)
    {f_step_sum : Addr} {od_step_sum an_step_sum : Option Addr} {sl_step_sum : Array (Option Value)} {oc_step_sum kV_step_sum dc_step_sum pm_step_sum cd_step_sum ct_step_sum : Value} (a_step_sum : PySem.W.nsIn K mainGlobals "step_sum" = some (some (.ref f_step_sum))) (l_step_sum : K.lookup f_step_sum = some ⟨oc_step_sum, od_step_sum, .func (PySem.W.fnOf "step_sum" "step_sum" (defArgs s_step_sum) (defBody s_step_sum) (defScope s_step_sum) .none kV_step_sum dc_step_sum pm_step_sum an_step_sum cd_step_sum ct_step_sum), sl_step_sum⟩) (c_step_sum : PySem.W.codeIn K cd_step_sum "step_sum" = true) (k_step_sum : PySem.W.keepIn K (.ref f_step_sum) = true)
    {f_broken_steps : Addr} {od_broken_steps an_broken_steps : Option Addr} {sl_broken_steps : Array (Option Value)} {oc_broken_steps kV_broken_steps dc_broken_steps pm_broken_steps cd_broken_steps ct_broken_steps : Value} (a_broken_steps : PySem.W.nsIn K mainGlobals "broken_steps" = some (some (.ref f_broken_steps))) (l_broken_steps : K.lookup f_broken_steps = some ⟨oc_broken_steps, od_broken_steps, .func (PySem.W.fnOf "broken_steps" "broken_steps" (defArgs s_broken_steps) (defBody s_broken_steps) (defScope s_broken_steps) .none kV_broken_steps dc_broken_steps pm_broken_steps an_broken_steps cd_broken_steps ct_broken_steps), sl_broken_steps⟩) (c_broken_steps : PySem.W.codeIn K cd_broken_steps "broken_steps" = true) (k_broken_steps : PySem.W.keepIn K (.ref f_broken_steps) = true)
    {f_step_votes : Addr} {od_step_votes an_step_votes : Option Addr} {sl_step_votes : Array (Option Value)} {oc_step_votes kV_step_votes dc_step_votes pm_step_votes cd_step_votes ct_step_votes : Value} (a_step_votes : PySem.W.nsIn K mainGlobals "step_votes" = some (some (.ref f_step_votes))) (l_step_votes : K.lookup f_step_votes = some ⟨oc_step_votes, od_step_votes, .func (PySem.W.fnOf "step_votes" "step_votes" (defArgs s_step_votes) (defBody s_step_votes) (defScope s_step_votes) .none kV_step_votes dc_step_votes pm_step_votes an_step_votes cd_step_votes ct_step_votes), sl_step_votes⟩) (c_step_votes : PySem.W.codeIn K cd_step_votes "step_votes" = true) (k_step_votes : PySem.W.keepIn K (.ref f_step_votes) = true)
    {f_is_near : Addr} {od_is_near an_is_near : Option Addr} {sl_is_near : Array (Option Value)} {oc_is_near kV_is_near dc_is_near pm_is_near cd_is_near ct_is_near : Value} (a_is_near : PySem.W.nsIn K mainGlobals "is_near" = some (some (.ref f_is_near))) (l_is_near : K.lookup f_is_near = some ⟨oc_is_near, od_is_near, .func (PySem.W.fnOf "is_near" "is_near" (defArgs s_is_near) (defBody s_is_near) (defScope s_is_near) .none kV_is_near dc_is_near pm_is_near an_is_near cd_is_near ct_is_near), sl_is_near⟩) (c_is_near : PySem.W.codeIn K cd_is_near "is_near" = true) (k_is_near : PySem.W.keepIn K (.ref f_is_near) = true)
    {f_inverse_of : Addr} {od_inverse_of an_inverse_of : Option Addr} {sl_inverse_of : Array (Option Value)} {oc_inverse_of kV_inverse_of dc_inverse_of pm_inverse_of cd_inverse_of ct_inverse_of : Value} (a_inverse_of : PySem.W.nsIn K mainGlobals "inverse_of" = some (some (.ref f_inverse_of))) (l_inverse_of : K.lookup f_inverse_of = some ⟨oc_inverse_of, od_inverse_of, .func (PySem.W.fnOf "inverse_of" "inverse_of" (defArgs s_inverse_of) (defBody s_inverse_of) (defScope s_inverse_of) .none kV_inverse_of dc_inverse_of pm_inverse_of an_inverse_of cd_inverse_of ct_inverse_of), sl_inverse_of⟩) (c_inverse_of : PySem.W.codeIn K cd_inverse_of "inverse_of" = true) (k_inverse_of : PySem.W.keepIn K (.ref f_inverse_of) = true)
    {f_times_less : Addr} {od_times_less an_times_less : Option Addr} {sl_times_less : Array (Option Value)} {oc_times_less kV_times_less dc_times_less pm_times_less cd_times_less ct_times_less : Value} (a_times_less : PySem.W.nsIn K mainGlobals "times_less" = some (some (.ref f_times_less))) (l_times_less : K.lookup f_times_less = some ⟨oc_times_less, od_times_less, .func (PySem.W.fnOf "times_less" "times_less" (defArgs s_times_less) (defBody s_times_less) (defScope s_times_less) .none kV_times_less dc_times_less pm_times_less an_times_less cd_times_less ct_times_less), sl_times_less⟩) (c_times_less : PySem.W.codeIn K cd_times_less "times_less" = true) (k_times_less : PySem.W.keepIn K (.ref f_times_less) = true)
    {f_value_of : Addr} {od_value_of an_value_of : Option Addr} {sl_value_of : Array (Option Value)} {oc_value_of kV_value_of dc_value_of pm_value_of cd_value_of ct_value_of : Value} (a_value_of : PySem.W.nsIn K mainGlobals "value_of" = some (some (.ref f_value_of))) (l_value_of : K.lookup f_value_of = some ⟨oc_value_of, od_value_of, .func (PySem.W.fnOf "value_of" "value_of" (defArgs s_value_of) (defBody s_value_of) (defScope s_value_of) .none kV_value_of dc_value_of pm_value_of an_value_of cd_value_of ct_value_of), sl_value_of⟩) (c_value_of : PySem.W.codeIn K cd_value_of "value_of" = true) (k_value_of : PySem.W.keepIn K (.ref f_value_of) = true)
    {f_curve_through : Addr} {od_curve_through an_curve_through : Option Addr} {sl_curve_through : Array (Option Value)} {oc_curve_through kV_curve_through dc_curve_through pm_curve_through cd_curve_through ct_curve_through : Value} (a_curve_through : PySem.W.nsIn K mainGlobals "curve_through" = some (some (.ref f_curve_through))) (l_curve_through : K.lookup f_curve_through = some ⟨oc_curve_through, od_curve_through, .func (PySem.W.fnOf "curve_through" "curve_through" (defArgs s_curve_through) (defBody s_curve_through) (defScope s_curve_through) .none kV_curve_through dc_curve_through pm_curve_through an_curve_through cd_curve_through ct_curve_through), sl_curve_through⟩) (c_curve_through : PySem.W.codeIn K cd_curve_through "curve_through" = true) (k_curve_through : PySem.W.keepIn K (.ref f_curve_through) = true)
    {f_places_apart : Addr} {od_places_apart an_places_apart : Option Addr} {sl_places_apart : Array (Option Value)} {oc_places_apart kV_places_apart dc_places_apart pm_places_apart cd_places_apart ct_places_apart : Value} (a_places_apart : PySem.W.nsIn K mainGlobals "places_apart" = some (some (.ref f_places_apart))) (l_places_apart : K.lookup f_places_apart = some ⟨oc_places_apart, od_places_apart, .func (PySem.W.fnOf "places_apart" "places_apart" (defArgs s_places_apart) (defBody s_places_apart) (defScope s_places_apart) .none kV_places_apart dc_places_apart pm_places_apart an_places_apart cd_places_apart ct_places_apart), sl_places_apart⟩) (c_places_apart : PySem.W.codeIn K cd_places_apart "places_apart" = true) (k_places_apart : PySem.W.keepIn K (.ref f_places_apart) = true)
    {f_close_curve : Addr} {od_close_curve an_close_curve : Option Addr} {sl_close_curve : Array (Option Value)} {oc_close_curve kV_close_curve dc_close_curve pm_close_curve cd_close_curve ct_close_curve : Value} (a_close_curve : PySem.W.nsIn K mainGlobals "close_curve" = some (some (.ref f_close_curve))) (l_close_curve : K.lookup f_close_curve = some ⟨oc_close_curve, od_close_curve, .func (PySem.W.fnOf "close_curve" "close_curve" (defArgs s_close_curve) (defBody s_close_curve) (defScope s_close_curve) .none kV_close_curve dc_close_curve pm_close_curve an_close_curve cd_close_curve ct_close_curve), sl_close_curve⟩) (c_close_curve : PySem.W.codeIn K cd_close_curve "close_curve" = true) (k_close_curve : PySem.W.keepIn K (.ref f_close_curve) = true)
    {f_is_curve : Addr} {od_is_curve an_is_curve : Option Addr} {sl_is_curve : Array (Option Value)} {oc_is_curve kV_is_curve dc_is_curve pm_is_curve cd_is_curve ct_is_curve : Value} (a_is_curve : PySem.W.nsIn K mainGlobals "is_curve" = some (some (.ref f_is_curve))) (l_is_curve : K.lookup f_is_curve = some ⟨oc_is_curve, od_is_curve, .func (PySem.W.fnOf "is_curve" "is_curve" (defArgs s_is_curve) (defBody s_is_curve) (defScope s_is_curve) .none kV_is_curve dc_is_curve pm_is_curve an_is_curve cd_is_curve ct_is_curve), sl_is_curve⟩) (c_is_curve : PySem.W.codeIn K cd_is_curve "is_curve" = true) (k_is_curve : PySem.W.keepIn K (.ref f_is_curve) = true)
    {f_value_at : Addr} {od_value_at an_value_at : Option Addr} {sl_value_at : Array (Option Value)} {oc_value_at kV_value_at dc_value_at pm_value_at cd_value_at ct_value_at : Value} (a_value_at : PySem.W.nsIn K mainGlobals "value_at" = some (some (.ref f_value_at))) (l_value_at : K.lookup f_value_at = some ⟨oc_value_at, od_value_at, .func (PySem.W.fnOf "value_at" "value_at" (defArgs s_value_at) (defBody s_value_at) (defScope s_value_at) .none kV_value_at dc_value_at pm_value_at an_value_at cd_value_at ct_value_at), sl_value_at⟩) (c_value_at : PySem.W.codeIn K cd_value_at "value_at" = true) (k_value_at : PySem.W.keepIn K (.ref f_value_at) = true)
    {f_wrong_on : Addr} {od_wrong_on an_wrong_on : Option Addr} {sl_wrong_on : Array (Option Value)} {oc_wrong_on kV_wrong_on dc_wrong_on pm_wrong_on cd_wrong_on ct_wrong_on : Value} (a_wrong_on : PySem.W.nsIn K mainGlobals "wrong_on" = some (some (.ref f_wrong_on))) (l_wrong_on : K.lookup f_wrong_on = some ⟨oc_wrong_on, od_wrong_on, .func (PySem.W.fnOf "wrong_on" "wrong_on" (defArgs s_wrong_on) (defBody s_wrong_on) (defScope s_wrong_on) .none kV_wrong_on dc_wrong_on pm_wrong_on an_wrong_on cd_wrong_on ct_wrong_on), sl_wrong_on⟩) (c_wrong_on : PySem.W.codeIn K cd_wrong_on "wrong_on" = true) (k_wrong_on : PySem.W.keepIn K (.ref f_wrong_on) = true)
    {f__law_draws : Addr} {od__law_draws an__law_draws : Option Addr} {sl__law_draws : Array (Option Value)} {oc__law_draws kV__law_draws dc__law_draws pm__law_draws cd__law_draws ct__law_draws : Value} (a__law_draws : PySem.W.nsIn K mainGlobals "_law_draws" = some (some (.ref f__law_draws))) (l__law_draws : K.lookup f__law_draws = some ⟨oc__law_draws, od__law_draws, .func (PySem.W.fnOf "_law_draws" "_law_draws" (defArgs s__law_draws) (defBody s__law_draws) (defScope s__law_draws) .none kV__law_draws dc__law_draws pm__law_draws an__law_draws cd__law_draws ct__law_draws), sl__law_draws⟩) (c__law_draws : PySem.W.codeIn K cd__law_draws "_law_draws" = true) (k__law_draws : PySem.W.keepIn K (.ref f__law_draws) = true)
    {f__law_take : Addr} {od__law_take an__law_take : Option Addr} {sl__law_take : Array (Option Value)} {oc__law_take kV__law_take dc__law_take pm__law_take cd__law_take ct__law_take : Value} (a__law_take : PySem.W.nsIn K mainGlobals "_law_take" = some (some (.ref f__law_take))) (l__law_take : K.lookup f__law_take = some ⟨oc__law_take, od__law_take, .func (PySem.W.fnOf "_law_take" "_law_take" (defArgs s__law_take) (defBody s__law_take) (defScope s__law_take) .none kV__law_take dc__law_take pm__law_take an__law_take cd__law_take ct__law_take), sl__law_take⟩) (c__law_take : PySem.W.codeIn K cd__law_take "_law_take" = true) (k__law_take : PySem.W.keepIn K (.ref f__law_take) = true)
    {f__law_prime : Addr} {od__law_prime an__law_prime : Option Addr} {sl__law_prime : Array (Option Value)} {oc__law_prime kV__law_prime dc__law_prime pm__law_prime cd__law_prime ct__law_prime : Value} (a__law_prime : PySem.W.nsIn K mainGlobals "_law_prime" = some (some (.ref f__law_prime))) (l__law_prime : K.lookup f__law_prime = some ⟨oc__law_prime, od__law_prime, .func (PySem.W.fnOf "_law_prime" "_law_prime" (defArgs s__law_prime) (defBody s__law_prime) (defScope s__law_prime) .none kV__law_prime dc__law_prime pm__law_prime an__law_prime cd__law_prime ct__law_prime), sl__law_prime⟩) (c__law_prime : PySem.W.codeIn K cd__law_prime "_law_prime" = true) (k__law_prime : PySem.W.keepIn K (.ref f__law_prime) = true)
    {f__law_value : Addr} {od__law_value an__law_value : Option Addr} {sl__law_value : Array (Option Value)} {oc__law_value kV__law_value dc__law_value pm__law_value cd__law_value ct__law_value : Value} (a__law_value : PySem.W.nsIn K mainGlobals "_law_value" = some (some (.ref f__law_value))) (l__law_value : K.lookup f__law_value = some ⟨oc__law_value, od__law_value, .func (PySem.W.fnOf "_law_value" "_law_value" (defArgs s__law_value) (defBody s__law_value) (defScope s__law_value) .none kV__law_value dc__law_value pm__law_value an__law_value cd__law_value ct__law_value), sl__law_value⟩) (c__law_value : PySem.W.codeIn K cd__law_value "_law_value" = true) (k__law_value : PySem.W.keepIn K (.ref f__law_value) = true)
    {f__law_curve : Addr} {od__law_curve an__law_curve : Option Addr} {sl__law_curve : Array (Option Value)} {oc__law_curve kV__law_curve dc__law_curve pm__law_curve cd__law_curve ct__law_curve : Value} (a__law_curve : PySem.W.nsIn K mainGlobals "_law_curve" = some (some (.ref f__law_curve))) (l__law_curve : K.lookup f__law_curve = some ⟨oc__law_curve, od__law_curve, .func (PySem.W.fnOf "_law_curve" "_law_curve" (defArgs s__law_curve) (defBody s__law_curve) (defScope s__law_curve) .none kV__law_curve dc__law_curve pm__law_curve an__law_curve cd__law_curve ct__law_curve), sl__law_curve⟩) (c__law_curve : PySem.W.codeIn K cd__law_curve "_law_curve" = true) (k__law_curve : PySem.W.keepIn K (.ref f__law_curve) = true)
    {f__law_turned : Addr} {od__law_turned an__law_turned : Option Addr} {sl__law_turned : Array (Option Value)} {oc__law_turned kV__law_turned dc__law_turned pm__law_turned cd__law_turned ct__law_turned : Value} (a__law_turned : PySem.W.nsIn K mainGlobals "_law_turned" = some (some (.ref f__law_turned))) (l__law_turned : K.lookup f__law_turned = some ⟨oc__law_turned, od__law_turned, .func (PySem.W.fnOf "_law_turned" "_law_turned" (defArgs s__law_turned) (defBody s__law_turned) (defScope s__law_turned) .none kV__law_turned dc__law_turned pm__law_turned an__law_turned cd__law_turned ct__law_turned), sl__law_turned⟩) (c__law_turned : PySem.W.codeIn K cd__law_turned "_law_turned" = true) (k__law_turned : PySem.W.keepIn K (.ref f__law_turned) = true)
    {f__law_steps : Addr} {od__law_steps an__law_steps : Option Addr} {sl__law_steps : Array (Option Value)} {oc__law_steps kV__law_steps dc__law_steps pm__law_steps cd__law_steps ct__law_steps : Value} (a__law_steps : PySem.W.nsIn K mainGlobals "_law_steps" = some (some (.ref f__law_steps))) (l__law_steps : K.lookup f__law_steps = some ⟨oc__law_steps, od__law_steps, .func (PySem.W.fnOf "_law_steps" "_law_steps" (defArgs s__law_steps) (defBody s__law_steps) (defScope s__law_steps) .none kV__law_steps dc__law_steps pm__law_steps an__law_steps cd__law_steps ct__law_steps), sl__law_steps⟩) (c__law_steps : PySem.W.codeIn K cd__law_steps "_law_steps" = true) (k__law_steps : PySem.W.keepIn K (.ref f__law_steps) = true)
    {f__law_broken : Addr} {od__law_broken an__law_broken : Option Addr} {sl__law_broken : Array (Option Value)} {oc__law_broken kV__law_broken dc__law_broken pm__law_broken cd__law_broken ct__law_broken : Value} (a__law_broken : PySem.W.nsIn K mainGlobals "_law_broken" = some (some (.ref f__law_broken))) (l__law_broken : K.lookup f__law_broken = some ⟨oc__law_broken, od__law_broken, .func (PySem.W.fnOf "_law_broken" "_law_broken" (defArgs s__law_broken) (defBody s__law_broken) (defScope s__law_broken) .none kV__law_broken dc__law_broken pm__law_broken an__law_broken cd__law_broken ct__law_broken), sl__law_broken⟩) (c__law_broken : PySem.W.codeIn K cd__law_broken "_law_broken" = true) (k__law_broken : PySem.W.keepIn K (.ref f__law_broken) = true)
    {f__law_votes : Addr} {od__law_votes an__law_votes : Option Addr} {sl__law_votes : Array (Option Value)} {oc__law_votes kV__law_votes dc__law_votes pm__law_votes cd__law_votes ct__law_votes : Value} (a__law_votes : PySem.W.nsIn K mainGlobals "_law_votes" = some (some (.ref f__law_votes))) (l__law_votes : K.lookup f__law_votes = some ⟨oc__law_votes, od__law_votes, .func (PySem.W.fnOf "_law_votes" "_law_votes" (defArgs s__law_votes) (defBody s__law_votes) (defScope s__law_votes) .none kV__law_votes dc__law_votes pm__law_votes an__law_votes cd__law_votes ct__law_votes), sl__law_votes⟩) (c__law_votes : PySem.W.codeIn K cd__law_votes "_law_votes" = true) (k__law_votes : PySem.W.keepIn K (.ref f__law_votes) = true)
    {f__law_near : Addr} {od__law_near an__law_near : Option Addr} {sl__law_near : Array (Option Value)} {oc__law_near kV__law_near dc__law_near pm__law_near cd__law_near ct__law_near : Value} (a__law_near : PySem.W.nsIn K mainGlobals "_law_near" = some (some (.ref f__law_near))) (l__law_near : K.lookup f__law_near = some ⟨oc__law_near, od__law_near, .func (PySem.W.fnOf "_law_near" "_law_near" (defArgs s__law_near) (defBody s__law_near) (defScope s__law_near) .none kV__law_near dc__law_near pm__law_near an__law_near cd__law_near ct__law_near), sl__law_near⟩) (c__law_near : PySem.W.codeIn K cd__law_near "_law_near" = true) (k__law_near : PySem.W.keepIn K (.ref f__law_near) = true)
    {f__law_is_small : Addr} {od__law_is_small an__law_is_small : Option Addr} {sl__law_is_small : Array (Option Value)} {oc__law_is_small kV__law_is_small dc__law_is_small pm__law_is_small cd__law_is_small ct__law_is_small : Value} (a__law_is_small : PySem.W.nsIn K mainGlobals "_law_is_small" = some (some (.ref f__law_is_small))) (l__law_is_small : K.lookup f__law_is_small = some ⟨oc__law_is_small, od__law_is_small, .func (PySem.W.fnOf "_law_is_small" "_law_is_small" (defArgs s__law_is_small) (defBody s__law_is_small) (defScope s__law_is_small) .none kV__law_is_small dc__law_is_small pm__law_is_small an__law_is_small cd__law_is_small ct__law_is_small), sl__law_is_small⟩) (c__law_is_small : PySem.W.codeIn K cd__law_is_small "_law_is_small" = true) (k__law_is_small : PySem.W.keepIn K (.ref f__law_is_small) = true)
    {f_law : Addr} {od_law an_law : Option Addr} {sl_law : Array (Option Value)} {oc_law kV_law dc_law pm_law cd_law ct_law : Value} (a_law : PySem.W.nsIn K mainGlobals "law" = some (some (.ref f_law))) (l_law : K.lookup f_law = some ⟨oc_law, od_law, .func (PySem.W.fnOf "law" "law" (defArgs s_law) (defBody s_law) (defScope s_law) .none kV_law dc_law pm_law an_law cd_law ct_law), sl_law⟩) (c_law : PySem.W.codeIn K cd_law "law" = true) (k_law : PySem.W.keepIn K (.ref f_law) = true)
    (z_abs : PySem.W.nsIn K mainGlobals "abs" = some none)
    (z_all : PySem.W.nsIn K mainGlobals "all" = some none)
    (z_bool : PySem.W.nsIn K mainGlobals "bool" = some none)
    (z_enumerate : PySem.W.nsIn K mainGlobals "enumerate" = some none)
    (z_int : PySem.W.nsIn K mainGlobals "int" = some none)
    (z_isinstance : PySem.W.nsIn K mainGlobals "isinstance" = some none)
    (z_len : PySem.W.nsIn K mainGlobals "len" = some none)
    (z_list : PySem.W.nsIn K mainGlobals "list" = some none)
    (z_max : PySem.W.nsIn K mainGlobals "max" = some none)
    (z_min : PySem.W.nsIn K mainGlobals "min" = some none)
    (z_range : PySem.W.nsIn K mainGlobals "range" = some none)
    (z_repr : PySem.W.nsIn K mainGlobals "repr" = some none)
    (z_reversed : PySem.W.nsIn K mainGlobals "reversed" = some none)
    (z_sum : PySem.W.nsIn K mainGlobals "sum" = some none)
    (z_tuple : PySem.W.nsIn K mainGlobals "tuple" = some none)
    (z_zip : PySem.W.nsIn K mainGlobals "zip" = some none)
    {t_MOST_PRIME : Tok} (v_MOST_PRIME : PySem.W.nsIn K mainGlobals "MOST_PRIME" = some (some (.int (101) t_MOST_PRIME)))
    {t_MOST_DEGREE : Tok} (v_MOST_DEGREE : PySem.W.nsIn K mainGlobals "MOST_DEGREE" = some (some (.int (4) t_MOST_DEGREE)))
    {t_MOST_NUMBERS : Tok} (v_MOST_NUMBERS : PySem.W.nsIn K mainGlobals "MOST_NUMBERS" = some (some (.int (5) t_MOST_NUMBERS)))
    {C_InvalidNumber : Addr} (aC_InvalidNumber : PySem.W.nsIn K mainGlobals "InvalidNumber" = some (some (.ref C_InvalidNumber))) (exC_InvalidNumber : PySem.W.subIn K (.ref C_InvalidNumber) (.type "BaseException") = some true) (icC_InvalidNumber : PySem.W.isClsIn K C_InvalidNumber = true) (tyC_InvalidNumber : PySem.W.typeIn K (.ref C_InvalidNumber) = some (.type "type"))
    {C_InvalidMap : Addr} (aC_InvalidMap : PySem.W.nsIn K mainGlobals "InvalidMap" = some (some (.ref C_InvalidMap))) (exC_InvalidMap : PySem.W.subIn K (.ref C_InvalidMap) (.type "BaseException") = some true) (icC_InvalidMap : PySem.W.isClsIn K C_InvalidMap = true) (tyC_InvalidMap : PySem.W.typeIn K (.ref C_InvalidMap) = some (.type "type"))
    (hn0 : PySem.W.specialIn K (.builtin "object.__class__") "__get__" = some (some (.builtin "getset_descriptor.__get__"))) (ht0 : PySem.W.takesIn K (.builtin "object.__class__") = some true)
    {nm_InvalidNumber qq_InvalidNumber : Str} {NA_InvalidNumber : Addr} {bs_InvalidNumber bm_InvalidNumber : List Value} {sn_InvalidNumber : List Str} {sub_InvalidNumber : List Value} {ab_InvalidNumber : Bool} {col_InvalidNumber : Option Bool} {dd_InvalidNumber : Option Addr} {k0_InvalidNumber k1_InvalidNumber k2_InvalidNumber k3_InvalidNumber k5_InvalidNumber : Option Value} (lC_InvalidNumber : K.lookup C_InvalidNumber = some (excClassObj nm_InvalidNumber qq_InvalidNumber C_InvalidNumber NA_InvalidNumber bs_InvalidNumber bm_InvalidNumber true sn_InvalidNumber sub_InvalidNumber ab_InvalidNumber col_InvalidNumber dd_InvalidNumber k0_InvalidNumber k1_InvalidNumber k2_InvalidNumber k3_InvalidNumber k5_InvalidNumber "ValueError.__new__")) (rC_InvalidNumber : PySem.HandSPX.refsVE bm_InvalidNumber = true) (sa_InvalidNumber : PySem.W.findIn K (.ref C_InvalidNumber) "__setattr__" = some (some (.builtin "object.__setattr__"))) (kC_InvalidNumber : PySem.W.keepIn K (.ref C_InvalidNumber) = true) (ga_InvalidNumber : PySem.W.findIn K (.ref C_InvalidNumber) "__getattribute__" = some (some (.builtin "BaseException.__getattribute__"))) (gg_InvalidNumber : PySem.W.findIn K (.ref C_InvalidNumber) "__getattr__" = some none) (hd_InvalidNumber : PySem.W.hasDictIn K C_InvalidNumber = true) (ha_InvalidNumber : PySem.W.findIn K (.ref C_InvalidNumber) "__class__" = some (some (.builtin "object.__class__"))) (hm_InvalidNumber : PySem.W.mroIn K C_InvalidNumber (.type "object") = some true) {fI_InvalidNumber : Addr} (iC_InvalidNumber : PySem.W.findIn K (.ref C_InvalidNumber) "__init__" = some (some (.ref fI_InvalidNumber))) (ti_InvalidNumber : PySem.W.typeIn K (.ref fI_InvalidNumber) = some (.type "function")) {odI_InvalidNumber anI_InvalidNumber : Option Addr} {slI_InvalidNumber : Array (Option Value)} {ocI_InvalidNumber kVI_InvalidNumber dcI_InvalidNumber pmI_InvalidNumber cdI_InvalidNumber ctI_InvalidNumber : Value} (lI_InvalidNumber : K.lookup fI_InvalidNumber = some ⟨ocI_InvalidNumber, odI_InvalidNumber, .func (PySem.W.fnOf "__init__" "InvalidNumber.__init__" (defArgs si_InvalidNumber) (defBody si_InvalidNumber) (defScope si_InvalidNumber) .none kVI_InvalidNumber dcI_InvalidNumber pmI_InvalidNumber anI_InvalidNumber cdI_InvalidNumber ctI_InvalidNumber), slI_InvalidNumber⟩) (cI_InvalidNumber : PySem.W.codeIn K cdI_InvalidNumber "InvalidNumber.__init__" = true) (kI_InvalidNumber : PySem.W.keepIn K (.ref fI_InvalidNumber) = true)
    (nf_InvalidNumber_value : PySem.W.findIn K (.ref C_InvalidNumber) "value" = some none)
    {nm_InvalidMap qq_InvalidMap : Str} {NA_InvalidMap : Addr} {bs_InvalidMap bm_InvalidMap : List Value} {sn_InvalidMap : List Str} {sub_InvalidMap : List Value} {ab_InvalidMap : Bool} {col_InvalidMap : Option Bool} {dd_InvalidMap : Option Addr} {k0_InvalidMap k1_InvalidMap k2_InvalidMap k3_InvalidMap k5_InvalidMap : Option Value} (lC_InvalidMap : K.lookup C_InvalidMap = some (excClassObj nm_InvalidMap qq_InvalidMap C_InvalidMap NA_InvalidMap bs_InvalidMap bm_InvalidMap true sn_InvalidMap sub_InvalidMap ab_InvalidMap col_InvalidMap dd_InvalidMap k0_InvalidMap k1_InvalidMap k2_InvalidMap k3_InvalidMap k5_InvalidMap "ValueError.__new__")) (rC_InvalidMap : PySem.HandSPX.refsVE bm_InvalidMap = true) (sa_InvalidMap : PySem.W.findIn K (.ref C_InvalidMap) "__setattr__" = some (some (.builtin "object.__setattr__"))) (kC_InvalidMap : PySem.W.keepIn K (.ref C_InvalidMap) = true) (ga_InvalidMap : PySem.W.findIn K (.ref C_InvalidMap) "__getattribute__" = some (some (.builtin "BaseException.__getattribute__"))) (gg_InvalidMap : PySem.W.findIn K (.ref C_InvalidMap) "__getattr__" = some none) (hd_InvalidMap : PySem.W.hasDictIn K C_InvalidMap = true) (ha_InvalidMap : PySem.W.findIn K (.ref C_InvalidMap) "__class__" = some (some (.builtin "object.__class__"))) (hm_InvalidMap : PySem.W.mroIn K C_InvalidMap (.type "object") = some true) {fI_InvalidMap : Addr} (iC_InvalidMap : PySem.W.findIn K (.ref C_InvalidMap) "__init__" = some (some (.ref fI_InvalidMap))) (ti_InvalidMap : PySem.W.typeIn K (.ref fI_InvalidMap) = some (.type "function")) {odI_InvalidMap anI_InvalidMap : Option Addr} {slI_InvalidMap : Array (Option Value)} {ocI_InvalidMap kVI_InvalidMap dcI_InvalidMap pmI_InvalidMap cdI_InvalidMap ctI_InvalidMap : Value} (lI_InvalidMap : K.lookup fI_InvalidMap = some ⟨ocI_InvalidMap, odI_InvalidMap, .func (PySem.W.fnOf "__init__" "InvalidMap.__init__" (defArgs si_InvalidMap) (defBody si_InvalidMap) (defScope si_InvalidMap) .none kVI_InvalidMap dcI_InvalidMap pmI_InvalidMap anI_InvalidMap cdI_InvalidMap ctI_InvalidMap), slI_InvalidMap⟩) (cI_InvalidMap : PySem.W.codeIn K cdI_InvalidMap "InvalidMap.__init__" = true) (kI_InvalidMap : PySem.W.keepIn K (.ref fI_InvalidMap) = true)
    (nf_InvalidMap_value : PySem.W.findIn K (.ref C_InvalidMap) "value" = some none) :
    ∃ fd : FuncData, (∀ (s : Shared) (v : Value), BindsTo s fd ⟨[v], []⟩ [("script", v)]) ∧ ∀ base : Heap, K.In base → base.Ns mainGlobals mg → Prom l.prog w K mg base 10 fa fd ["script"] (spLaw K) := by
  have e := hfa.symm.trans (PySem.W.mg_of X G a_law)
  cases e
  let T : Txt K mg := {
    f_is_integer := mkFunT (ps := ["value"]) X G a_is_integer l_is_integer c_is_integer k_is_integer (fun _ _ _ _ _ _ us hl => match us, hl with | [_], _ => rfl),
    f_is_number := mkFunT (ps := ["value"]) X G a_is_number l_is_number c_is_number k_is_number (fun _ _ _ _ _ _ us hl => match us, hl with | [_], _ => rfl),
    f_is_below := mkFunT (ps := ["value", "bound"]) X G a_is_below l_is_below c_is_below k_is_below (fun _ _ _ _ _ _ us hl => match us, hl with | [_, _], _ => rfl),
    f_row_below := mkFunT (ps := ["value", "length", "bound"]) X G a_row_below l_row_below c_row_below k_row_below (fun _ _ _ _ _ _ us hl => match us, hl with | [_, _, _], _ => rfl),
    f_ways_of := mkFunT (ps := ["many"]) X G a_ways_of l_ways_of c_ways_of k_ways_of (fun _ _ _ _ _ _ us hl => match us, hl with | [_], _ => rfl),
    f_is_prime := mkFunT (ps := ["value", "most"]) X G a_is_prime l_is_prime c_is_prime k_is_prime (fun _ _ _ _ _ _ us hl => match us, hl with | [_, _], _ => rfl),
    f_check_prime := mkFunT (ps := ["p"]) X G a_check_prime l_check_prime c_check_prime k_check_prime (fun _ _ _ _ _ _ us hl => match us, hl with | [_], _ => rfl),
    f_check_table := mkFunT (ps := ["p", "f"]) X G a_check_table l_check_table c_check_table k_check_table (fun _ _ _ _ _ _ us hl => match us, hl with | [_, _], _ => rfl),
    f_check_degree := mkFunT (ps := ["p", "d", "f"]) X G a_check_degree l_check_degree c_check_degree k_check_degree (fun _ _ _ _ _ _ us hl => match us, hl with | [_, _, _], _ => rfl),
    f_factors_of := mkFunT (ps := ["d"]) X G a_factors_of l_factors_of c_factors_of k_factors_of (fun _ _ _ _ _ _ us hl => match us, hl with | [_], _ => rfl),
    f_step_sum := mkFunT (ps := ["p", "factors", "f", "x", "h"]) X G a_step_sum l_step_sum c_step_sum k_step_sum (fun _ _ _ _ _ _ us hl => match us, hl with | [_, _, _, _, _], _ => rfl),
    f_broken_steps := mkFunT (ps := ["p", "d", "f"]) X G a_broken_steps l_broken_steps c_broken_steps k_broken_steps (fun _ _ _ _ _ _ us hl => match us, hl with | [_, _, _], _ => rfl),
    f_step_votes := mkFunT (ps := ["p", "d", "f", "x"]) X G a_step_votes l_step_votes c_step_votes k_step_votes (fun _ _ _ _ _ _ us hl => match us, hl with | [_, _, _, _], _ => rfl),
    f_is_near := mkFunT (ps := ["p", "d", "f"]) X G a_is_near l_is_near c_is_near k_is_near (fun _ _ _ _ _ _ us hl => match us, hl with | [_, _, _], _ => rfl),
    f_inverse_of := mkFunT (ps := ["p", "number"]) X G a_inverse_of l_inverse_of c_inverse_of k_inverse_of (fun _ _ _ _ _ _ us hl => match us, hl with | [_, _], _ => rfl),
    f_times_less := mkFunT (ps := ["p", "curve", "x"]) X G a_times_less l_times_less c_times_less k_times_less (fun _ _ _ _ _ _ us hl => match us, hl with | [_, _, _], _ => rfl),
    f_value_of := mkFunT (ps := ["p", "curve", "x"]) X G a_value_of l_value_of c_value_of k_value_of (fun _ _ _ _ _ _ us hl => match us, hl with | [_, _, _], _ => rfl),
    f_curve_through := mkFunT (ps := ["p", "values"]) X G a_curve_through l_curve_through c_curve_through k_curve_through (fun _ _ _ _ _ _ us hl => match us, hl with | [_, _], _ => rfl),
    f_places_apart := mkFunT (ps := ["p", "curve", "f"]) X G a_places_apart l_places_apart c_places_apart k_places_apart (fun _ _ _ _ _ _ us hl => match us, hl with | [_, _, _], _ => rfl),
    f_close_curve := mkFunT (ps := ["p", "d", "f"]) X G a_close_curve l_close_curve c_close_curve k_close_curve (fun _ _ _ _ _ _ us hl => match us, hl with | [_, _, _], _ => rfl),
    f_is_curve := mkFunT (ps := ["p", "value"]) X G a_is_curve l_is_curve c_is_curve k_is_curve (fun _ _ _ _ _ _ us hl => match us, hl with | [_, _], _ => rfl),
    f_value_at := mkFunT (ps := ["p", "curve", "x"]) X G a_value_at l_value_at c_value_at k_value_at (fun _ _ _ _ _ _ us hl => match us, hl with | [_, _, _], _ => rfl),
    f_wrong_on := mkFunT (ps := ["p", "curve", "f"]) X G a_wrong_on l_wrong_on c_wrong_on k_wrong_on (fun _ _ _ _ _ _ us hl => match us, hl with | [_, _, _], _ => rfl),
    f__law_draws := mkFunT (ps := ["script", "many"]) X G a__law_draws l__law_draws c__law_draws k__law_draws (fun _ _ _ _ _ _ us hl => match us, hl with | [_, _], _ => rfl),
    f__law_take := mkFunT (ps := ["hand", "many"]) X G a__law_take l__law_take c__law_take k__law_take (fun _ _ _ _ _ _ us hl => match us, hl with | [_, _], _ => rfl),
    f__law_prime := mkFunT (ps := ["hand", "most"]) X G a__law_prime l__law_prime c__law_prime k__law_prime (fun _ _ _ _ _ _ us hl => match us, hl with | [_, _], _ => rfl),
    f__law_value := mkFunT (ps := ["p", "curve", "x"]) X G a__law_value l__law_value c__law_value k__law_value (fun _ _ _ _ _ _ us hl => match us, hl with | [_, _, _], _ => rfl),
    f__law_curve := mkFunT (ps := ["hand", "p", "d"]) X G a__law_curve l__law_curve c__law_curve k__law_curve (fun _ _ _ _ _ _ us hl => match us, hl with | [_, _, _], _ => rfl),
    f__law_turned := mkFunT (ps := ["hand", "p", "f", "many"]) X G a__law_turned l__law_turned c__law_turned k__law_turned (fun _ _ _ _ _ _ us hl => match us, hl with | [_, _, _, _], _ => rfl),
    f__law_steps := mkFunT (ps := ["d"]) X G a__law_steps l__law_steps c__law_steps k__law_steps (fun _ _ _ _ _ _ us hl => match us, hl with | [_], _ => rfl),
    f__law_broken := mkFunT (ps := ["p", "d", "f"]) X G a__law_broken l__law_broken c__law_broken k__law_broken (fun _ _ _ _ _ _ us hl => match us, hl with | [_, _, _], _ => rfl),
    f__law_votes := mkFunT (ps := ["p", "d", "f", "x"]) X G a__law_votes l__law_votes c__law_votes k__law_votes (fun _ _ _ _ _ _ us hl => match us, hl with | [_, _, _, _], _ => rfl),
    f__law_near := mkFunT (ps := ["p", "d", "f"]) X G a__law_near l__law_near c__law_near k__law_near (fun _ _ _ _ _ _ us hl => match us, hl with | [_, _, _], _ => rfl),
    f__law_is_small := mkFunT (ps := ["hand"]) X G a__law_is_small l__law_is_small c__law_is_small k__law_is_small (fun _ _ _ _ _ _ us hl => match us, hl with | [_], _ => rfl),
    f_law := mkFunT (ps := ["script"]) X G a_law l_law c_law k_law (fun _ _ _ _ _ _ us hl => match us, hl with | [_], _ => rfl),
    n_abs := PySem.W.mg_none_of X G z_abs,
    n_all := PySem.W.mg_none_of X G z_all,
    n_bool := PySem.W.mg_none_of X G z_bool,
    n_enumerate := PySem.W.mg_none_of X G z_enumerate,
    n_int := PySem.W.mg_none_of X G z_int,
    n_isinstance := PySem.W.mg_none_of X G z_isinstance,
    n_len := PySem.W.mg_none_of X G z_len,
    n_list := PySem.W.mg_none_of X G z_list,
    n_max := PySem.W.mg_none_of X G z_max,
    n_min := PySem.W.mg_none_of X G z_min,
    n_range := PySem.W.mg_none_of X G z_range,
    n_repr := PySem.W.mg_none_of X G z_repr,
    n_reversed := PySem.W.mg_none_of X G z_reversed,
    n_sum := PySem.W.mg_none_of X G z_sum,
    n_tuple := PySem.W.mg_none_of X G z_tuple,
    n_zip := PySem.W.mg_none_of X G z_zip,
    c_MOST_PRIME := ⟨t_MOST_PRIME, PySem.W.mg_of X G v_MOST_PRIME⟩,
    c_MOST_DEGREE := ⟨t_MOST_DEGREE, PySem.W.mg_of X G v_MOST_DEGREE⟩,
    c_MOST_NUMBERS := ⟨t_MOST_NUMBERS, PySem.W.mg_of X G v_MOST_NUMBERS⟩,
    x_InvalidNumber := ⟨C_InvalidNumber, fI_InvalidNumber, _, PySem.W.mg_of X G aC_InvalidNumber, ⟨⟨nm_InvalidNumber, qq_InvalidNumber, NA_InvalidNumber, bs_InvalidNumber, bm_InvalidNumber, sn_InvalidNumber, sub_InvalidNumber, ab_InvalidNumber, col_InvalidNumber, dd_InvalidNumber, k0_InvalidNumber, k1_InvalidNumber, k2_InvalidNumber, k3_InvalidNumber, k5_InvalidNumber, lC_InvalidNumber, rC_InvalidNumber⟩, sa_InvalidNumber, exC_InvalidNumber, tyC_InvalidNumber, kC_InvalidNumber⟩, clsOk_of ga_InvalidNumber gg_InvalidNumber exC_InvalidNumber hd_InvalidNumber ha_InvalidNumber hn0 ht0 hm_InvalidNumber icC_InvalidNumber, iC_InvalidNumber, ti_InvalidNumber, fun_mk lI_InvalidNumber cI_InvalidNumber kI_InvalidNumber, (fun_mk (st := si_InvalidNumber) lI_InvalidNumber cI_InvalidNumber kI_InvalidNumber).binds (ps := ["self", "value"]) fun _ _ _ _ _ _ us hl => match us, hl with | [_, _], _ => rfl⟩,
    fl_InvalidNumber := (forall_cons nf_InvalidNumber_value forall_nil),
    x_InvalidMap := ⟨C_InvalidMap, fI_InvalidMap, _, PySem.W.mg_of X G aC_InvalidMap, ⟨⟨nm_InvalidMap, qq_InvalidMap, NA_InvalidMap, bs_InvalidMap, bm_InvalidMap, sn_InvalidMap, sub_InvalidMap, ab_InvalidMap, col_InvalidMap, dd_InvalidMap, k0_InvalidMap, k1_InvalidMap, k2_InvalidMap, k3_InvalidMap, k5_InvalidMap, lC_InvalidMap, rC_InvalidMap⟩, sa_InvalidMap, exC_InvalidMap, tyC_InvalidMap, kC_InvalidMap⟩, clsOk_of ga_InvalidMap gg_InvalidMap exC_InvalidMap hd_InvalidMap ha_InvalidMap hn0 ht0 hm_InvalidMap icC_InvalidMap, iC_InvalidMap, ti_InvalidMap, fun_mk lI_InvalidMap cI_InvalidMap kI_InvalidMap, (fun_mk (st := si_InvalidMap) lI_InvalidMap cI_InvalidMap kI_InvalidMap).binds (ps := ["self", "value"]) fun _ _ _ _ _ _ us hl => match us, hl with | [_, _], _ => rfl⟩,
    fl_InvalidMap := (forall_cons nf_InvalidMap_value forall_nil),
    C_InvalidNumber := C_InvalidNumber,
    m_InvalidNumber := PySem.W.mg_of X G aC_InvalidNumber,
    C_InvalidMap := C_InvalidMap,
    m_InvalidMap := PySem.W.mg_of X G aC_InvalidMap,
    ctk := ct_mk (forall_cons ⟨C_InvalidNumber, PySem.W.mg_of X G aC_InvalidNumber, clsOk_of ga_InvalidNumber gg_InvalidNumber exC_InvalidNumber hd_InvalidNumber ha_InvalidNumber hn0 ht0 hm_InvalidNumber icC_InvalidNumber, (forall_cons nf_InvalidNumber_value forall_nil)⟩ (forall_cons ⟨C_InvalidMap, PySem.W.mg_of X G aC_InvalidMap, clsOk_of ga_InvalidMap gg_InvalidMap exC_InvalidMap hd_InvalidMap ha_InvalidMap hn0 ht0 hm_InvalidMap icC_InvalidMap, (forall_cons nf_InvalidMap_value forall_nil)⟩ forall_nil)) }
  exact ⟨T.f_law.fd, fun s v => .of_eq rfl, fun base _ _ => (ok_law T).imp fun vs H Q E h => law_sp law_true h⟩
end K55
end Py
open PySem PySem.W PyProof.Rows
set_option maxHeartbeats 0 in
theorem PySem.Challenge.cw_nearrealm_k55_whole_one_curve_holds : PySem.Challenge.rw_nearrealm_k55_whole_one_curve.Holds := by
  w_on; o_law; k_head; (case hw => w_witness2)
  k_fill
  refine Py.walk_prom (l := PySem.Challenge.rw_nearrealm_k55_whole_one_curve) (n := 63) (k := 10) (x := "script") (sp := fun w => Py.spLaw _) rfl (by decide) rfl ⟨⟨rfl, by decide, by decide⟩, rfl⟩ (fun w h Y => PySem.W.kIn_of Y) ?F (fun _ _ a ns hl _ hS => ⟨a, ns, rfl, hS, hl, fun _ => rfl⟩) (fun _ _ _ _ _ h => Py.cx_never h)
  case F =>
    intro w mg fa h KX G hmg
    refine' Py.K55.all_mk KX G hmg ?a_is_integer ?l_is_integer ?c_is_integer ?k_is_integer ?a_is_number ?l_is_number ?c_is_number ?k_is_number ?a_is_below ?l_is_below ?c_is_below ?k_is_below ?a_row_below ?l_row_below ?c_row_below ?k_row_below ?a_ways_of ?l_ways_of ?c_ways_of ?k_ways_of ?a_is_prime ?l_is_prime ?c_is_prime ?k_is_prime ?a_check_prime ?l_check_prime ?c_check_prime ?k_check_prime ?a_check_table ?l_check_table ?c_check_table ?k_check_table ?a_check_degree ?l_check_degree ?c_check_degree ?k_check_degree ?a_factors_of ?l_factors_of ?c_factors_of ?k_factors_of ?a_step_sum ?l_step_sum ?c_step_sum ?k_step_sum ?a_broken_steps ?l_broken_steps ?c_broken_steps ?k_broken_steps ?a_step_votes ?l_step_votes ?c_step_votes ?k_step_votes ?a_is_near ?l_is_near ?c_is_near ?k_is_near ?a_inverse_of ?l_inverse_of ?c_inverse_of ?k_inverse_of ?a_times_less ?l_times_less ?c_times_less ?k_times_less ?a_value_of ?l_value_of ?c_value_of ?k_value_of ?a_curve_through ?l_curve_through ?c_curve_through ?k_curve_through ?a_places_apart ?l_places_apart ?c_places_apart ?k_places_apart ?a_close_curve ?l_close_curve ?c_close_curve ?k_close_curve ?a_is_curve ?l_is_curve ?c_is_curve ?k_is_curve ?a_value_at ?l_value_at ?c_value_at ?k_value_at ?a_wrong_on ?l_wrong_on ?c_wrong_on ?k_wrong_on ?a__law_draws ?l__law_draws ?c__law_draws ?k__law_draws ?a__law_take ?l__law_take ?c__law_take ?k__law_take ?a__law_prime ?l__law_prime ?c__law_prime ?k__law_prime ?a__law_value ?l__law_value ?c__law_value ?k__law_value ?a__law_curve ?l__law_curve ?c__law_curve ?k__law_curve ?a__law_turned ?l__law_turned ?c__law_turned ?k__law_turned ?a__law_steps ?l__law_steps ?c__law_steps ?k__law_steps ?a__law_broken ?l__law_broken ?c__law_broken ?k__law_broken ?a__law_votes ?l__law_votes ?c__law_votes ?k__law_votes ?a__law_near ?l__law_near ?c__law_near ?k__law_near ?a__law_is_small ?l__law_is_small ?c__law_is_small ?k__law_is_small ?a_law ?l_law ?c_law ?k_law ?z_abs ?z_all ?z_bool ?z_enumerate ?z_int ?z_isinstance ?z_len ?z_list ?z_max ?z_min ?z_range ?z_repr ?z_reversed ?z_sum ?z_tuple ?z_zip ?v_MOST_PRIME ?v_MOST_DEGREE ?v_MOST_NUMBERS ?aC_InvalidNumber ?exC_InvalidNumber ?icC_InvalidNumber ?tyC_InvalidNumber ?aC_InvalidMap ?exC_InvalidMap ?icC_InvalidMap ?tyC_InvalidMap ?hn0 ?ht0 ?lC_InvalidNumber ?rC_InvalidNumber ?sa_InvalidNumber ?kC_InvalidNumber ?ga_InvalidNumber ?gg_InvalidNumber ?hd_InvalidNumber ?ha_InvalidNumber ?hm_InvalidNumber ?iC_InvalidNumber ?ti_InvalidNumber ?lI_InvalidNumber ?cI_InvalidNumber ?kI_InvalidNumber ?nf_InvalidNumber_value ?lC_InvalidMap ?rC_InvalidMap ?sa_InvalidMap ?kC_InvalidMap ?ga_InvalidMap ?gg_InvalidMap ?hd_InvalidMap ?ha_InvalidMap ?hm_InvalidMap ?iC_InvalidMap ?ti_InvalidMap ?lI_InvalidMap ?cI_InvalidMap ?kI_InvalidMap ?nf_InvalidMap_value
    (case a_is_integer => k_is)
    (case l_is_integer => k_is)
    (case c_is_integer => k_is)
    (case k_is_integer => k_is)
    (case a_is_number => k_is)
    (case l_is_number => k_is)
    (case c_is_number => k_is)
    (case k_is_number => k_is)
    (case a_is_below => k_is)
    (case l_is_below => k_is)
    (case c_is_below => k_is)
    (case k_is_below => k_is)
    (case a_row_below => k_is)
    (case l_row_below => k_is)
    (case c_row_below => k_is)
    (case k_row_below => k_is)
    (case a_ways_of => k_is)
    (case l_ways_of => k_is)
    (case c_ways_of => k_is)
    (case k_ways_of => k_is)
    (case a_is_prime => k_is)
    (case l_is_prime => k_is)
    (case c_is_prime => k_is)
    (case k_is_prime => k_is)
    (case a_check_prime => k_is)
    (case l_check_prime => k_is)
    (case c_check_prime => k_is)
    (case k_check_prime => k_is)
    (case a_check_table => k_is)
    (case l_check_table => k_is)
    (case c_check_table => k_is)
    (case k_check_table => k_is)
    (case a_check_degree => k_is)
    (case l_check_degree => k_is)
    (case c_check_degree => k_is)
    (case k_check_degree => k_is)
    (case a_factors_of => k_is)
    (case l_factors_of => k_is)
    (case c_factors_of => k_is)
    (case k_factors_of => k_is)
    (case a_step_sum => k_is)
    (case l_step_sum => k_is)
    (case c_step_sum => k_is)
    (case k_step_sum => k_is)
    (case a_broken_steps => k_is)
    (case l_broken_steps => k_is)
    (case c_broken_steps => k_is)
    (case k_broken_steps => k_is)
    (case a_step_votes => k_is)
    (case l_step_votes => k_is)
    (case c_step_votes => k_is)
    (case k_step_votes => k_is)
    (case a_is_near => k_is)
    (case l_is_near => k_is)
    (case c_is_near => k_is)
    (case k_is_near => k_is)
    (case a_inverse_of => k_is)
    (case l_inverse_of => k_is)
    (case c_inverse_of => k_is)
    (case k_inverse_of => k_is)
    (case a_times_less => k_is)
    (case l_times_less => k_is)
    (case c_times_less => k_is)
    (case k_times_less => k_is)
    (case a_value_of => k_is)
    (case l_value_of => k_is)
    (case c_value_of => k_is)
    (case k_value_of => k_is)
    (case a_curve_through => k_is)
    (case l_curve_through => k_is)
    (case c_curve_through => k_is)
    (case k_curve_through => k_is)
    (case a_places_apart => k_is)
    (case l_places_apart => k_is)
    (case c_places_apart => k_is)
    (case k_places_apart => k_is)
    (case a_close_curve => k_is)
    (case l_close_curve => k_is)
    (case c_close_curve => k_is)
    (case k_close_curve => k_is)
    (case a_is_curve => k_is)
    (case l_is_curve => k_is)
    (case c_is_curve => k_is)
    (case k_is_curve => k_is)
    (case a_value_at => k_is)
    (case l_value_at => k_is)
    (case c_value_at => k_is)
    (case k_value_at => k_is)
    (case a_wrong_on => k_is)
    (case l_wrong_on => k_is)
    (case c_wrong_on => k_is)
    (case k_wrong_on => k_is)
    (case a__law_draws => k_is)
    (case l__law_draws => k_is)
    (case c__law_draws => k_is)
    (case k__law_draws => k_is)
    (case a__law_take => k_is)
    (case l__law_take => k_is)
    (case c__law_take => k_is)
    (case k__law_take => k_is)
    (case a__law_prime => k_is)
    (case l__law_prime => k_is)
    (case c__law_prime => k_is)
    (case k__law_prime => k_is)
    (case a__law_value => k_is)
    (case l__law_value => k_is)
    (case c__law_value => k_is)
    (case k__law_value => k_is)
    (case a__law_curve => k_is)
    (case l__law_curve => k_is)
    (case c__law_curve => k_is)
    (case k__law_curve => k_is)
    (case a__law_turned => k_is)
    (case l__law_turned => k_is)
    (case c__law_turned => k_is)
    (case k__law_turned => k_is)
    (case a__law_steps => k_is)
    (case l__law_steps => k_is)
    (case c__law_steps => k_is)
    (case k__law_steps => k_is)
    (case a__law_broken => k_is)
    (case l__law_broken => k_is)
    (case c__law_broken => k_is)
    (case k__law_broken => k_is)
    (case a__law_votes => k_is)
    (case l__law_votes => k_is)
    (case c__law_votes => k_is)
    (case k__law_votes => k_is)
    (case a__law_near => k_is)
    (case l__law_near => k_is)
    (case c__law_near => k_is)
    (case k__law_near => k_is)
    (case a__law_is_small => k_is)
    (case l__law_is_small => k_is)
    (case c__law_is_small => k_is)
    (case k__law_is_small => k_is)
    (case a_law => k_is)
    (case l_law => k_is)
    (case c_law => k_is)
    (case k_law => k_is)
    (case z_abs => k_is)
    (case z_all => k_is)
    (case z_bool => k_is)
    (case z_enumerate => k_is)
    (case z_int => k_is)
    (case z_isinstance => k_is)
    (case z_len => k_is)
    (case z_list => k_is)
    (case z_max => k_is)
    (case z_min => k_is)
    (case z_range => k_is)
    (case z_repr => k_is)
    (case z_reversed => k_is)
    (case z_sum => k_is)
    (case z_tuple => k_is)
    (case z_zip => k_is)
    (case v_MOST_PRIME => k_is)
    (case v_MOST_DEGREE => k_is)
    (case v_MOST_NUMBERS => k_is)
    (case aC_InvalidNumber => k_is)
    (case exC_InvalidNumber => k_is)
    (case icC_InvalidNumber => k_is)
    (case tyC_InvalidNumber => k_is)
    (case aC_InvalidMap => k_is)
    (case exC_InvalidMap => k_is)
    (case icC_InvalidMap => k_is)
    (case tyC_InvalidMap => k_is)
    (case hn0 => k_is)
    (case ht0 => k_is)
    (case lC_InvalidNumber => k_is)
    (case rC_InvalidNumber => decide +kernel)
    (case sa_InvalidNumber => k_is)
    (case kC_InvalidNumber => k_is)
    (case ga_InvalidNumber => k_is)
    (case gg_InvalidNumber => k_is)
    (case hd_InvalidNumber => k_is)
    (case ha_InvalidNumber => k_is)
    (case hm_InvalidNumber => k_is)
    (case iC_InvalidNumber => k_is)
    (case ti_InvalidNumber => k_is)
    (case lI_InvalidNumber => k_is)
    (case cI_InvalidNumber => k_is)
    (case kI_InvalidNumber => k_is)
    (case nf_InvalidNumber_value => k_is)
    (case lC_InvalidMap => k_is)
    (case rC_InvalidMap => decide +kernel)
    (case sa_InvalidMap => k_is)
    (case kC_InvalidMap => k_is)
    (case ga_InvalidMap => k_is)
    (case gg_InvalidMap => k_is)
    (case hd_InvalidMap => k_is)
    (case ha_InvalidMap => k_is)
    (case hm_InvalidMap => k_is)
    (case iC_InvalidMap => k_is)
    (case ti_InvalidMap => k_is)
    (case lI_InvalidMap => k_is)
    (case cI_InvalidMap => k_is)
    (case kI_InvalidMap => k_is)
    (case nf_InvalidMap_value => k_is)
end
