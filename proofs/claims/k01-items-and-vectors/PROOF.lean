import PyProof.Rows.All
import Wide.All
import OpenK.AllK
import Wide.FinOn
import HandS.ForMost
import HandS.Exc
import HandS.Flow
import HandS.TupAny
import HandS.Wide
import HandS.IsInst
import HandS.Defaults
import HandS.RaiseMore
import HandS.Zip
import KE.GoesEnum
import KE.GoesMore
import HandS.ExcOwn
import HandS.HeadHook4
import HandS.HeadEnd
import HandS.Head2
import Lean
import KE.KStateDown
import PySem.Challenge.RW_everymerge_k01_items_and_vectors
set_option Elab.async false
set_option linter.all false
set_option maxRecDepth 100000
set_option maxHeartbeats 0
/-! Ip1: a small interpreter for the Python that the program and the laws are written in. Plain Lean. -/
namespace Ip
noncomputable section
open PySem

/-- values: what never changes stands as it is; obj k: a list, a dict or an instance that may change -/
inductive W where
  | non | bl (b : Bool) | int (i : Int) | str (s : Str)
  | tup (xs : List W) | lst (xs : List W) | dic (ks vs : List W)
  | ins (c : Nat) (fs : List W) | obj (k : Nat) | exn (c : Nat) (p : W)
  deriving Inhabited

inductive Ob where
  | lst (xs : List W) | dic (ks vs : List W) | ins (c : Nat) (fs : List (Option W))

structure Sto where
  n : Nat
  m : Nat → Option Ob

def Sto.put (st : Sto) (k : Nat) (o : Ob) : Sto := ⟨st.n, fun j => if j = k then some o else st.m j⟩
def Sto.del (st : Sto) (k : Nat) : Sto := ⟨st.n, fun j => if j = k then none else st.m j⟩
def Sto.new (st : Sto) (o : Ob) : Sto := ⟨st.n + 1, fun j => if j = st.n then some o else st.m j⟩

inductive RR (α : Type) where
  | ok (a : α) (st : Sto) | exc (c : Nat) (p : W) (st : Sto) | stuck

abbrev M (α : Type) := Sto → RR α
def M.ret {α : Type} (a : α) : M α := fun st => .ok a st
def M.bad {α : Type} : M α := fun _ => .stuck
def M.bnd {α β : Type} (m : M α) (f : α → M β) : M β := fun st =>
  match m st with
  | .ok a s => f a s
  | .exc c p s => .exc c p s
  | .stuck => .stuck
def M.opt {α : Type} : Option α → M α
  | some a => M.ret a
  | none => M.bad
/-- no error may leave -/
def M.calm {α : Type} (m : M α) : M α := fun st =>
  match m st with
  | .exc _ _ _ => .stuck
  | r => r

inductive Bop where
  | add | sub | mul | fdiv | mod | pow
  deriving DecidableEq
inductive Cop where
  | eq | ne | lt | le | gt | ge | is_ | isn | in_ | nin
  deriving DecidableEq
inductive Ty where
  | int | bool | str | tup | lst | dic | cls (c : Nat) | verr
  deriving DecidableEq
inductive Bf where
  | len | abs | int | tuple | all | any | sum | max | min | repr | str | ord | max2 | min2 | bool | max0
  deriving DecidableEq
inductive Bm where
  | append | extend | pop | popAt | insert | remove | index | count | get | get1 | setd | values
  deriving DecidableEq

inductive Tg where
  | nm (i : Nat) | tp (ts : List Tg)

mutual
inductive Ex where
  | var (i : Nat) | cst (w : W) | glo (n : Nat) | omit
  | bin (o : Bop) (a b : Ex) | neg (a : Ex) | nt (a : Ex) | and (a b : Ex) | or (a b : Ex) | ite (c a b : Ex)
  | cmp (o : Cop) (a b : Ex) | chn (o o' : Cop) (a b c : Ex)
  | call (f : Nat) (as : List Ex) | new (c : Nat) (as : List Ex) | meth (r : Ex) (m : Nat) (as : List Ex) | att (r : Ex) (f : Nat)
  | blt (b : Bf) (as : List Ex) | bm (b : Bm) (r : Ex) (as : List Ex) | isi (a : Ex) (ts : List Ty)
  | idx (a i : Ex) | sl (a lo hi : Ex) | tup (es : List Ex)
  | fz (f : Fx) | ow (f : Fx) | frz (a : Ex)
inductive Fx where
  | dis (es : List Ex) | cop (a : Ex) | cat (a b : Ex) | slc (a lo hi : Ex) | lcp (own : List Nat) (t : Tg) (i : Ik) (c : Ex) (e : Ex) | srt (a : Ex) | cod (d : Ex)
inductive Ik where
  | ex (e : Ex) | r1 (e : Ex) | r2 (a b : Ex) | en (e : Ex) | zp (a b : Ex)
end

inductive Stm where
  | set (i : Nat) (e : Ex) | unp (t : Tg) (e : Ex) | par (i j : Nat) (a b : Ex)
  | seti (o i e : Ex) | seta (o : Ex) (f : Nat) (e : Ex)
  | aug (i : Nat) (o : Bop) (e : Ex)
  | ex (e : Ex) | ret (e : Ex) | ret0
  | ife (c : Ex) (a b : List Stm) | for_ (t : Tg) (i : Ik) (b : List Stm) | whl (n : Nat) (c : Ex) (b : List Stm)
  | rse (c : Nat) (as : List Ex) | pass | brk | cnt
  | tr (b : List Stm) (c : Nat) (i : Nat) (h : List Stm)

structure Fn where
  np : Nat
  ns : Nat
  dfl : List W
  body : List Stm
/-- a class: its fields by their numbers, its methods and properties (number of the name, number of the def); an error's class: its chain of bases -/
structure Cl where
  fld : List Nat
  mth : List (Nat × Nat)
  prp : List (Nat × Nat)
  ini : Option Nat
  up : List Nat
structure Tab where
  fns : List Fn
  cls : List Cl
  glo : List W

/-! ### operations -/
mutual
def toPy : W → Option PyData
  | .non => some .none
  | .bl b => some (.bool b)
  | .int i => some (.int i)
  | .str s => some (.str s)
  | .tup xs => (toPys xs).map .tuple
  | .lst xs => (toPys xs).map .list
  | .dic _ _ => none
  | .ins _ _ => none
  | .obj _ => none
  | .exn _ _ => none
def toPys : List W → Option (List PyData)
  | [] => some []
  | x :: xs => (toPy x).bind fun d => (toPys xs).map fun ds => d :: ds
end
/-- a list that may change, as it stands -/
def view (st : Sto) : W → W
  | .obj k => match st.m k with
    | some (.lst xs) => .lst xs
    | _ => .obj k
  | w => w
def lstOf (st : Sto) (w : W) : Option (List W) := match view st w with
  | .lst xs => some xs
  | _ => none
def seqOf (st : Sto) (w : W) : Option (List W) := match view st w with
  | .lst xs => some xs
  | .tup xs => some xs
  | _ => none
def W.int? : W → Option Int
  | .int i => some i
  | _ => none
def W.bl? : W → Option Bool
  | .bl b => some b
  | _ => none
def wInts : List W → Option (List Int)
  | [] => some []
  | .int i :: r => (wInts r).map (i :: ·)
  | _ :: _ => none
def wBls : List W → Option (List Bool)
  | [] => some []
  | .bl i :: r => (wBls r).map (i :: ·)
  | _ :: _ => none

def tru (st : Sto) (w : W) : Option Bool := match w with
  | .non => some false
  | .bl b => some b
  | .int i => some (i != 0)
  | .str s => if s.length ≤ sizeLine then some ((s.length : Int) != 0) else none
  | .tup xs => some (!xs.isEmpty)
  | .lst xs => some (!xs.isEmpty)
  | .obj k => match st.m k with
    | some (.lst xs) => some (!xs.isEmpty)
    | _ => none
  | _ => none

/-- a value that is reckoned from values; nothing changes -/
def M.look {α : Type} (f : Sto → Option α) : M α := fun st => match f st with
  | some a => .ok a st
  | none => .stuck

def bop (o : Bop) (x y : W) (st : Sto) : Option W := match o, x, y with
  | .add, .int i, .int j => some (.int (i + j))
  | .add, .str a, .str b => if a.length + b.length ≤ sizeLine then some (.str (a ++ b)) else none
  | .add, .tup xs, .tup ys => if xs.length + ys.length ≤ sizeLine then some (.tup (xs ++ ys)) else none
  | .add, x, y => (lstOf st x).bind fun xs => (lstOf st y).bind fun ys => if xs.length + ys.length ≤ sizeLine then some (.lst (xs ++ ys)) else none
  | .sub, .int i, .int j => some (.int (i - j))
  | .mul, .int i, .int j => if i.natAbs.log2 + j.natAbs.log2 < 1000000 then some (.int (i * j)) else none
  | .fdiv, .int i, .int j => if 0 < j ∧ j.natAbs.log2 < 9000 then some (.int (i / j)) else none
  | .mod, .int i, .int j => if 0 < j then some (.int (i % j)) else none
  | .pow, .int i, .int j => if 0 ≤ j ∧ j ≤ 1000000 ∧ i.natAbs < 2 ^ 64 then some (.int (i ^ j.toNat)) else none
  | _, _, _ => none

/-- x op= y where nothing is changed in place -/
def iop (o : Bop) (x y : W) (st : Sto) : Option W := match o, x, y with
  | .add, .int i, .int j => some (.int (i + j))
  | .sub, .int i, .int j => some (.int (i - j))
  | .mul, .int i, .int j => if i.natAbs.log2 + j.natAbs.log2 < 1000000 then some (.int (i * j)) else none
  | .add, .str a, .str b => if a.length + b.length ≤ sizeLine then some (.str (a ++ b)) else none
  | _, _, _ => none
def strs? (x y : W) : Option (Str × Str) := match x, y with
  | .str a, .str b => some (a, b)
  | _, _ => none
def eqW (x y : W) (st : Sto) : Option Bool := match strs? x y with
  | some p => some (decide (p.1 = p.2))
  | none => (toPy (view st x)).bind fun d => (toPy (view st y)).bind fun e => if SeqAt.shaped d = true ∧ SeqAt.shaped e = true then some (PyData.eqv d e) else none
def inW (x y : W) (st : Sto) : Option Bool := match x, y with
  | .str a, .str b => some (!(Builtin.Str.occurrences b a 0 b.length 1).isEmpty)
  | _, _ => none
def cop (o : Cop) (x y : W) (st : Sto) : Option W := match o with
  | .eq => (eqW x y st).map .bl
  | .ne => (eqW x y st).map fun b => .bl (!b)
  | .lt => match x, y with
    | .int i, .int j => some (.bl (decide (i < j)))
    | .tup xs, .tup ys => (wInts xs).bind fun ns => (wInts ys).bind fun ms => some (.bl (HT.lexLt ns ms))
    | _, _ => none
  | .le => match x, y with
    | .int i, .int j => some (.bl (decide (i ≤ j)))
    | _, _ => none
  | .gt => match x, y with
    | .int i, .int j => some (.bl (decide (j < i)))
    | _, _ => none
  | .ge => match x, y with
    | .int i, .int j => some (.bl (decide (j ≤ i)))
    | _, _ => none
  | .is_ => match x, y with
    | .non, .non => some (.bl true)
    | .exn _ _, _ => none
    | _, .non => some (.bl false)
    | _, _ => none
  | .isn => match x, y with
    | .non, .non => some (.bl false)
    | .exn _ _, _ => none
    | _, .non => some (.bl true)
    | _, _ => none
  | .in_ => (inW x y st).map .bl
  | .nin => (inW x y st).map fun b => .bl (!b)

def vadd : W → W → Option W := fun _ _ => none
def bfn (b : Bf) (xs : List W) (st : Sto) : Option W := match b, xs with
  | .len, [x] => match x with
    | .str s => if s.length ≤ sizeLine then some (.int s.length) else none
    | x => (seqOf st x).map fun l => .int l.length
  | .abs, [.int i] => some (.int (if i < 0 then -i else i))
  | .int, [.int i] => some (.int i)
  | .int, [.bl b] => some (.int (if b then 1 else 0))
  | .tuple, [x] => (seqOf st x).map .tup
  | .all, [x] => (lstOf st x).bind fun l => (wBls l).map fun bs => .bl (bs.all id)
  | .any, [x] => (lstOf st x).bind fun l => (wBls l).map fun bs => .bl (bs.any id)
  | .sum, [x] => (lstOf st x).bind fun l => (wInts l).map fun ns => .int ns.sum
  | .max2, [.int i, .int j] => some (.int (if j > i then j else i))
  | .min2, [.int i, .int j] => some (.int (if j < i then j else i))
  | .repr, [x] => (toPy (view st x)).bind fun d => if SeqAt.shaped d = true ∧ d.showable = true ∧ d.shown.length ≤ sizeLine then some (.str d.shown) else none
  | _, _ => none

/-- the name of a value's built-in type -/
def tyN (st : Sto) (w : W) : Option String := match w with
  | .non => some "NoneType"
  | .bl _ => some "bool"
  | .int _ => some "int"
  | .str _ => some "str"
  | .tup _ => some "tuple"
  | .lst _ => some "list"
  | .obj k => match st.m k with
    | some (.lst _) => some "list"
    | _ => none
  | _ => none
def tyC : Ty → Option String
  | .int => some "int"
  | .bool => some "bool"
  | .str => some "str"
  | .tup => some "tuple"
  | .lst => some "list"
  | .dic => some "dict"
  | _ => none
def isTy (st : Sto) (w : W) (t : Ty) : Option Bool := (tyN st w).bind fun a => (tyC t).map fun b => a == b || (a == "bool" && b == "int")
def isTys (st : Sto) (w : W) : List Ty → Option Bool
  | [] => some false
  | t :: ts => (isTy st w t).bind fun b => if b then some true else isTys st w ts

def idxW (x i : W) (st : Sto) : Option W := match view st x, i with
  | .lst xs, .int j => L2.atI xs j
  | .tup xs, .int j => L2.atI xs j
  | .str s, .int j => if s.length ≤ sizeLine then (L2.atI s.cps.toList j).map fun c => .str ⟨#[c]⟩ else none
  | _, _ => none
/-- a slice's bound: nothing is written, or an int -/
def prt (e : Ex) (w : W) : Option (Option Int) := match e with
  | .omit => some none
  | _ => w.int?.map some
def cutW (xs : List W) (lo hi : Option Int) : List W :=
  (xs.drop (HT.sIx xs.length 0 lo)).take (HT.sIx xs.length xs.length hi - HT.sIx xs.length 0 lo)
/-- a slice; of a list: a new list, which does not change -/
def slW (x : W) (l h : Option Int) (st : Sto) : Option W := match view st x with
  | .lst xs => some (.lst (cutW xs l h))
  | .tup xs => some (.tup (cutW xs l h))
  | .str s => if s.length ≤ sizeLine then some (.str (L2.cutS s l h)) else none
  | _ => none

/-! ### fields -/
def Cl.at_ (c : Cl) (f : Nat) : Option Nat := c.fld.idxOf? f
def Tab.cl (T : Tab) (c : Nat) : Option Cl := T.cls[c]?
def insOf (st : Sto) : W → Option (Nat × List (Option W))
  | .ins c fs => some (c, fs.map some)
  | .obj k => match st.m k with
    | some (.ins c fs) => some (c, fs)
    | _ => none
  | _ => none
def getF (T : Tab) (st : Sto) (w : W) (f : Nat) : Option W :=
  (insOf st w).bind fun p => (T.cl p.1).bind fun c => (c.at_ f).bind fun i => (p.2[i]?).bind id

/-! ### freezing: what will not change any more -/
mutual
def frzW : Nat → W → Sto → Option (W × Sto)
  | 0, _, _ => none
  | _ + 1, .tup xs, st => some (.tup xs, st)
  | _ + 1, .lst xs, st => some (.lst xs, st)
  | n + 1, .obj k, st => match st.m k with
    | some (.lst xs) => (frzL n xs (st.del k)).map fun p => (.lst p.1, p.2)
    | some (.ins c fs) => (frzO n fs (st.del k)).map fun p => (.ins c p.1, p.2)
    | _ => none
  | _ + 1, w, st => some (w, st)
def frzL : Nat → List W → Sto → Option (List W × Sto)
  | _, [], st => some ([], st)
  | 0, _ :: _, _ => none
  | n + 1, x :: xs, st => (frzW (n + 1) x st).bind fun p => (frzL (n + 1) xs p.2).map fun q => (p.1 :: q.1, q.2)
def frzO : Nat → List (Option W) → Sto → Option (List W × Sto)
  | _, [], st => some ([], st)
  | _, none :: _, _ => none
  | 0, _ :: _, _ => none
  | n + 1, some x :: xs, st => (frzW (n + 1) x st).bind fun p => (frzO (n + 1) xs p.2).map fun q => (p.1 :: q.1, q.2)
end

/-! ### the run -/
abbrev En := List (Option W)
abbrev CF := Nat → List W → M W
inductive RS where
  | nx (r : En) (st : Sto) | rt (w : W) (st : Sto) | bk (r : En) (st : Sto) | ct (r : En) (st : Sto) | exc (c : Nat) (p : W) (r : En) (st : Sto) | stuck

def wipeE (r : En) : List Nat → En
  | [] => r
  | v :: vs => (wipeE r vs).set v none
mutual
def bindT : Tg → W → En → Option En
  | .nm i, x, r => some (r.set i (some x))
  | .tp ts, x, r => match x with
    | .tup xs => bindTs ts xs r
    | _ => none
def bindTs : List Tg → List W → En → Option En
  | [], [], r => some r
  | t :: ts, x :: xs, r => (bindT t x r).bind fun r' => bindTs ts xs r'
  | _, _, _ => none
end

/-- what is walked: the items, and the lists that must stay as they are meanwhile -/
structure Wk where
  xs : List W
  gd : List (Nat × List W)
def gdOf (st : Sto) (w : W) : Option (List W × List (Nat × List W)) := match w with
  | .lst xs => some (xs, [])
  | .obj k => match st.m k with
    | some (.lst xs) => some (xs, [(k, xs)])
    | _ => none
  | _ => none
def stays (st : Sto) : List (Nat × List W) → Prop
  | [] => True
  | (k, xs) :: r => st.m k = some (.lst xs) ∧ stays st r

def walkEx (w : W) (st : Sto) : Option Wk := match w with
  | .tup xs => some ⟨xs, []⟩
  | .str s => some ⟨s.cps.toList.map fun c => .str ⟨#[c]⟩, []⟩
  | w => (gdOf st w).map fun p => ⟨p.1, p.2⟩
def rngW (a b : Int) : Option Wk :=
  if -(2 ^ 62) ≤ a ∧ a < 2 ^ 62 ∧ -(2 ^ 62) ≤ b ∧ b < 2 ^ 62 then some ⟨(List.range (b - a).toNat).map fun i => .int (a + (i : Nat)), []⟩ else none
def enumFrom : Nat → List W → List W
  | _, [] => []
  | i, x :: xs => .tup [.int (i : Nat), x] :: enumFrom (i + 1) xs
def zipW : List W → List W → List W
  | x :: xs, y :: ys => .tup [x, y] :: zipW xs ys
  | _, _ => []
def enW (w : W) (st : Sto) : Option Wk := match w with
  | .tup xs => some ⟨enumFrom 0 xs, []⟩
  | w => (gdOf st w).map fun p => ⟨enumFrom 0 p.1, p.2⟩
def zpW (v w : W) (st : Sto) : Option Wk := match v, w with
  | .tup xs, .tup ys => some ⟨zipW xs ys, []⟩
  | v, w => (gdOf st v).bind fun p => (gdOf st w).map fun q => ⟨zipW p.1 q.1, p.2 ++ q.2⟩
/-- a list's items for a comprehension, one after another -/
def lcRun (gd : List (Nat × List W)) (turn : W → M (Option W)) : List W → List W → M (List W)
  | [], acc => fun st => open Classical in if stays st gd then .ok acc st else .stuck
  | x :: xs, acc => fun st => open Classical in
    if stays st gd ∧ acc.length < sizeLine then (turn x).bnd (fun o => lcRun gd turn xs (match o with | some y => acc ++ [y] | none => acc)) st else .stuck
def forRun (gd : List (Nat × List W)) (body : W → En → Sto → RS) : List W → En → Sto → RS
  | [], r, st => open Classical in if stays st gd then .nx r st else .stuck
  | x :: xs, r, st => open Classical in
    if stays st gd then
      match body x r st with
      | .nx r' st' => forRun gd body xs r' st'
      | .ct r' st' => forRun gd body xs r' st'
      | .bk r' st' => .nx r' st'
      | o => o
    else .stuck
def whlRun (cond : En → M Bool) (body : En → Sto → RS) : Nat → En → Sto → RS
  | 0, _, _ => .stuck
  | n + 1, r, st => match cond r st with
    | .ok true st' => match body r st' with
      | .nx r' st' => whlRun cond body n r' st'
      | .ct r' st' => whlRun cond body n r' st'
      | .bk r' st' => .nx r' st'
      | o => o
    | .ok false st' => .nx r st'
    | .exc c p st' => .exc c p r st'
    | .stuck => .stuck

def bmF (b : Bm) (x : W) (xs : List W) (st : Sto) : Option (W × Sto) := match b, x, xs with
  | .append, .obj k, [y] => match st.m k with
    | some (.lst ys) => if ys.length < sizeLine then some (.non, st.put k (.lst (ys ++ [y]))) else none
    | _ => none
  | .pop, .obj k, [] => match st.m k with
    | some (.lst ys) => (ys[ys.length - 1]?).map fun y => (y, st.put k (.lst ys.dropLast))
    | _ => none
  | .popAt, .obj k, [.int i] => match st.m k with
    | some (.lst ys) => if -(2 ^ 63) ≤ i ∧ i < 2 ^ 63 then (seqIndex? i ys.length).bind fun j => (ys[j]?).map fun y => (y, st.put k (.lst (ys.eraseIdx j))) else none
    | _ => none
  | .extend, .obj k, [y] => match st.m k with
    | some (.lst ys) => (lstOf st y).bind fun zs => if ys.length + zs.length ≤ sizeLine then some (.non, st.put k (.lst (ys ++ zs))) else none
    | _ => none
  | _, _, _ => none
/-- of what kind a method's object is -/
def bmG (b : Bm) (x : W) (st : Sto) : Option Unit := match b with
  | .append => (lstOf st x).map fun _ => ()
  | .extend => (lstOf st x).map fun _ => ()
  | .pop => (lstOf st x).map fun _ => ()
  | .popAt => (lstOf st x).map fun _ => ()
  | _ => none
def M.upd {α : Type} (f : Sto → Option (α × Sto)) : M α := fun st => match f st with
  | some p => .ok p.1 p.2
  | none => .stuck
def setI (x i y : W) (st : Sto) : Option Sto := match x, i with
  | .obj k, .int j => match st.m k with
    | some (.lst xs) => (L2.ixN xs.length j).map fun n => st.put k (.lst (xs.set n y))
    | _ => none
  | _, _ => none
def setF (T : Tab) (x : W) (f : Nat) (y : W) (st : Sto) : Option Sto := match x with
  | .obj k => match st.m k with
    | some (.ins c fs) => (T.cl c).bind fun cl => (cl.at_ f).map fun i => st.put k (.ins c (fs.set i (some y)))
    | _ => none
  | _ => none
def getV (r : En) (i : Nat) : M W := M.opt ((r[i]?).bind id)

section
variable (T : Tab) (cf : CF)
def readF (w : W) (f : Nat) : M W := fun st =>
  match (insOf st w).bind fun p => T.cl p.1 with
  | some c => match c.prp.lookup f with
    | some g => cf g [w] st
    | none => M.look (fun st => getF T st w f) st
  | none => .stuck
def callM (w : W) (m : Nat) (as : List W) : M W := fun st =>
  match (insOf st w).bind fun p => (T.cl p.1).bind fun c => c.mth.lookup m with
  | some g => cf g (w :: as) st
  | none => .stuck
def newI (c : Nat) (as : List W) : M W := fun st =>
  match T.cl c with
  | some cl => match cl.ini with
    | some g => ((cf g (.obj st.n :: as)).bnd fun _ => M.ret (.obj st.n)) (st.new (.ins c (cl.fld.map fun _ => none)))
    | none => .stuck
  | none => .stuck
def M.truth (w : W) : M Bool := M.look fun st => tru st w
mutual
def ev : Ex → En → M W
  | .var i, r => getV r i
  | .cst w, _ => M.ret w
  | .glo n, _ => M.opt (T.glo[n]?)
  | .omit, _ => M.ret .non
  | .bin o a b, r => (ev a r).bnd fun x => (ev b r).bnd fun y => M.look (bop o x y)
  | .neg a, r => (ev a r).bnd fun x => M.opt (x.int?.map fun i => .int (-i))
  | .nt a, r => (ev a r).bnd fun x => (M.truth x).bnd fun b => M.ret (.bl (!b))
  | .and a b, r => (ev a r).bnd fun x => (M.truth x).bnd fun k => if k then ev b r else M.ret x
  | .or a b, r => (ev a r).bnd fun x => (M.truth x).bnd fun k => if k then M.ret x else ev b r
  | .ite c a b, r => (ev c r).bnd fun x => (M.truth x).bnd fun k => if k then ev a r else ev b r
  | .cmp o a b, r => (ev a r).bnd fun x => (ev b r).bnd fun y => M.look (cop o x y)
  | .chn o o' a b c, r => (ev a r).bnd fun x => (ev b r).bnd fun y => (M.look (cop o x y)).bnd fun k => (M.opt k.bl?).bnd fun k => if k then (ev c r).bnd fun z => M.look (cop o' y z) else M.ret (.bl false)
  | .call f as, r => (evs as r).bnd fun xs => cf f xs
  | .new c as, r => (evs as r).bnd fun xs => newI T cf c xs
  | .meth e m as, r => (ev e r).bnd fun x => (evs as r).bnd fun xs => callM T cf x m xs
  | .att e f, r => (ev e r).bnd fun x => readF T cf x f
  | .blt b as, r => (evs as r).bnd fun xs => M.look (bfn b xs)
  | .bm b e as, r => (ev e r).bnd fun x => (M.look (bmG b x)).bnd fun _ => (evs as r).bnd fun xs => M.upd (bmF b x xs)
  | .isi a ts, r => (ev a r).bnd fun x => M.look fun st => (isTys st x ts).map .bl
  | .idx a i, r => (ev a r).bnd fun x => (ev i r).bnd fun y => M.look (idxW x y)
  | .sl a lo hi, r => (ev a r).bnd fun x => ((ev lo r).bnd fun w => M.opt (prt lo w)).bnd fun l => ((ev hi r).bnd fun w => M.opt (prt hi w)).bnd fun h => M.look (slW x l h)
  | .tup es, r => (evs es r).bnd fun xs => M.look fun _ => if xs.length ≤ sizeLine then some (.tup xs) else none
  | .fz f, r => (evF f r).bnd fun xs => M.ret (.lst xs)
  | .ow f, r => (evF f r).bnd fun xs => M.upd fun st => some (.obj st.n, st.new (.lst xs))
  | .frz a, r => (ev a r).bnd fun x => M.upd (frzW 8 x)
def evs : List Ex → En → M (List W)
  | [], _ => M.ret []
  | e :: es, r => (ev e r).bnd fun x => (evs es r).bnd fun xs => M.ret (x :: xs)
def evF : Fx → En → M (List W)
  | .dis es, r => (evs es r).bnd fun xs => M.look fun _ => if xs.length ≤ sizeLine then some xs else none
  | .cop a, r => (ev a r).bnd fun x => M.look fun st => seqOf st x
  | .cat a b, r => (ev a r).bnd fun x => (ev b r).bnd fun y => M.look fun st => (lstOf st x).bind fun xs => (lstOf st y).bind fun ys => if xs.length + ys.length ≤ sizeLine then some (xs ++ ys) else none
  | .slc a lo hi, r => (ev a r).bnd fun x => ((ev lo r).bnd fun w => M.opt (prt lo w)).bnd fun l => ((ev hi r).bnd fun w => M.opt (prt hi w)).bnd fun h => M.look fun st => (lstOf st x).map fun xs => cutW xs l h
  | .lcp own t i c e, r => (evI i r).bnd fun k => lcRun k.gd (fun x => (M.opt (bindT t x (wipeE r own))).bnd fun r' => (((ev c r').bnd M.truth).bnd fun b => if b then (ev e r').bnd fun y => M.ret (some y) else M.ret none).calm) k.xs []
  | .srt _, _ => M.bad
  | .cod _, _ => M.bad
def evI : Ik → En → M Wk
  | .ex e, r => (ev e r).bnd fun x => M.look (walkEx x)
  | .r1 e, r => (ev e r).bnd fun x => M.look fun _ => x.int?.bind fun n => rngW 0 n
  | .r2 a b, r => (ev a r).bnd fun x => (ev b r).bnd fun y => M.look fun _ => x.int?.bind fun i => y.int?.bind fun j => rngW i j
  | .en e, r => (ev e r).bnd fun x => M.look (enW x)
  | .zp a b, r => (ev a r).bnd fun x => (ev b r).bnd fun y => M.look (zpW x y)
end
def RS.of {α : Type} (m : RR α) (r : En) (f : α → Sto → RS) : RS := match m with
  | .ok a st => f a st
  | .exc c p st => .exc c p r st
  | .stuck => .stuck
def oSto (r : En) (o : Option Sto) : RS := match o with
  | some st => .nx r st
  | none => .stuck
mutual
def exe : Stm → En → Sto → RS
  | .set i e, r, st => RS.of (ev T cf e r st) r fun w st => .nx (r.set i (some w)) st
  | .unp t e, r, st => RS.of (ev T cf e r st) r fun w st => match bindT t w r with
    | some r' => .nx r' st
    | none => .stuck
  | .par i j a b, r, st => RS.of (((ev T cf a r).bnd fun x => (ev T cf b r).bnd fun y => M.ret (x, y)) st) r fun p st => .nx ((r.set i (some p.1)).set j (some p.2)) st
  | .seti o i e, r, st => RS.of (((ev T cf e r).bnd fun y => (ev T cf o r).bnd fun x => (ev T cf i r).bnd fun k => M.upd fun st => (setI x k y st).map fun st => ((), st)) st) r fun _ st => .nx r st
  | .seta o f e, r, st => RS.of (((ev T cf e r).bnd fun y => (ev T cf o r).bnd fun x => M.upd fun st => (setF T x f y st).map fun st => ((), st)) st) r fun _ st => .nx r st
  | .aug i o e, r, st => RS.of (((getV r i).bnd fun x => (ev T cf e r).bnd fun y => M.look (iop o x y)) st) r fun w st => .nx (r.set i (some w)) st
  | .ex e, r, st => RS.of (ev T cf e r st) r fun _ st => .nx r st
  | .ret e, r, st => RS.of (ev T cf e r st) r fun w st => .rt w st
  | .ret0, _, st => .rt .non st
  | .ife c a b, r, st => RS.of (((ev T cf c r).bnd M.truth) st) r fun k st => if k then exes a r st else exes b r st
  | .for_ t i b, r, st => RS.of (evI T cf i r st) r fun k st => forRun k.gd (fun x r st => match bindT t x r with | some r' => exes b r' st | none => .stuck) k.xs r st
  | .whl n c b, r, st => whlRun (fun r => (ev T cf c r).bnd M.truth) (fun r st => exes b r st) n r st
  | .rse c as, r, st => RS.of (evs T cf as r st) r fun xs st => match xs with
    | [] => .exc c .non r st
    | [p] => .exc c p r st
    | _ => .stuck
  | .pass, r, st => .nx r st
  | .brk, r, st => .bk r st
  | .cnt, r, st => .ct r st
  | .tr b c i h, r, st => match exes b r st with
    | .exc d p r' st' => if d = c ∨ (((T.cl d).map fun q => q.up.contains c) = some true) then
        (match exes h (r'.set i (some (.exn d p))) st' with
        | .nx r'' s'' => .nx (r''.set i none) s''
        | .bk r'' s'' => .bk (r''.set i none) s''
        | .ct r'' s'' => .ct (r''.set i none) s''
        | .exc _ _ _ _ => .stuck
        | o => o)
      else .exc d p r' st'
    | o => o
def exes : List Stm → En → Sto → RS
  | [], r, st => .nx r st
  | s :: ss, r, st => match exe s r st with
    | .nx r' st' => exes ss r' st'
    | o => o
end
end
/-- the arguments, filled up with defaults -/
def Fn.fill (f : Fn) (as : List W) : Option (List W) :=
  if as.length ≤ f.np ∧ f.np - as.length ≤ f.dfl.length then some (as ++ f.dfl.drop (f.dfl.length - (f.np - as.length))) else none
/-- a def's body with all its arguments -/
def runB (T : Tab) (cf : CF) (fn : Fn) (ws : List W) : M W := fun st =>
  match exes T cf fn.body (ws.map some ++ List.replicate (fn.ns - ws.length) none) st with
  | .nx _ st' => .ok .non st'
  | .rt w st' => .ok w st'
  | .exc c p _ st' => .exc c p st'
  | _ => .stuck
def runF (T : Tab) : Nat → CF
  | 0, _, _ => M.bad
  | d + 1, f, as => match T.fns[f]? with
    | none => M.bad
    | some fn => match fn.fill as with
      | none => M.bad
      | some ws => runB T (runF T d) fn ws
end
end Ip
/-! Ip2: what the interpreter's state has to do with the hand layer's. -/
namespace Ip
open PySem L2

/-- what stands fast through a law -/
structure Bs where
  P : Program
  w : World
  K : PySem.W.Frag
  mg : Str → Option Value
  base : Heap
  T : Tab
  /-- names of attributes and methods; addresses of classes and defs -/
  an : List Str
  ca : Nat → Addr
  fa : Nat → Addr
  cw : Nat → Str

/-- what is frozen; where what may change stands -/
structure Rg where
  S : Hp
  i : Nat → Option Addr

section
variable (B : Bs) (G : Rg)
def fldN (c : Nat) : List Str := ((B.T.cls[c]?).map fun q => q.fld.map fun f => B.an.getD f (Str.ofString "")).getD []
mutual
def Rl : W → V → Prop
  | .non, v => v = .non
  | .bl b, v => v = .bl b
  | .int i, v => v = .int i
  | .str s, v => v = .str s
  | .tup xs, v => ∃ a vs, v = .ref a ∧ SqT B.K G.S a vs ∧ Rls xs vs
  | .lst xs, v => ∃ a vs, v = .ref a ∧ SqL B.K G.S a vs ∧ Rls xs vs
  | .dic _ _, _ => False
  | .ins c fs, v => ∃ a dx gs us, v = .ref a ∧ G.S a = some (.ins (B.ca c) dx gs) ∧ Rls fs us ∧ us.length = (fldN B c).length ∧ ∀ f, gs.lookup f = ((fldN B c).zip us).lookup f
  | .obj k, v => ∃ a, v = .ref a ∧ G.i k = some a
  | .exn _ _, _ => False
def Rls : List W → List V → Prop
  | [], vs => vs = []
  | x :: xs, vs => ∃ v r, vs = v :: r ∧ Rl x v ∧ Rls xs r
end
end

section
variable {B : Bs} {G G' G'' : Rg} {H H' H'' : Hp}
theorem Rls.nil : Rls B G [] [] := rfl
theorem Rls.cons {x : W} {xs : List W} {v : V} {vs : List V} (h : Rl B G x v) (t : Rls B G xs vs) : Rls B G (x :: xs) (v :: vs) := ⟨v, vs, rfl, h, t⟩
theorem Rls.len : ∀ {xs : List W} {vs : List V}, Rls B G xs vs → xs.length = vs.length
  | [], _, h => by cases (show _ = _ from h); rfl
  | x :: xs, _, h => by
    obtain ⟨v, r, rfl, _, t⟩ := h
    simp [Rls.len t]
theorem Rls.app : ∀ {xs ys : List W} {vs ws : List V}, Rls B G xs vs → Rls B G ys ws → Rls B G (xs ++ ys) (vs ++ ws)
  | [], _, _, _, h, k => by cases (show _ = _ from h); exact k
  | x :: xs, _, _, _, h, k => by
    obtain ⟨v, r, rfl, hx, t⟩ := h
    exact ⟨v, r ++ _, rfl, hx, Rls.app t k⟩
theorem Rls.get : ∀ {xs : List W} {vs : List V} {i : Nat} {x : W}, Rls B G xs vs → xs[i]? = some x → ∃ v, vs[i]? = some v ∧ Rl B G x v
  | [], _, _, _, _, e => by simp at e
  | x :: xs, _, 0, y, h, e => by
    obtain ⟨v, r, rfl, hx, t⟩ := h
    simp at e; subst e
    exact ⟨v, rfl, hx⟩
  | x :: xs, _, i + 1, y, h, e => by
    obtain ⟨v, r, rfl, hx, t⟩ := h
    obtain ⟨u, e1, e2⟩ := Rls.get (i := i) t (by simpa using e)
    exact ⟨u, by simpa using e1, e2⟩
theorem Rls.at : ∀ {xs : List W} {vs : List V} {i : Nat} {v : V}, Rls B G xs vs → vs[i]? = some v → ∃ x, xs[i]? = some x ∧ Rl B G x v
  | [], _, _, _, h, e => by cases (show _ = _ from h); simp at e
  | x :: xs, _, 0, y, h, e => by
    obtain ⟨v, r, rfl, hx, t⟩ := h
    simp at e; subst e
    exact ⟨x, rfl, hx⟩
  | x :: xs, _, i + 1, y, h, e => by
    obtain ⟨v, r, rfl, hx, t⟩ := h
    obtain ⟨u, e1, e2⟩ := Rls.at (i := i) t (by simpa using e)
    exact ⟨u, by simpa using e1, e2⟩
theorem Rls.take : ∀ {xs : List W} {vs : List V} (n : Nat), Rls B G xs vs → Rls B G (xs.take n) (vs.take n)
  | _, _, 0, _ => by simp [Rls]
  | [], _, _ + 1, h => by cases (show _ = _ from h); simp [Rls]
  | x :: xs, _, n + 1, h => by
    obtain ⟨v, r, rfl, hx, t⟩ := h
    exact ⟨v, r.take n, rfl, hx, Rls.take n t⟩
theorem Rls.drop : ∀ {xs : List W} {vs : List V} (n : Nat), Rls B G xs vs → Rls B G (xs.drop n) (vs.drop n)
  | _, _, 0, h => h
  | [], _, _ + 1, h => by cases (show _ = _ from h); simp [Rls]
  | x :: xs, _, n + 1, h => by
    obtain ⟨v, r, rfl, hx, t⟩ := h
    exact Rls.drop n t
theorem Rls.set : ∀ {xs : List W} {vs : List V} {x : W} {v : V} (n : Nat), Rls B G xs vs → Rl B G x v → Rls B G (xs.set n x) (vs.set n v)
  | [], _, _, _, _, h, _ => by cases (show _ = _ from h); simp [Rls]
  | x :: xs, _, y, w, 0, h, k => by
    obtain ⟨v, r, rfl, hx, t⟩ := h
    exact ⟨w, r, rfl, k, t⟩
  | x :: xs, _, y, w, n + 1, h, k => by
    obtain ⟨v, r, rfl, hx, t⟩ := h
    exact ⟨v, r.set n w, rfl, hx, Rls.set n t k⟩
theorem Rls.erase : ∀ {xs : List W} {vs : List V} (n : Nat), Rls B G xs vs → Rls B G (xs.eraseIdx n) (vs.eraseIdx n)
  | [], _, _, h => by cases (show _ = _ from h); simp [Rls]
  | x :: xs, _, 0, h => by
    obtain ⟨v, r, rfl, hx, t⟩ := h
    exact t
  | x :: xs, _, n + 1, h => by
    obtain ⟨v, r, rfl, hx, t⟩ := h
    exact ⟨v, r.eraseIdx n, rfl, hx, Rls.erase n t⟩
theorem Rls.dropLast : ∀ {xs : List W} {vs : List V}, Rls B G xs vs → Rls B G xs.dropLast vs.dropLast
  | [], _, h => by cases (show _ = _ from h); simp [Rls]
  | [x], _, h => by
    obtain ⟨v, r, rfl, hx, t⟩ := h
    cases (show _ = _ from t); simp [Rls]
  | x :: y :: xs, _, h => by
    obtain ⟨v, r, rfl, hx, t⟩ := h
    have t' := t
    obtain ⟨u, r', rfl, hy, t2⟩ := t
    exact ⟨v, _, rfl, hx, Rls.dropLast t'⟩

/-- later: what was frozen is, what was private to others stays -/
structure Lt (G : Rg) (H : Hp) (G' : Rg) (H' : Hp) : Prop where
  s : ∀ a o, G.S a = some o → G'.S a = some o
  i : ∀ k a, G.i k = some a → G'.i k = some a
  p : ∀ a o, H a = some o → G.S a = none → (∀ k, G.i k ≠ some a) → H' a = some o ∧ G'.S a = none ∧ ∀ k, G'.i k ≠ some a
theorem Lt.rfl : Lt G H G H := ⟨fun _ _ h => h, fun _ _ h => h, fun _ _ h n k => ⟨h, n, k⟩⟩
theorem Lt.trans (x : Lt G H G' H') (y : Lt G' H' G'' H'') : Lt G H G'' H'' :=
  ⟨fun a o h => y.s a o (x.s a o h), fun k a h => y.i k a (x.i k a h), fun a o h n k => let ⟨h1, n1, k1⟩ := x.p a o h n k; y.p a o h1 n1 k1⟩
theorem SqT.gr {K : PySem.W.Frag} {S S' : Hp} {a : Addr} {vs : List V} (h : ∀ a o, S a = some o → S' a = some o) (x : SqT K S a vs) : SqT K S' a vs := by
  rcases x with (x | ⟨o, x⟩) | x
  · exact .inl (.inl (h _ _ x))
  · exact .inl (.inr ⟨o, h _ _ x⟩)
  · exact .inr x
theorem SqL.gr {K : PySem.W.Frag} {S S' : Hp} {a : Addr} {vs : List V} (h : ∀ a o, S a = some o → S' a = some o) (x : SqL K S a vs) : SqL K S' a vs := by
  rcases x with (x | ⟨o, x⟩) | x
  · exact .inl (.inl (h _ _ x))
  · exact .inl (.inr ⟨o, h _ _ x⟩)
  · exact .inr x
theorem Rd.gr {S S' : Hp} {a : Addr} {o : HO} (h : ∀ a o, S a = some o → S' a = some o) (x : Rd S a o) : Rd S' a o := by
  rcases x with x | ⟨o, x⟩
  · exact .inl (h _ _ x)
  · exact .inr ⟨o, h _ _ x⟩
mutual
theorem Rl.gr (hs : ∀ a o, G.S a = some o → G'.S a = some o) (hi : ∀ k a, G.i k = some a → G'.i k = some a) : ∀ (w : W) (v : V), Rl B G w v → Rl B G' w v
  | .non, _, h => h
  | .bl _, _, h => h
  | .int _, _, h => h
  | .str _, _, h => h
  | .tup xs, _, h => let ⟨a, vs, e, s, r⟩ := h; ⟨a, vs, e, SqT.gr hs s, Rls.gr hs hi xs vs r⟩
  | .lst xs, _, h => let ⟨a, vs, e, s, r⟩ := h; ⟨a, vs, e, SqL.gr hs s, Rls.gr hs hi xs vs r⟩
  | .dic _ _, _, h => h
  | .ins c fs, _, h => let ⟨a, dx, gs, us, e, s, r, l, k⟩ := h; ⟨a, dx, gs, us, e, hs _ _ s, Rls.gr hs hi fs us r, l, k⟩
  | .obj k, _, h => let ⟨a, e, s⟩ := h; ⟨a, e, hi _ _ s⟩
  | .exn _ _, _, h => h
theorem Rls.gr (hs : ∀ a o, G.S a = some o → G'.S a = some o) (hi : ∀ k a, G.i k = some a → G'.i k = some a) : ∀ (ws : List W) (vs : List V), Rls B G ws vs → Rls B G' ws vs
  | [], _, h => h
  | x :: xs, _, h => let ⟨v, r, e, hx, t⟩ := h; ⟨v, r, e, Rl.gr hs hi x v hx, Rls.gr hs hi xs r t⟩
end
theorem Rl.lt {w : W} {v : V} (l : Lt G H G' H') (h : Rl B G w v) : Rl B G' w v := Rl.gr l.s l.i w v h
theorem Rls.lt {w : List W} {v : List V} (l : Lt G H G' H') (h : Rls B G w v) : Rls B G' w v := Rls.gr l.s l.i w v h

/-! ### objects that may change -/
def Ro (B : Bs) (G : Rg) : Option W → Option V → Prop
  | some w, some v => Rl B G w v
  | none, none => True
  | _, _ => False
def Ros (B : Bs) (G : Rg) (fs : List (Option W)) (us : List (Option V)) : Prop := fs.length = us.length ∧ ∀ (i : Nat) (x : Option W) (y : Option V), fs[i]? = some x → us[i]? = some y → Ro B G x y
def ObR (B : Bs) (G : Rg) (H : Hp) (a : Addr) : Ob → Prop
  | .lst xs => ∃ vs, H a = some (.lst vs) ∧ Rls B G xs vs
  | .dic _ _ => False
  | .ins c fs => ∃ dx gs us, H a = some (.ins (B.ca c) dx gs) ∧ Ros B G fs us ∧ us.length = (fldN B c).length ∧ gs.length ≤ (us.filter Option.isSome).length ∧ ∀ f, gs.lookup f = (((fldN B c).zip us).lookup f).bind id
theorem Ro.gr {x : Option W} {y : Option V} (hs : ∀ a o, G.S a = some o → G'.S a = some o) (hi : ∀ k a, G.i k = some a → G'.i k = some a) (h : Ro B G x y) : Ro B G' x y := by
  cases x <;> cases y <;> first | exact h | exact Rl.gr hs hi _ _ h
theorem ObR.lt {a : Addr} {o : Ob} (hs : ∀ a o, G.S a = some o → G'.S a = some o) (hi : ∀ k a, G.i k = some a → G'.i k = some a) (e : H' a = H a) (h : ObR B G H a o) : ObR B G' H' a o := by
  cases o with
  | lst xs => obtain ⟨vs, h1, r⟩ := h; exact ⟨vs, e.trans h1, Rls.gr hs hi _ _ r⟩
  | dic _ _ => exact h
  | ins c fs => obtain ⟨dx, gs, us, h1, r, l, z, k⟩ := h; exact ⟨dx, gs, us, e.trans h1, ⟨r.1, fun i x y e1 e2 => (r.2 i x y e1 e2).gr hs hi⟩, l, z, k⟩
structure StR (B : Bs) (G : Rg) (st : Sto) (H : Hp) : Prop where
  sub : ∀ a o, G.S a = some o → H a = some o
  iot : ∀ k a, G.i k = some a → ∃ o, H a = some o
  new : ∀ k, st.n ≤ k → G.i k = none
  liv : ∀ k o, st.m k = some o → ∃ a, G.i k = some a ∧ G.S a = none ∧ ObR B G H a o
  inj : ∀ k k' o o' a, st.m k = some o → st.m k' = some o' → G.i k = some a → G.i k' = some a → k = k'
def EnR (B : Bs) (G : Rg) (r : En) (σ : L2.St) : Prop := r.length = σ.length ∧ ∀ (i : Nat) (w : W), r[i]? = some (some w) → ∃ v, σ[i]? = some (some v) ∧ Rl B G w v
theorem EnR.lt {r : En} {σ : L2.St} (l : Lt G H G' H') (h : EnR B G r σ) : EnR B G' r σ := ⟨h.1, fun i w e => let ⟨v, e1, q⟩ := h.2 i w e; ⟨v, e1, q.lt l⟩⟩
theorem EnR.set {r : En} {σ : L2.St} {w : W} {v : V} (i : Nat) (h : EnR B G r σ) (q : Rl B G w v) : EnR B G (r.set i (some w)) (σ.set i (some v)) := by
  refine ⟨by rw [List.length_set, List.length_set]; exact h.1, fun j u e => ?_⟩
  by_cases hj : i = j
  · subst hj
    have hl : i < r.length := by
      have := (List.getElem?_eq_some_iff.mp e).1
      simpa using this
    rw [List.getElem?_set_self hl] at e
    cases e
    exact ⟨v, List.getElem?_set_self (by rw [← h.1]; exact hl), q⟩
  · rw [List.getElem?_set_ne hj] at e ⊢
    exact h.2 j u e
theorem EnR.unset {r : En} {σ : L2.St} (i : Nat) (h : EnR B G r σ) : EnR B G (r.set i none) (σ.set i none) := by
  refine ⟨by rw [List.length_set, List.length_set]; exact h.1, fun j u e => ?_⟩
  by_cases hj : i = j
  · subst hj
    by_cases hl : i < r.length
    · rw [List.getElem?_set_self hl] at e
      cases e
    · rw [List.getElem?_eq_none (by simpa using hl)] at e
      cases e
  · rw [List.getElem?_set_ne hj] at e ⊢
    exact h.2 j u e
theorem EnR.wipe {r : En} {σ : L2.St} (h : EnR B G r σ) : ∀ vs : List Nat, EnR B G (wipeE r vs) (wipe σ vs)
  | [] => h
  | v :: vs => (EnR.wipe h vs).unset v

/-! ### what the state behind a step must be -/
/-- an error as it lies: its class, its own dict -/
def ExR (B : Bs) (G : Rg) (H : Hp) (c : Nat) (p : W) (cls : Value) (d : Option Addr) : Prop :=
  cls = .ref (B.ca c) ∧ ∃ dx fs v, d = some dx ∧ H dx = some (.xd fs) ∧ G.S dx = none ∧ (∀ k, G.i k ≠ some dx) ∧ fs.lookup (Str.ofString "word") = some (.str (B.cw c)) ∧ fs.lookup (Str.ofString "place") = some v ∧ Rl B G p v
/-- the wish behind a run from (G, H): every later state that fits its end -/
def Aft {α β : Type} (B : Bs) (W : WX) (rel : Rg → Hp → α → β → Prop) (G : Rg) (H : Hp) (r : En) (σ : L2.St) (m : RR α) (Q : β → Hp → Prop) : Prop :=
  match m with
  | .ok a st => ∀ (v : β) (G' : Rg) (H' : Hp), Lt G H G' H' → StR B G' st H' → rel G' H' a v → Q v H'
  | .exc c p st => ∀ (cls : Value) (d : Option Addr) (G' : Rg) (H' : Hp), Lt G H G' H' → StR B G' st H' → ExR B G' H' c p cls d → W cls d σ H'
  | .stuck => False
/-- from a state that fits -/
def tM {α β : Type} (B : Bs) (W : WX) (rel : Rg → Hp → α → β → Prop) (m : En → M α) : L2.St → Hp → (β → Hp → Prop) → Prop := fun σ H Q =>
  ∃ G r st, StR B G st H ∧ EnR B G r σ ∧ Aft B W rel G H r σ (m r st) Q
end
end Ip
/-! Ip3: steps and calls. -/
namespace Ip
open PySem L2 PySem.Spec PyProof.Rows
section
variable {B : Bs} {W' : WX} {X : Cx} {e e1 e2 : Expr} {t t' : TE}
theorem wkE (h : PE X e t) (hh : ∀ σ H Q, t' σ H Q → t σ H Q) : PE X e t' := ⟨fun pins s σ H Q I q => h.run pins s σ H Q I (hh σ H Q q)⟩
theorem wkT {t t' : TT} (h : PT X e t) (hh : ∀ σ H Q, t' σ H Q → t σ H Q) : PT X e t' := ⟨fun pins s σ H Q I q => h.run pins s σ H Q I (hh σ H Q q)⟩
theorem wkA {es : List Expr} {t t' : TA} (h : PA X es t) (hh : ∀ σ H Q, t' σ H Q → t σ H Q) : PA X es t' := ⟨fun pos pins s σ H Q I q => h.run pos pins s σ H Q I (hh σ H Q q)⟩
theorem wkS {st : Stmt} {t t' : TS} (h : PS X st t) (hh : ∀ D σ H, t' D σ H → t D σ H) : PS X st t' := ⟨fun pins s σ H D I q => h.run pins s σ H D I (hh D σ H q)⟩
theorem wkSs {st : List Stmt} {t t' : TS} (h : PSs X st t) (hh : ∀ D σ H, t' D σ H → t D σ H) : PSs X st t' := ⟨fun pins s σ H D I q => h.run pins s σ H D I (hh D σ H q)⟩
end

abbrev rV (B : Bs) : Rg → Hp → W → V → Prop := fun G _ w v => Rl B G w v
abbrev rL (B : Bs) : Rg → Hp → List W → List V → Prop := fun G _ w v => Rls B G w v
abbrev rB : Rg → Hp → Bool → Bool → Prop := fun _ _ b c => b = c
/-- a list that nobody else has, new since H0 -/
def rF (B : Bs) (H0 : Hp) : Rg → Hp → List W → V → Prop := fun G H xs v => ∃ p vs, v = .ref p ∧ H0 p = none ∧ H p = some (.lst vs) ∧ G.S p = none ∧ (∀ k, G.i k ≠ some p) ∧ Rls B G xs vs
abbrev tE (B : Bs) (W' : WX) (m : En → M W) : TE := tM B W' (rV B) m
abbrev tAr (B : Bs) (W' : WX) (m : En → M (List W)) : TA := tM B W' (rL B) m
abbrev tT (B : Bs) (W' : WX) (m : En → M Bool) : TT := tM B W' rB m
abbrev tFr (B : Bs) (W' : WX) (m : En → M (List W)) : TE := fun σ H Q => tM B W' (rF B H) m σ H Q

section
variable {B : Bs} {W' : WX} {G G' : Rg} {H H' : Hp} {r : En} {σ : L2.St} {st st' : Sto}
theorem Aft.re {α β : Type} {rel : Rg → Hp → α → β → Prop} {m : RR α} {Q : β → Hp → Prop} (l : Lt G H G' H') (h : Aft B W' rel G H r σ m Q) : Aft B W' rel G' H' r σ m Q := by
  cases m with
  | ok a st => exact fun v G2 H2 l2 => h v G2 H2 (l.trans l2)
  | exc c p st => exact fun cls d G2 H2 l2 => h cls d G2 H2 (l.trans l2)
  | stuck => exact h
/-- the first part of a step; what is left behind it -/
theorem Aft.bnd {α β γ δ : Type} {rel : Rg → Hp → α → β → Prop} {rel2 : Rg → Hp → γ → δ → Prop} {m : M α} {f : α → M γ} {Q : δ → Hp → Prop} {R : β → Hp → Prop}
    (h : Aft B W' rel2 G H r σ (m.bnd f st) Q) (k : ∀ v G1 H1 w st1, Lt G H G1 H1 → StR B G1 st1 H1 → rel G1 H1 w v → Aft B W' rel2 G1 H1 r σ (f w st1) Q → R v H1) :
    Aft B W' rel G H r σ (m st) R := by
  have e : m.bnd f st = (match m st with
    | .ok a s => f a s
    | .exc c p s => .exc c p s
    | .stuck => .stuck) := rfl
  rw [e] at h
  cases hm : m st with
  | ok a s =>
    rw [hm] at h
    exact fun v G1 H1 l s1 q => k v G1 H1 a s l s1 q (Aft.re l h)
  | exc c p s =>
    rw [hm] at h
    exact h
  | stuck =>
    rw [hm] at h
    exact h
/-- the same, what is left told from the beginning -/
theorem Aft.bndO {α β γ δ : Type} {rel : Rg → Hp → α → β → Prop} {rel2 : Rg → Hp → γ → δ → Prop} {m : M α} {f : α → M γ} {Q : δ → Hp → Prop} {R : β → Hp → Prop}
    (h : Aft B W' rel2 G H r σ (m.bnd f st) Q) (k : ∀ v G1 H1 w st1, Lt G H G1 H1 → StR B G1 st1 H1 → rel G1 H1 w v → Aft B W' rel2 G H r σ (f w st1) Q → R v H1) :
    Aft B W' rel G H r σ (m st) R := by
  have e : m.bnd f st = (match m st with
    | .ok a s => f a s
    | .exc c p s => .exc c p s
    | .stuck => .stuck) := rfl
  rw [e] at h
  cases hm : m st with
  | ok a s =>
    rw [hm] at h
    exact fun v G1 H1 l s1 q => k v G1 H1 a s l s1 q h
  | exc c p s =>
    rw [hm] at h
    exact h
  | stuck =>
    rw [hm] at h
    exact h
/-- what is there stays there -/
theorem Lt.gone (l : Lt G H G' H') (s : StR B G st H) (s' : StR B G' st' H') {p : Addr} (h : H' p = none) : H p = none := by
  cases e : H p with
  | none => rfl
  | some o =>
    exfalso
    cases q : G.S p with
    | some u =>
      have z := s'.sub p u (l.s p u q)
      rw [h] at z; cases z
    | none =>
      by_cases hk : ∃ k, G.i k = some p
      · obtain ⟨k, hk⟩ := hk
        obtain ⟨u, z⟩ := s'.iot k p (l.i k p hk)
        rw [h] at z; cases z
      · have z := (l.p p o e q fun k hk' => hk ⟨k, hk'⟩).1
        rw [h] at z; cases z
theorem Aft.look {α β : Type} {rel : Rg → Hp → α → β → Prop} {f : Sto → Option α} {Q : β → Hp → Prop} (h : Aft B W' rel G H r σ (M.look f st) Q) : ∃ a, f st = some a ∧ Aft B W' rel G H r σ (.ok a st) Q := by
  unfold M.look at h
  cases e : f st with
  | none => rw [e] at h; exact h.elim
  | some a => rw [e] at h; exact ⟨a, rfl, h⟩
theorem Aft.opt {α β : Type} {rel : Rg → Hp → α → β → Prop} {f : Option α} {Q : β → Hp → Prop} (h : Aft B W' rel G H r σ (M.opt f st) Q) : ∃ a, f = some a ∧ Aft B W' rel G H r σ (.ok a st) Q := by
  cases f with
  | none => exact h.elim
  | some a => exact ⟨a, rfl, h⟩
theorem Aft.now {α β : Type} {rel : Rg → Hp → α → β → Prop} {a : α} {v : β} {Q : β → Hp → Prop} (h : Aft B W' rel G H r σ (.ok a st) Q) (s : StR B G st H) (q : rel G H a v) : Q v H := h v G H Lt.rfl s q
/-- a run that goes on with values that are known -/
theorem Aft.on {α γ δ : Type} {rel2 : Rg → Hp → γ → δ → Prop} {m : M α} {f : α → M γ} {Q : δ → Hp → Prop} {a : α} (h : Aft B W' rel2 G H r σ (m.bnd f st) Q) (e : m st = .ok a st') : Aft B W' rel2 G H r σ (f a st') Q := by
  have e2 : m.bnd f st = f a st' := by unfold M.bnd; rw [e]
  rw [e2] at h
  exact h
theorem Aft.lookB {α γ δ : Type} {rel2 : Rg → Hp → γ → δ → Prop} {g : Sto → Option α} {f : α → M γ} {Q : δ → Hp → Prop} (h : Aft B W' rel2 G H r σ ((M.look g).bnd f st) Q) : ∃ a, g st = some a ∧ Aft B W' rel2 G H r σ (f a st) Q := by
  cases e : g st with
  | none =>
    have e2 : (M.look g).bnd f st = .stuck := by unfold M.bnd M.look; rw [e]
    rw [e2] at h; exact h.elim
  | some a => exact ⟨a, rfl, h.on (by unfold M.look; rw [e])⟩
theorem Aft.optB {α γ δ : Type} {rel2 : Rg → Hp → γ → δ → Prop} {g : Option α} {f : α → M γ} {Q : δ → Hp → Prop} (h : Aft B W' rel2 G H r σ ((M.opt g).bnd f st) Q) : ∃ a, g = some a ∧ Aft B W' rel2 G H r σ (f a st) Q := by
  cases g with
  | none => exact h.elim
  | some a => exact ⟨a, rfl, h⟩

/-! ### laying new objects -/
theorem StR.fresh (s : StR B G st H) {p : Addr} (hp : H p = none) : G.S p = none ∧ ∀ k, G.i k ≠ some p := by
  refine ⟨?_, fun k e => ?_⟩
  · cases e : G.S p with
    | none => rfl
    | some o => rw [s.sub p o e] at hp; cases hp
  · obtain ⟨o, e2⟩ := s.iot k p e
    rw [hp] at e2; cases e2
theorem StR.live (s : StR B G st H) {k : Nat} {o : Ob} (h : st.m k = some o) : ∃ a ho, G.i k = some a ∧ H a = some ho := by
  obtain ⟨a, e, _, _⟩ := s.liv k o h
  obtain ⟨ho, q⟩ := s.iot k a e
  exact ⟨a, ho, e, q⟩
/-- an address that is not known yet gets an object: nothing known of -/
theorem StR.lay (s : StR B G st H) {p : Addr} {o : HO} (hp : H p = none) : StR B G st (upd H p o) := by
  have ⟨f1, f2⟩ := s.fresh hp
  have ne : ∀ a, (∃ o, H a = some o) → a ≠ p := fun a ⟨o, e⟩ z => by rw [z, hp] at e; cases e
  refine ⟨fun a u e => ?_, fun k a e => ?_, s.new, fun k u e => ?_, s.inj⟩
  · rw [upd_ne (ne a ⟨u, s.sub a u e⟩)]
    exact s.sub a u e
  · obtain ⟨u, q⟩ := s.iot k a e
    exact ⟨u, by rw [upd_ne (ne a ⟨u, q⟩)]; exact q⟩
  · obtain ⟨a, e1, e2, q⟩ := s.liv k u e
    exact ⟨a, e1, e2, q.lt (fun _ _ h => h) (fun _ _ h => h) (upd_ne (ne a (s.iot k a e1)))⟩
theorem Lt.lay {p : Addr} {o : HO} (hp : H p = none) : Lt G H G (upd H p o) :=
  ⟨fun _ _ h => h, fun _ _ h => h, fun a u h n k => ⟨by rw [upd_ne (fun z => by rw [z, hp] at h; cases h)]; exact h, n, k⟩⟩
/-- an object that nobody knows becomes frozen -/
def Rg.frz (G : Rg) (p : Addr) (o : HO) : Rg := ⟨upd G.S p o, G.i⟩
theorem StR.frz (s : StR B G st H) {p : Addr} {o : HO} (hp : H p = some o) (n : G.S p = none) (k : ∀ k, G.i k ≠ some p) : StR B (G.frz p o) st H := by
  have gr : ∀ a u, G.S a = some u → (G.frz p o).S a = some u := fun a u e => by
    show upd G.S p o a = some u
    rw [upd_ne (fun z => by rw [z, n] at e; cases e)]; exact e
  refine ⟨fun a u e => ?_, s.iot, s.new, fun j u e => ?_, s.inj⟩
  · by_cases ha : a = p
    · subst ha
      have e' : upd G.S a o a = some u := e
      rw [upd_same] at e'
      rw [← e']; exact hp
    · have e' : upd G.S p o a = some u := e
      rw [upd_ne ha] at e'
      exact s.sub a u e'
  · obtain ⟨a, e1, e2, q⟩ := s.liv j u e
    refine ⟨a, e1, ?_, q.lt gr (fun _ _ h => h) rfl⟩
    show upd G.S p o a = none
    rw [upd_ne (fun z => k j (by rw [← z]; exact e1))]
    exact e2
/-- from where it was laid, still private -/
theorem Lt.frz {p : Addr} {o : HO} (h0 : H p = none) (l : Lt G H G' H') (n : G'.S p = none) : Lt G H (G'.frz p o) H' := by
  refine ⟨fun a u e => ?_, l.i, fun a u h m k => ?_⟩
  · have q := l.s a u e
    show upd G'.S p o a = some u
    rw [upd_ne (fun z => by rw [z, n] at q; cases q)]; exact q
  · obtain ⟨h1, h2, h3⟩ := l.p a u h m k
    refine ⟨h1, ?_, h3⟩
    show upd G'.S p o a = none
    rw [upd_ne (fun z => by rw [z, h0] at h; cases h)]; exact h2
theorem frz_at {p : Addr} {o : HO} : (G.frz p o).S p = some o := upd_same
theorem frz_gr {p : Addr} {o : HO} (n : G.S p = none) : ∀ a u, G.S a = some u → (G.frz p o).S a = some u := fun a u e => by
  show upd G.S p o a = some u
  rw [upd_ne (fun z => by rw [z, n] at e; cases e)]; exact e
/-- an object that nobody knows becomes one that may change -/
def Rg.own (G : Rg) (n : Nat) (p : Addr) : Rg := ⟨G.S, fun k => if k = n then some p else G.i k⟩
theorem own_gr (s : StR B G st H) {p : Addr} : ∀ k a, G.i k = some a → (G.own st.n p).i k = some a := fun k a e => by
  show (if k = st.n then some p else G.i k) = some a
  rw [if_neg (fun z => by rw [z, s.new st.n (Nat.le_refl _)] at e; cases e)]; exact e
theorem StR.own (s : StR B G st H) {p : Addr} {o : Ob} {ho : HO} (hp : H p = some ho) (n : G.S p = none) (k : ∀ k, G.i k ≠ some p) (q : ObR B G H p o) (hm : ∀ k o, st.m k = some o → k < st.n) : StR B (G.own st.n p) (st.new o) H := by
  have gr := own_gr s (p := p)
  have gi : ∀ j a, (G.own st.n p).i j = some a → (j = st.n ∧ a = p) ∨ G.i j = some a := fun j a e => by
    have e' : (if j = st.n then some p else G.i j) = some a := e
    by_cases hj : j = st.n
    · rw [if_pos hj] at e'; cases e'; exact .inl ⟨hj, rfl⟩
    · rw [if_neg hj] at e'; exact .inr e'
  have gm : ∀ j u, (st.new o).m j = some u → (j = st.n ∧ u = o) ∨ st.m j = some u := fun j u e => by
    have e' : (if j = st.n then some o else st.m j) = some u := e
    by_cases hj : j = st.n
    · rw [if_pos hj] at e'; cases e'; exact .inl ⟨hj, rfl⟩
    · rw [if_neg hj] at e'; exact .inr e'
  refine ⟨s.sub, fun j a e => ?_, fun j hj => ?_, fun j u e => ?_, fun j j' u u' a e e' i i' => ?_⟩
  · rcases gi j a e with ⟨_, rfl⟩ | e
    · exact ⟨ho, hp⟩
    · exact s.iot j a e
  · have hj' : st.n + 1 ≤ j := hj
    show (if j = st.n then some p else G.i j) = none
    rw [if_neg (by omega)]; exact s.new j (by omega)
  · rcases gm j u e with ⟨rfl, rfl⟩ | e
    · exact ⟨p, if_pos rfl, n, ObR.lt (G := G) (G' := G.own st.n p) (H := H) (H' := H) (fun _ _ h => h) gr rfl q⟩
    · obtain ⟨a, e1, e2, q2⟩ := s.liv j u e
      exact ⟨a, gr j a e1, e2, ObR.lt (G := G) (G' := G.own st.n p) (H := H) (H' := H) (fun _ _ h => h) gr rfl q2⟩
  · rcases gm j u e with ⟨rfl, rfl⟩ | e1
    · rcases gm j' u' e' with ⟨rfl, rfl⟩ | e2
      · rfl
      · exfalso
        have hj := hm _ _ e2
        rcases gi _ _ i with ⟨_, rfl⟩ | i1
        · rcases gi _ _ i' with ⟨z, _⟩ | i2
          · omega
          · exact k _ i2
        · rw [s.new st.n (Nat.le_refl _)] at i1; cases i1
    · rcases gm j' u' e' with ⟨rfl, rfl⟩ | e2
      · exfalso
        have hj := hm _ _ e1
        rcases gi _ _ i' with ⟨_, rfl⟩ | i1
        · rcases gi _ _ i with ⟨z, _⟩ | i2
          · omega
          · exact k _ i2
        · rw [s.new st.n (Nat.le_refl _)] at i1; cases i1
      · have hj := hm _ _ e1
        have hj' := hm _ _ e2
        rcases gi _ _ i with ⟨z, _⟩ | i1
        · omega
        · rcases gi _ _ i' with ⟨z, _⟩ | i2
          · omega
          · exact s.inj j j' u u' a e1 e2 i1 i2
theorem Lt.own {p : Addr} (h0 : H p = none) (l : Lt G H G' H') (s : StR B G' st H') (k : ∀ k, G'.i k ≠ some p) : Lt G H (G'.own st.n p) H' := by
  refine ⟨l.s, fun j a e => own_gr s j a (l.i j a e), fun a u h m kk => ?_⟩
  obtain ⟨h1, h2, h3⟩ := l.p a u h m kk
  refine ⟨h1, h2, fun j e => ?_⟩
  have e' : (if j = st.n then some p else G'.i j) = some a := e
  by_cases hj : j = st.n
  · rw [if_pos hj] at e'
    cases e'
    rw [h0] at h; cases h
  · rw [if_neg hj] at e'
    exact h3 j e'
theorem StR.small (s : StR B G st H) : ∀ k o, st.m k = some o → k < st.n := fun k o e => by
  obtain ⟨a, e1, _⟩ := s.liv k o e
  by_cases h : k < st.n
  · exact h
  · rw [s.new k (by omega)] at e1; cases e1
/-- an object that may change is changed -/
theorem StR.put (s : StR B G st H) {k : Nat} {o o' : Ob} {a : Addr} {ho : HO} (e : st.m k = some o) (ea : G.i k = some a) (q : ObR B G (upd H a ho) a o') : StR B G (st.put k o') (upd H a ho) := by
  obtain ⟨a', e1, e2, _⟩ := s.liv k o e
  rw [ea] at e1; cases e1
  have gm : ∀ j u, (st.put k o').m j = some u → (j = k ∧ u = o') ∨ (j ≠ k ∧ st.m j = some u) := fun j u e => by
    have e' : (if j = k then some o' else st.m j) = some u := e
    by_cases hj : j = k
    · rw [if_pos hj] at e'; cases e'; exact .inl ⟨hj, rfl⟩
    · rw [if_neg hj] at e'; exact .inr ⟨hj, e'⟩
  refine ⟨fun b u z => ?_, fun j b z => ?_, s.new, fun j u z => ?_, fun j j' u u' b z z' i i' => ?_⟩
  · rw [upd_ne (fun q => by rw [q, e2] at z; cases z)]
    exact s.sub b u z
  · by_cases hb : b = a
    · exact ⟨ho, by rw [hb]; exact upd_same⟩
    · obtain ⟨u, q⟩ := s.iot j b z
      exact ⟨u, by rw [upd_ne hb]; exact q⟩
  · rcases gm j u z with ⟨rfl, rfl⟩ | ⟨hj, z⟩
    · exact ⟨a, ea, e2, q⟩
    · obtain ⟨b, f1, f2, q2⟩ := s.liv j u z
      have hb : b ≠ a := fun x => hj (s.inj j k u o a z e (by rw [← x]; exact f1) ea)
      exact ⟨b, f1, f2, q2.lt (fun _ _ h => h) (fun _ _ h => h) (upd_ne hb)⟩
  · have old : ∀ j u, (st.put k o').m j = some u → ∃ u', st.m j = some u' := fun j u z => by
      rcases gm j u z with ⟨rfl, _⟩ | ⟨_, z⟩
      · exact ⟨o, e⟩
      · exact ⟨u, z⟩
    obtain ⟨w1, z1⟩ := old j u z
    obtain ⟨w2, z2⟩ := old j' u' z'
    exact s.inj j j' w1 w2 b z1 z2 i i'
theorem Lt.put {k : Nat} {a : Addr} {ho : HO} (ea : G.i k = some a) : Lt G H G (upd H a ho) :=
  ⟨fun _ _ h => h, fun _ _ h => h, fun b u h n kk => ⟨by rw [upd_ne (fun z => kk k (by rw [z]; exact ea))]; exact h, n, kk⟩⟩
end
end Ip
/-! Ip4: the operations on values. -/
namespace Ip
open PySem L2 PySem.Spec PyProof.Rows
section
variable {B : Bs} {W' : WX} {G G' : Rg} {H H' : Hp} {r : En} {σ : L2.St} {st st' : Sto}
theorem newTup {p : Addr} {ws : List W} {vs : List V} (s : StR B G st H) (q : Rls B G ws vs) (hp : H p = none) : ∃ G', Lt G H G' (upd H p (.tup vs)) ∧ StR B G' st (upd H p (.tup vs)) ∧ Rl B G' (.tup ws) (.ref p) := by
  have ⟨n, k⟩ := s.fresh hp
  refine ⟨G.frz p (.tup vs), Lt.frz hp (Lt.lay hp) n, (s.lay hp).frz upd_same n k, ?_⟩
  show ∃ a us, V.ref p = .ref a ∧ SqT B.K (G.frz p (.tup vs)).S a us ∧ Rls B (G.frz p (.tup vs)) ws us
  exact ⟨p, vs, rfl, .inl (.inl frz_at), Rls.gr (frz_gr n) (fun _ _ h => h) _ _ q⟩
theorem newLst {p : Addr} {ws : List W} {vs : List V} (s : StR B G st H) (q : Rls B G ws vs) (hp : H p = none) : ∃ G', Lt G H G' (upd H p (.lst vs)) ∧ StR B G' st (upd H p (.lst vs)) ∧ Rl B G' (.lst ws) (.ref p) := by
  have ⟨n, k⟩ := s.fresh hp
  refine ⟨G.frz p (.lst vs), Lt.frz hp (Lt.lay hp) n, (s.lay hp).frz upd_same n k, ?_⟩
  show ∃ a us, V.ref p = .ref a ∧ SqL B.K (G.frz p (.lst vs)).S a us ∧ Rls B (G.frz p (.lst vs)) ws us
  exact ⟨p, vs, rfl, .inl (.inl frz_at), Rls.gr (frz_gr n) (fun _ _ h => h) _ _ q⟩
/-- a value of the interpreter that is a list, and where it stands -/
theorem lst_at {x : W} {v : V} {xs : List W} (s : StR B G st H) (q : Rl B G x v) (e : lstOf st x = some xs) : ∃ a vs, v = .ref a ∧ SqL B.K H a vs ∧ Rls B G xs vs := by
  have go : ∀ {ys : List W} {a : Addr} {vs : List V}, SqL B.K G.S a vs → Rls B G ys vs → v = .ref a → ys = xs → ∃ a vs, v = .ref a ∧ SqL B.K H a vs ∧ Rls B G xs vs := fun h1 h2 h3 h4 => by
    subst h4; exact ⟨_, _, h3, SqL.gr s.sub h1, h2⟩
  cases x with
  | lst ys =>
    obtain ⟨a, vs, ev, h1, h2⟩ := (show ∃ a vs, v = .ref a ∧ SqL B.K G.S a vs ∧ Rls B G ys vs from q)
    have e' : some ys = some xs := e
    exact go h1 h2 ev (Option.some.inj e')
  | obj k =>
    obtain ⟨a, ev, ea⟩ := (show ∃ a, v = .ref a ∧ G.i k = some a from q)
    cases hm : st.m k with
    | none => simp [lstOf, view, hm] at e
    | some o =>
      cases o with
      | lst ys =>
        obtain ⟨a', e1, _, vs, h1, h2⟩ := s.liv k _ hm
        rw [ea] at e1; cases e1
        have e' : some ys = some xs := by simpa [lstOf, view, hm] using e
        cases e'
        exact ⟨a, vs, ev, .inl (.inl h1), h2⟩
      | dic _ _ => simp [lstOf, view, hm] at e
      | ins _ _ => simp [lstOf, view, hm] at e
  | _ => simp [lstOf, view] at e
theorem seq_at {x : W} {v : V} {xs : List W} (s : StR B G st H) (q : Rl B G x v) (e : seqOf st x = some xs) : ∃ a vs, v = .ref a ∧ (SqL B.K H a vs ∨ SqT B.K H a vs) ∧ Rls B G xs vs := by
  cases x with
  | tup ys =>
    obtain ⟨a, vs, ev, h1, h2⟩ := (show ∃ a vs, v = .ref a ∧ SqT B.K G.S a vs ∧ Rls B G ys vs from q)
    have e' : some ys = some xs := e
    cases e'
    exact ⟨a, vs, ev, .inr (SqT.gr s.sub h1), h2⟩
  | obj k =>
    have e' : lstOf st (.obj k) = some xs := by
      cases hm : st.m k with
      | none => simp [seqOf, view, hm] at e
      | some o => cases o <;> simp [seqOf, view, hm] at e <;> simp [lstOf, view, hm, e]
    obtain ⟨a, vs, h1, h2, h3⟩ := lst_at s q e'
    exact ⟨a, vs, h1, .inl h2, h3⟩
  | lst ys =>
    obtain ⟨a, vs, h1, h2, h3⟩ := lst_at s q (show lstOf st (.lst ys) = some xs from e)
    exact ⟨a, vs, h1, .inl h2, h3⟩
  | _ => simp [seqOf, view] at e
theorem tup_at {x : V} {ys : List W} (s : StR B G st H) (q : Rl B G (.tup ys) x) : ∃ a vs, x = .ref a ∧ SqT B.K H a vs ∧ Rls B G ys vs := by
  obtain ⟨a, vs, ev, h1, h2⟩ := (show ∃ a vs, x = .ref a ∧ SqT B.K G.S a vs ∧ Rls B G ys vs from q)
  exact ⟨a, vs, ev, SqT.gr s.sub h1, h2⟩
theorem Rls.int : ∀ {xs : List W} {vs : List V} {ns : List Int}, Rls B G xs vs → wInts xs = some ns → vs = ns.map V.int
  | [], _, ns, h, e => by cases (show _ = _ from h); cases (show some [] = some ns from e); rfl
  | x :: xs, _, ns, h, e => by
    obtain ⟨v, r, rfl, hx, t⟩ := h
    cases x with
    | int i =>
      have e' : (wInts xs).map (i :: ·) = some ns := e
      cases h2 : wInts xs with
      | none => rw [h2] at e'; cases e'
      | some ms =>
        rw [h2] at e'
        cases e'
        rw [Rls.int t h2, show v = .int i from hx]
        rfl
    | _ => cases e
theorem Rls.bool : ∀ {xs : List W} {vs : List V} {ns : List Bool}, Rls B G xs vs → wBls xs = some ns → vs = ns.map V.bl
  | [], _, ns, h, e => by cases (show _ = _ from h); cases (show some [] = some ns from e); rfl
  | x :: xs, _, ns, h, e => by
    obtain ⟨v, r, rfl, hx, t⟩ := h
    cases x with
    | bl i =>
      have e' : (wBls xs).map (i :: ·) = some ns := e
      cases h2 : wBls xs with
      | none => rw [h2] at e'; cases e'
      | some ms =>
        rw [h2] at e'
        cases e'
        rw [Rls.bool t h2, show v = .bl i from hx]
        rfl
    | _ => cases e
mutual
theorem Rl.dp (s : ∀ a o, G.S a = some o → H a = some o) : ∀ (w : W) (v : V) (d : PyData), Rl B G w v → toPy w = some d → Dp B.K H v d
  | .non, v, d, h, e => by cases (show v = .non from h); cases (show some PyData.none = some d from by simpa [toPy] using e); exact .non
  | .bl b, v, d, h, e => by cases (show v = .bl b from h); cases (show some (PyData.bool b) = some d from by simpa [toPy] using e); exact .bl b
  | .int b, v, d, h, e => by cases (show v = .int b from h); cases (show some (PyData.int b) = some d from by simpa [toPy] using e); exact .int b
  | .str b, v, d, h, e => by cases (show v = .str b from h); cases (show some (PyData.str b) = some d from by simpa [toPy] using e); exact .str b
  | .tup xs, v, d, h, e => by
    obtain ⟨a, vs, ev, h1, h2⟩ := (show ∃ a vs, v = .ref a ∧ SqT B.K G.S a vs ∧ Rls B G xs vs from h)
    subst ev
    cases h3 : toPys xs with
    | none => simp [toPy, h3] at e
    | some ds =>
      have e' : d = .tuple ds := by simpa [toPy, h3] using e.symm
      subst e'
      exact .tup (SqT.gr s h1) (Rls.dp s xs vs ds h2 h3)
  | .lst xs, v, d, h, e => by
    obtain ⟨a, vs, ev, h1, h2⟩ := (show ∃ a vs, v = .ref a ∧ SqL B.K G.S a vs ∧ Rls B G xs vs from h)
    subst ev
    cases h3 : toPys xs with
    | none => simp [toPy, h3] at e
    | some ds =>
      have e' : d = .list ds := by simpa [toPy, h3] using e.symm
      subst e'
      exact .lst (SqL.gr s h1) (Rls.dp s xs vs ds h2 h3)
  | .dic _ _, _, _, _, e => by simp [toPy] at e
  | .ins _ _, _, _, _, e => by simp [toPy] at e
  | .obj _, _, _, _, e => by simp [toPy] at e
  | .exn _ _, _, _, _, e => by simp [toPy] at e
theorem Rls.dp (s : ∀ a o, G.S a = some o → H a = some o) : ∀ (ws : List W) (vs : List V) (ds : List PyData), Rls B G ws vs → toPys ws = some ds → DpAll B.K H vs ds
  | [], vs, ds, h, e => by
    cases (show vs = [] from h)
    cases (show some [] = some ds from by simpa [toPys] using e)
    exact .nil
  | x :: xs, vs, ds, h, e => by
    obtain ⟨v, r, rfl, hx, t⟩ := h
    cases h1 : toPy x with
    | none => simp [toPys, h1] at e
    | some d =>
      cases h2 : toPys xs with
      | none => simp [toPys, h1, h2] at e
      | some es =>
        have e' : ds = d :: es := by simpa [toPys, h1, h2] using e.symm
        subst e'
        exact .cons (Rl.dp s x v d hx h1) (Rls.dp s xs r es t h2)
end
/-- data as it stands, a list that may change too -/
theorem view_dp {w : W} {v : V} {d : PyData} (s : StR B G st H) (h : Rl B G w v) (e : toPy (view st w) = some d) : Dp B.K H v d := by
  cases w with
  | obj k =>
    cases hm : st.m k with
    | none => simp [view, hm, toPy] at e
    | some o =>
      cases o with
      | lst xs =>
        obtain ⟨a, vs, ev, h1, h2⟩ := lst_at (xs := xs) s h (by simp [lstOf, view, hm])
        subst ev
        cases h3 : toPys xs with
        | none => simp [view, hm, toPy, h3] at e
        | some ds =>
          have e' : d = .list ds := by simpa [view, hm, toPy, h3] using e.symm
          subst e'
          exact .lst h1 (Rls.dp s.sub xs vs ds h2 h3)
      | _ => simp [view, hm, toPy] at e
  | _ => exact Rl.dp s.sub _ v d h e

/-! ### a value's truth -/
theorem tru_at {w : W} {v : V} {b : Bool} (s : StR B G st H) (h : Rl B G w v) (e : tru st w = some b) : TruV B.K v H b := by
  cases w with
  | non => cases (show v = .non from h); cases (show some false = some b from e); exact rfl
  | bl c => cases (show v = .bl c from h); cases (show some c = some b from e); exact rfl
  | int c => cases (show v = .int c from h); cases (show some (c != 0) = some b from e); exact rfl
  | str x =>
    cases (show v = .str x from h)
    unfold tru at e
    simp only at e
    split at e
    · cases e; exact ⟨by assumption, rfl⟩
    · cases e
  | tup xs =>
    obtain ⟨a, vs, ev, h1, h2⟩ := tup_at s h
    subst ev
    cases (show some (!xs.isEmpty) = some b from e)
    refine .inr (.inl ⟨vs, h1, ?_⟩)
    cases xs <;> cases vs <;> first | rfl | (have := h2.len; simp at this)
  | lst xs =>
    obtain ⟨a, vs, ev, h1, h2⟩ := lst_at s h (show lstOf st (.lst xs) = some xs from rfl)
    subst ev
    cases (show some (!xs.isEmpty) = some b from e)
    refine .inl ⟨vs, h1, ?_⟩
    cases xs <;> cases vs <;> first | rfl | (have := h2.len; simp at this)
  | obj k =>
    unfold tru at e
    simp only at e
    split at e
    · rename_i xs hm
      obtain ⟨a, vs, ev, h1, h2⟩ := lst_at (xs := xs) s h (by simp [lstOf, view, *])
      subst ev
      cases e
      refine .inl ⟨vs, h1, ?_⟩
      cases xs <;> cases vs <;> first | rfl | (have := h2.len; simp at this)
    · cases e
  | _ => cases e
end

/-! ### a step that changes nothing, by values -/
/-- what follows a value w that is reckoned at (G, st, H) -/
def Then (B : Bs) (G : Rg) (st : Sto) (H : Hp) (w : W) (Q : VK) : Prop := ∀ z G' H', Lt G H G' H' → StR B G' st H' → Rl B G' w z → Q z H'
theorem Then.now {B : Bs} {G : Rg} {st : Sto} {H : Hp} {w : W} {Q : VK} {z : V} (h : Then B G st H w Q) (s : StR B G st H) (q : Rl B G w z) : Q z H := h z G H Lt.rfl s q
def R2of (B : Bs) (f : W → W → Sto → Option W) : R2 := fun x y H Q => ∃ G st u v w, StR B G st H ∧ Rl B G u x ∧ Rl B G v y ∧ f u v st = some w ∧ Then B G st H w Q
def R1of (B : Bs) (f : W → Sto → Option W) : V → Hp → VK → Prop := fun x H Q => ∃ G st u w, StR B G st H ∧ Rl B G u x ∧ f u st = some w ∧ Then B G st H w Q
def RLof (B : Bs) (f : List W → Sto → Option W) : List V → Hp → VK → Prop := fun xs H Q => ∃ G st us w, StR B G st H ∧ Rls B G us xs ∧ f us st = some w ∧ Then B G st H w Q
section
variable {B : Bs} {W' : WX} {σ : L2.St} {H : Hp} {Q : VK}
theorem op_of {ma mb : En → M W} {f : W → W → Sto → Option W} (h : tE B W' (fun r => (ma r).bnd fun x => (mb r).bnd fun y => M.look (f x y)) σ H Q) : tOp (R2of B f) (tE B W' ma) (tE B W' mb) σ H Q := by
  obtain ⟨G, r, st, s, e, h⟩ := h
  refine ⟨G, r, st, s, e, Aft.bnd h fun x G1 H1 u st1 l1 s1 q1 h1 => ?_⟩
  refine ⟨G1, r, st1, s1, e.lt l1, Aft.bnd h1 fun y G2 H2 v st2 l2 s2 q2 h2 => ?_⟩
  obtain ⟨w, hw, h3⟩ := Aft.look h2
  exact ⟨G2, st2, u, v, w, s2, q1.lt l2, q2, hw, fun z G' H' l' s' q' => h3 z G' H' l' s' q'⟩
theorem un_of {ma : En → M W} {f : W → Sto → Option W} (h : tE B W' (fun r => (ma r).bnd fun x => M.look (f x)) σ H Q) : tUn (R1of B f) (tE B W' ma) σ H Q := by
  obtain ⟨G, r, st, s, e, h⟩ := h
  refine ⟨G, r, st, s, e, Aft.bnd h fun x G1 H1 u st1 l1 s1 q1 h1 => ?_⟩
  obtain ⟨w, hw, h3⟩ := Aft.look h1
  exact ⟨G1, st1, u, w, s1, q1, hw, fun z G' H' l' s' q' => h3 z G' H' l' s' q'⟩
theorem cb_of {ma : En → M (List W)} {f : List W → Sto → Option W} (h : tE B W' (fun r => (ma r).bnd fun x => M.look (f x)) σ H Q) : tCB (RLof B f) (tAr B W' ma) σ H Q := by
  obtain ⟨G, r, st, s, e, h⟩ := h
  refine ⟨G, r, st, s, e, Aft.bnd h fun x G1 H1 u st1 l1 s1 q1 h1 => ?_⟩
  obtain ⟨w, hw, h3⟩ := Aft.look h1
  exact ⟨G1, st1, u, w, s1, q1, hw, fun z G' H' l' s' q' => h3 z G' H' l' s' q'⟩
end
section
variable {X : Cx} {B : Bs}
/-- two lists, wherever they stand -/
theorem op_catR : OpR X (binaryOp .Add) (fun x y H Q => ∃ l b xs zs, x = .ref l ∧ y = .ref b ∧ SqL X.K H l xs ∧ SqL X.K H b zs ∧ xs.length + zs.length ≤ sizeLine ∧ ∀ p, H p = none → Q (.ref p) (upd H p (.lst (xs ++ zs)))) := by
  intro pins s σ H x y v u Q I rx ry h
  obtain ⟨l, b, xs, zs, rfl, rfl, h1, h2, hz, q⟩ := h
  cases rx
  cases ry
  obtain ⟨i1, r1, ⟨⟨c1, d1, t1, k1⟩, n1, e1, a1, b1, g1⟩, _⟩ := I.list h1
  obtain ⟨i2, r2, ⟨⟨c2, d2, t2, k2⟩, n2, e2, a2, b2, g2⟩, _⟩ := I.list h2
  simp only at a1 b1 g1 a2 b2 g2
  subst a1 b1 g1 a2 b2 g2
  have z1 := r1.length
  have z2 := r2.length
  refine concat_meets ⟨_, e1, rfl⟩ ⟨_, e2, rfl⟩ noFill_list_add seq_list_add PySem.F.slot_list_add PySem.F.entry_list_add (PySem.F.args_list_add_2 _ _)
    (PyProof.Rows.list_addW l b i1.toArray i2.toArray n1 n2 none none k1 k2 (by simp only [List.size_toArray]; omega)) ⟨e1, e2, ?_⟩
  rw [show i1.toArray ++ i2.toArray = (i1 ++ i2).toArray by simp]
  exact ⟨.ref _, _, I.lnew (t' := s.toks) (r1.append r2) (by rw [List.length_append]; exact hz), rfl, q _ I.fresh⟩
def bopOk (o : Bop) (op : Operator) : Bool := match o, op with | .add, .Add => true | .sub, .Sub => true | .mul, .Mult => true | .fdiv, .FloorDiv => true | .mod, .Mod => true | .pow, .Pow => true | _, _ => false
theorem or_bop (hK : X.K = B.K) {o : Bop} {op : Operator} (ho : bopOk o op = true) :
    OpR X (binaryOp op) (R2of B (bop o)) := by
  intro pins s σ H x y v u Q I rx ry h
  obtain ⟨G, st, a, b, w, sr, ra, rb, hw, q⟩ := h
  have two : ∀ {i j : Int} {k : Int}, a = .int i → b = .int j → w = .int k → ∃ (_ : x = .int i) (_ : y = .int j), Q (.int k) H := fun {i j k} e1 e2 e3 => by
    subst e1 e2 e3
    exact ⟨ra, rb, q.now sr rfl⟩
  cases o <;> cases op <;> first | cases ho | skip
  · -- add
    have lists : ((lstOf st a).bind fun xs => (lstOf st b).bind fun ys => if xs.length + ys.length ≤ sizeLine then some (W.lst (xs ++ ys)) else none) = some w → wpAny (model X.prog X.w) X.A (binaryOp .Add v u) (EP X pins σ Q) X.xe s := fun hw => by
      cases h1 : lstOf st a with
      | none => rw [h1] at hw; cases hw
      | some xs =>
        rw [h1] at hw
        cases h2 : lstOf st b with
        | none => rw [h2] at hw; cases hw
        | some ys =>
          rw [h2] at hw
          obtain ⟨l, vs, e1, d1, k1⟩ := lst_at sr ra h1
          obtain ⟨m, us, e2, d2, k2⟩ := lst_at sr rb h2
          have hw' : (if xs.length + ys.length ≤ sizeLine then some (W.lst (xs ++ ys)) else none) = some w := hw
          split at hw'
          · rename_i hz
            cases hw'
            refine op_catR pins s σ H x y v u Q I rx ry ⟨l, m, vs, us, e1, e2, by rw [hK]; exact d1, by rw [hK]; exact d2, by rw [← k1.len, ← k2.len]; exact hz, fun p hp => ?_⟩
            obtain ⟨G', l', s', q'⟩ := newLst sr (k1.app k2) hp
            exact q _ _ _ l' s' q'
          · cases hw'
    cases a <;> cases b <;> first
      | exact lists hw
      | skip
    · obtain ⟨e1, e2, q⟩ := two rfl rfl (Option.some.inj hw).symm
      exact op_add pins s σ H x y v u Q I rx ry ⟨_, _, e1, e2, q⟩
    · rename_i i j
      have hw' : (if i.length + j.length ≤ sizeLine then some (W.str (i ++ j)) else none) = some w := hw
      split at hw'
      · rename_i hz
        cases hw'
        exact op_add_str pins s σ H x y v u Q I rx ry ⟨i, j, ra, rb, hz, q.now sr rfl⟩
      · cases hw'
    · rename_i i j
      have hw' : (if i.length + j.length ≤ sizeLine then some (W.tup (i ++ j)) else none) = some w := hw
      split at hw'
      · rename_i hz
        cases hw'
        obtain ⟨l, vs, e1, d1, k1⟩ := tup_at sr ra
        obtain ⟨m, us, e2, d2, k2⟩ := tup_at sr rb
        refine op_catA pins s σ H x y v u Q I rx ry ⟨l, m, vs, us, e1, e2, by rw [hK]; exact d1, by rw [hK]; exact d2, by rw [← k1.len, ← k2.len]; exact hz, fun z => ?_, fun z1 z2 => ?_, fun z1 z2 p hp => ?_⟩
        · have : i = [] := by cases i with | nil => rfl | cons _ _ => (have := k1.len; rw [z] at this; simp at this)
          subst this
          rw [← e2]
          exact q.now sr rb
        · have : j = [] := by cases j with | nil => rfl | cons _ _ => (have := k2.len; rw [z2] at this; simp at this)
          subst this
          rw [← e1]
          refine q.now sr ?_
          rw [List.append_nil]; exact ra
        · obtain ⟨G', l', s', q'⟩ := newTup sr (k1.app k2) hp
          exact q _ _ _ l' s' q'
      · cases hw'
  · -- sub
    cases a <;> cases b <;> first | cases hw | skip
    obtain ⟨e1, e2, q⟩ := two rfl rfl rfl
    exact op_sub pins s σ H x y v u Q I rx ry ⟨_, _, e1, e2, q⟩
  · cases a <;> cases b <;> first | cases hw | skip
    rename_i i j
    have hw' : (if i.natAbs.log2 + j.natAbs.log2 < 1000000 then some (W.int (i * j)) else none) = some w := hw
    split at hw'
    · rename_i hz
      cases hw'
      exact op_mulW pins s σ H x y v u Q I rx ry ⟨_, _, ra, rb, hz, q.now sr rfl⟩
    · cases hw'
  · cases a <;> cases b <;> first | cases hw | skip
    rename_i i j
    have hw' : (if 0 < j ∧ j.natAbs.log2 < 9000 then some (W.int (i / j)) else none) = some w := hw
    split at hw'
    · rename_i hz
      cases hw'
      exact op_fdivW pins s σ H x y v u Q I rx ry ⟨_, _, ra, rb, hz, q.now sr rfl⟩
    · cases hw'
  · cases a <;> cases b <;> first | cases hw | skip
    rename_i i j
    have hw' : (if 0 < j then some (W.int (i % j)) else none) = some w := hw
    split at hw'
    · rename_i hz
      cases hw'
      exact op_mod pins s σ H x y v u Q I rx ry ⟨_, _, ra, rb, hz, q.now sr rfl⟩
    · cases hw'
  · cases a <;> cases b <;> first | cases hw | skip
    rename_i i j
    have hw' : (if 0 ≤ j ∧ j ≤ 1000000 ∧ i.natAbs < 2 ^ 64 then some (W.int (i ^ j.toNat)) else none) = some w := hw
    split at hw'
    · rename_i hz
      cases hw'
      exact op_pow pins s σ H x y v u Q I rx ry ⟨_, _, ra, rb, hz, q.now sr rfl⟩
    · cases hw'
end
end Ip
/-! Ip5: comparisons, built-in functions, isinstance, subscripts, slices. -/
namespace Ip
open PySem L2 PySem.Spec PyProof.Rows
def copOk (o : Cop) (op : CmpOp) : Bool := match o, op with
  | .eq, .Eq => true | .ne, .NotEq => true | .lt, .Lt => true | .le, .LtE => true | .gt, .Gt => true | .ge, .GtE => true
  | .is_, .Is => true | .isn, .IsNot => true | .in_, .In => true | .nin, .NotIn => true | _, _ => false
section
variable {X : Cx} {B : Bs} {G : Rg} {H : Hp} {st : Sto}
/-- two texts, or data -/
theorem eqW_at {x y : W} {v u : V} {b : Bool} (s : StR B G st H) (rx : Rl B G x v) (ry : Rl B G y u) (h : eqW x y st = some b) :
    (∃ i j : Str, v = .str i ∧ u = .str j ∧ b = decide (i = j)) ∨ ∃ d e, Dp B.K H v d ∧ Dp B.K H u e ∧ SeqAt.shaped d = true ∧ SeqAt.shaped e = true ∧ b = PyData.eqv d e := by
  unfold eqW at h
  cases hs : strs? x y with
  | some p =>
    left
    rw [hs] at h
    cases h
    cases x <;> cases y <;> first | (cases hs; done) | skip
    cases hs
    exact ⟨_, _, rx, ry, rfl⟩
  | none =>
    right
    rw [hs] at h
    simp only at h
    cases h1 : toPy (view st x) with
    | none => rw [h1] at h; cases h
    | some d =>
      rw [h1] at h
      cases h2 : toPy (view st y) with
      | none => rw [h2] at h; cases h
      | some e =>
        rw [h2] at h
        have h' : (if SeqAt.shaped d = true ∧ SeqAt.shaped e = true then some (PyData.eqv d e) else none) = some b := h
        split at h'
        · rename_i hz
          cases h'
          exact ⟨d, e, view_dp s rx h1, view_dp s ry h2, hz.1, hz.2, rfl⟩
        · cases h'
theorem map_some {α β : Type} {f : α → β} {o : Option α} {b : β} (h : o.map f = some b) : ∃ a, o = some a ∧ f a = b := by
  cases o with
  | none => cases h
  | some a => exact ⟨a, rfl, Option.some.inj h⟩
theorem bind_some {α β : Type} {f : α → Option β} {o : Option α} {b : β} (h : o.bind f = some b) : ∃ a, o = some a ∧ f a = some b := by
  cases o with
  | none => cases h
  | some a => exact ⟨a, rfl, h⟩
theorem ite_some {α : Type} {c : Prop} [Decidable c] {a b : α} (h : (if c then some a else none) = some b) : c ∧ a = b := by
  split at h
  · exact ⟨by assumption, Option.some.inj h⟩
  · cases h
theorem Rl.non_iff {w : W} {v : V} (h : Rl B G w v) : v = .non ↔ w = .non := by
  constructor
  · intro e
    subst e
    cases w with
    | non => rfl
    | bl b => cases (show V.non = .bl b from h)
    | int b => cases (show V.non = .int b from h)
    | str b => cases (show V.non = .str b from h)
    | tup xs => obtain ⟨a, vs, e, _⟩ := (show ∃ a vs, V.non = .ref a ∧ _ from h); cases e
    | lst xs => obtain ⟨a, vs, e, _⟩ := (show ∃ a vs, V.non = .ref a ∧ _ from h); cases e
    | dic _ _ => exact (show False from h).elim
    | ins c fs => obtain ⟨a, dx, gs, us, e, _⟩ := (show ∃ a dx gs us, V.non = .ref a ∧ _ from h); cases e
    | obj k => obtain ⟨a, e, _⟩ := (show ∃ a, V.non = .ref a ∧ _ from h); cases e
    | exn _ _ => exact (show False from h).elim
  · intro e; subst e; exact h
theorem or_cop (hK : X.K = B.K) (hu : X.A.units + 64 < cLine) {o : Cop} {op : CmpOp} (ho : copOk o op = true) : OpR X (compareOp op) (R2of B (cop o)) := by
  intro pins s σ H x y v u Q I rx ry h
  obtain ⟨G, st, a, b, w, sr, ra, rb, hw, q⟩ := h
  cases o <;> cases op <;> first | cases ho | skip
  · obtain ⟨k, hk, e⟩ := map_some (show (eqW a b st).map W.bl = some w from hw)
    subst e
    rcases eqW_at sr ra rb hk with ⟨i, j, rfl, rfl, rfl⟩ | ⟨d, e, h1, h2, h3, h4, h5⟩
    · refine op_eq pins s σ H _ _ v u Q I rx ry ⟨rfl, ?_⟩
      have z := q.now sr (show Rl B G (.bl (decide (i = j))) (.bl (decide (V.str i = V.str j))) from congrArg V.bl (by
        rw [Bool.eq_iff_iff]
        simp))
      exact z
    subst h5
    exact op_eqD hu pins s σ H x y v u Q I rx ry ⟨d, e, by rw [hK]; exact h1, by rw [hK]; exact h2, h3, h4, q.now sr rfl⟩
  · obtain ⟨k, hk, e⟩ := map_some (show (eqW a b st).map (fun b => W.bl (!b)) = some w from hw)
    subst e
    rcases eqW_at sr ra rb hk with ⟨i, j, rfl, rfl, rfl⟩ | ⟨d, e, h1, h2, h3, h4, h5⟩
    · refine op_ne pins s σ H _ _ v u Q I rx ry ⟨rfl, ?_⟩
      have z := q.now sr (show Rl B G (.bl (!decide (i = j))) (.bl (!decide (V.str i = V.str j))) from congrArg V.bl (congrArg not (by
        rw [Bool.eq_iff_iff]
        simp)))
      exact z
    subst h5
    exact op_neD hu pins s σ H x y v u Q I rx ry ⟨d, e, by rw [hK]; exact h1, by rw [hK]; exact h2, h3, h4, q.now sr rfl⟩
  · cases a <;> cases b <;> first | cases hw | skip
    · exact op_lt pins s σ H x y v u Q I rx ry ⟨_, _, ra, rb, q.now sr rfl⟩
    · rename_i xs ys
      obtain ⟨ns, h1, hw⟩ := bind_some (show ((wInts xs).bind fun ns => (wInts ys).bind fun ms => some (W.bl (HT.lexLt ns ms))) = some w from hw)
      obtain ⟨ms, h2, hw⟩ := bind_some hw
      cases hw
      obtain ⟨l, vs, e1, d1, k1⟩ := tup_at sr ra
      obtain ⟨m, us, e2, d2, k2⟩ := tup_at sr rb
      rw [Rls.int k1 h1] at d1
      rw [Rls.int k2 h2] at d2
      exact op_ltT (by omega) pins s σ H x y v u Q I rx ry ⟨l, m, ns, ms, e1, e2, by rw [hK]; exact d1, by rw [hK]; exact d2, q.now sr rfl⟩
  · cases a <;> cases b <;> first | cases hw | skip
    exact op_le pins s σ H x y v u Q I rx ry ⟨_, _, ra, rb, q.now sr rfl⟩
  · cases a <;> cases b <;> first | cases hw | skip
    exact op_gt pins s σ H x y v u Q I rx ry ⟨_, _, ra, rb, q.now sr rfl⟩
  · cases a <;> cases b <;> first | cases hw | skip
    exact op_ge pins s σ H x y v u Q I rx ry ⟨_, _, ra, rb, q.now sr rfl⟩
  · have hb : b = .non ∧ w = .bl (decide (x = .non)) := by
      have hn := ra.non_iff
      cases a <;> cases b <;> first | cases hw | skip
      all_goals (refine ⟨rfl, ?_⟩; congr 1; first | exact (decide_eq_true (hn.mpr rfl)).symm | exact (decide_eq_false (fun z => by have := hn.mp z; cases this)).symm)
    obtain ⟨rfl, rfl⟩ := hb
    exact op_isN pins s σ H x y v u Q I rx ry ⟨rb, q.now sr rfl⟩
  · have hb : b = .non ∧ w = .bl (!decide (x = .non)) := by
      have hn := ra.non_iff
      cases a <;> cases b <;> first | cases hw | skip
      all_goals (refine ⟨rfl, ?_⟩; congr 1; first | (rw [decide_eq_true (hn.mpr rfl)]; rfl) | (rw [decide_eq_false (fun z => by have := hn.mp z; cases this)]; rfl))
    obtain ⟨rfl, rfl⟩ := hb
    exact op_notN pins s σ H x y v u Q I rx ry ⟨rb, q.now sr rfl⟩
  · obtain ⟨k, hk, e⟩ := map_some (show (inW a b st).map W.bl = some w from hw)
    subst e
    cases a <;> cases b <;> first | cases hk | skip
    rename_i i j
    exact op_in_str pins s σ H x y v u Q I rx ry ⟨i, j, ra, rb, q.now sr rfl⟩
  · obtain ⟨k, hk, e⟩ := map_some (show (inW a b st).map (fun b => W.bl (!b)) = some w from hw)
    subst e
    cases a <;> cases b <;> first | cases hk | skip
    rename_i i j
    exact op_notin_str pins s σ H x y v u Q I rx ry ⟨i, j, ra, rb, q.now sr rfl⟩

/-! ### built-in functions -/
theorem one_of {f : List W → Sto → Option W} {vs : List V} {Q : VK} (hf : ∀ xs st w, f xs st = some w → ∃ x, xs = [x]) (h : RLof B f vs H Q) :
    ∃ G st x v w, StR B G st H ∧ Rl B G x v ∧ vs = [v] ∧ f [x] st = some w ∧ Then B G st H w Q := by
  obtain ⟨G, st, us, w, s, r, hw, q⟩ := h
  obtain ⟨x, rfl⟩ := hf us st w hw
  obtain ⟨v, r', rfl, hx, t⟩ := r
  cases (show r' = [] from t)
  exact ⟨G, st, x, v, w, s, hx, rfl, hw, q⟩
theorem bfn_one {b : Bf} (hb : b ≠ .max2 ∧ b ≠ .min2) : ∀ xs st w, bfn b xs st = some w → ∃ x, xs = [x] := by
  intro xs st w h
  match xs, h with
  | [x], _ => exact ⟨x, rfl⟩
  | [], h => cases b <;> simp [bfn] at h
  | [x, y], h => cases b <;> first | exact absurd rfl hb.1 | exact absurd rfl hb.2 | simp [bfn] at h
  | x :: y :: z :: r, h => cases b <;> simp [bfn] at h
theorem cr_len : CallR X (.builtin "len") (RLof B (bfn .len)) → True := fun _ => trivial
theorem c_len (hK : X.K = B.K) : CallR X (.builtin "len") (RLof B (bfn .len)) := by
  intro pins s σ H vs us Q I rv h
  obtain ⟨G, st, x, v, w, sr, rx, rfl, hw, q⟩ := one_of (bfn_one ⟨by decide, by decide⟩) h
  by_cases hs : ∃ z, x = .str z
  · obtain ⟨z, rfl⟩ := hs
    obtain ⟨hz, rfl⟩ := ite_some (show (if z.length ≤ sizeLine then some (W.int z.length) else none) = some w from hw)
    cases (show v = .str z from rx)
    exact call_len pins s σ H _ us Q I rv ⟨_, z.length, rfl, ⟨hz, rfl⟩, q.now sr rfl⟩
  · have hw' : (seqOf st x).map (fun l => W.int l.length) = some w := by
      cases x <;> first | exact hw | exact absurd ⟨_, rfl⟩ hs
    obtain ⟨l, hl, rfl⟩ := map_some hw'
    obtain ⟨a, xs, rfl, h1, h2⟩ := seq_at sr rx hl
    refine call_len pins s σ H _ us Q I rv ⟨_, l.length, rfl, ?_, q.now sr rfl⟩
    rcases h1 with h1 | h1
    · exact .inl ⟨xs, by rw [hK]; exact h1, h2.len⟩
    · exact .inr ⟨xs, by rw [hK]; exact h1, h2.len⟩
theorem c_abs : CallR X (.builtin "abs") (RLof B (bfn .abs)) := by
  intro pins s σ H vs us Q I rv h
  obtain ⟨G, st, x, v, w, sr, rx, rfl, hw, q⟩ := one_of (bfn_one ⟨by decide, by decide⟩) h
  cases x <;> first | cases hw | skip
  rename_i i
  exact call_abs pins s σ H _ us Q I rv ⟨i, by rw [show v = .int i from rx], q.now sr rfl⟩
theorem c_int : CallR X (.type "int") (RLof B (bfn .int)) := by
  intro pins s σ H vs us Q I rv h
  obtain ⟨G, st, x, v, w, sr, rx, rfl, hw, q⟩ := one_of (bfn_one ⟨by decide, by decide⟩) h
  cases x <;> first | cases hw | skip
  · rename_i i
    exact call_int1 pins s σ H _ us Q I rv (.inr ⟨i, by rw [show v = .bl i from rx], q.now sr rfl⟩)
  · rename_i i
    exact call_int1 pins s σ H _ us Q I rv (.inl ⟨i, by rw [show v = .int i from rx], q.now sr rfl⟩)
theorem lstTup {pins : List (Addr × Obj)} {σ : L2.St} {H : Hp} {s : Shared} {a : Addr} {xs ys : List V} (I : Inv X pins σ H s) (h : SqT X.K H a xs) (h' : SqL X.K H a ys) : False := by
  obtain ⟨its, r, ⟨o, e, c, _⟩, _⟩ := I.tuple h
  obtain ⟨i2, _, ⟨o2, n, e2, c2, _⟩, _⟩ := I.list h'
  rw [e] at e2
  cases e2
  rw [c] at c2
  exact absurd (show Value.type "tuple" = Value.type "list" from c2) (by decide)
theorem c_tuple (hK : X.K = B.K) : CallR X (.type "tuple") (RLof B (bfn .tuple)) := by
  intro pins s σ H vs us Q I rv h
  obtain ⟨G, st, x, v, w, sr, rx, rfl, hw, q⟩ := one_of (bfn_one ⟨by decide, by decide⟩) h
  obtain ⟨l, hl, rfl⟩ := map_some (show (seqOf st x).map W.tup = some w from hw)
  obtain ⟨a, xs, rfl, h1, h2⟩ := seq_at sr rx hl
  refine call_tuple_of pins s σ H _ us Q I rv ⟨a, xs, rfl, ?_⟩
  rcases h1 with h1 | h1
  · refine .inl ⟨by rw [hK]; exact h1, fun p hp => ?_⟩
    obtain ⟨G', l', s', q'⟩ := newTup sr h2 hp
    exact q _ _ _ l' s' q'
  · refine .inr ⟨by rw [hK]; exact h1, ?_⟩
    cases x with
    | tup ys =>
      have : ys = l := Option.some.inj (show some ys = some l from hl)
      subst this
      exact q.now sr rx
    | lst ys =>
      obtain ⟨a', vs', e1, d1, _⟩ := lst_at (xs := ys) sr rx rfl
      exact (lstTup I (by rw [← hK] at h1; exact h1) (by cases e1; rw [hK]; exact d1)).elim
    | obj k =>
      have hl2 : lstOf st (.obj k) = some l := by
        cases hm : st.m k with
        | none => simp [seqOf, view, hm] at hl
        | some o => cases o <;> simp [seqOf, view, hm] at hl <;> simp [lstOf, view, hm, hl]
      obtain ⟨a', vs', e1, d1, _⟩ := lst_at sr rx hl2
      exact (lstTup I (by rw [← hK] at h1; exact h1) (by cases e1; rw [hK]; exact d1)).elim
    | _ => simp [seqOf, view] at hl
theorem c_all (hK : X.K = B.K) (hc : X.calm = true) : CallR X (.builtin "all") (RLof B (bfn .all)) := by
  intro pins s σ H vs us Q I rv h
  obtain ⟨G, st, x, v, w, sr, rx, rfl, hw, q⟩ := one_of (bfn_one ⟨by decide, by decide⟩) h
  obtain ⟨l, hl, hw⟩ := bind_some (show ((lstOf st x).bind fun l => (wBls l).map fun bs => W.bl (bs.all id)) = some w from hw)
  obtain ⟨bs, hb, rfl⟩ := map_some hw
  obtain ⟨a, xs, rfl, h1, h2⟩ := lst_at sr rx hl
  rw [Rls.bool h2 hb] at h1
  exact cr_all hc pins s σ H _ us Q I rv ⟨a, bs, rfl, by rw [hK]; exact h1, q.now sr rfl⟩
theorem c_any (hK : X.K = B.K) (hc : X.calm = true) : CallR X (.builtin "any") (RLof B (bfn .any)) := by
  intro pins s σ H vs us Q I rv h
  obtain ⟨G, st, x, v, w, sr, rx, rfl, hw, q⟩ := one_of (bfn_one ⟨by decide, by decide⟩) h
  obtain ⟨l, hl, hw⟩ := bind_some (show ((lstOf st x).bind fun l => (wBls l).map fun bs => W.bl (bs.any id)) = some w from hw)
  obtain ⟨bs, hb, rfl⟩ := map_some hw
  obtain ⟨a, xs, rfl, h1, h2⟩ := lst_at sr rx hl
  rw [Rls.bool h2 hb] at h1
  exact cr_any hc pins s σ H _ us Q I rv ⟨a, bs, rfl, by rw [hK]; exact h1, q.now sr rfl⟩
theorem c_sum (hK : X.K = B.K) (hc : X.calm = true) : CallR X (.builtin "sum") (RLof B (bfn .sum)) := by
  intro pins s σ H vs us Q I rv h
  obtain ⟨G, st, x, v, w, sr, rx, rfl, hw, q⟩ := one_of (bfn_one ⟨by decide, by decide⟩) h
  obtain ⟨l, hl, hw⟩ := bind_some (show ((lstOf st x).bind fun l => (wInts l).map fun bs => W.int bs.sum) = some w from hw)
  obtain ⟨bs, hb, rfl⟩ := map_some hw
  obtain ⟨a, xs, rfl, h1, h2⟩ := lst_at sr rx hl
  rw [Rls.int h2 hb] at h1
  exact cr_sum hc pins s σ H _ us Q I rv ⟨a, bs, rfl, by rw [hK]; exact h1, q.now sr rfl⟩
def mmI : Bf → Int → Int → Int
  | .max2, i, j => if j > i then j else i
  | _, i, j => if j < i then j else i
theorem two_of {b : Bf} {vs : List V} {Q : VK} (hb : b = .max2 ∨ b = .min2) (h : RLof B (bfn b) vs H Q) :
    ∃ G st i j, StR B G st H ∧ vs = [.int i, .int j] ∧ Then B G st H (.int (mmI b i j)) Q := by
  obtain ⟨G, st, us, w, s, r, hw, q⟩ := h
  have : ∃ i j, us = [.int i, .int j] ∧ w = .int (mmI b i j) := by
    match us, hw with
    | [], hw => rcases hb with rfl | rfl <;> simp [bfn] at hw
    | [x], hw => rcases hb with rfl | rfl <;> simp [bfn] at hw
    | x :: y :: z :: r, hw => rcases hb with rfl | rfl <;> simp [bfn] at hw
    | [x, y], hw => rcases hb with rfl | rfl <;> cases x <;> cases y <;> first | (simp [bfn] at hw; done) | (simp only [bfn] at hw; exact ⟨_, _, rfl, (Option.some.inj hw).symm⟩)
  obtain ⟨i, j, rfl, rfl⟩ := this
  obtain ⟨v, r', rfl, hx, u, r'', rfl, hy, t⟩ := r
  cases (show r'' = [] from t)
  exact ⟨G, st, i, j, s, by rw [show v = .int i from hx, show u = .int j from hy], q⟩
theorem c_max2 (hc : X.calm = true) : CallR X (.builtin "max") (RLof B (bfn .max2)) := by
  intro pins s σ H vs us Q I rv h
  obtain ⟨G, st, i, j, sr, rfl, q⟩ := two_of (.inl rfl) h
  exact call_max2 hc pins s σ H _ us Q I rv ⟨i, j, rfl, q.now sr rfl⟩
theorem c_min2 (hc : X.calm = true) : CallR X (.builtin "min") (RLof B (bfn .min2)) := by
  intro pins s σ H vs us Q I rv h
  obtain ⟨G, st, i, j, sr, rfl, q⟩ := two_of (.inr rfl) h
  exact call_min2 hc pins s σ H _ us Q I rv ⟨i, j, rfl, q.now sr rfl⟩
theorem c_repr (hK : X.K = B.K) (hg : X.A.guards = some []) (hu : X.A.units + 100 < cLine) : CallR X (.builtin "repr") (RLof B (bfn .repr)) := by
  intro pins s σ H vs us Q I rv h
  obtain ⟨G, st, x, v, w, sr, rx, rfl, hw, q⟩ := one_of (bfn_one ⟨by decide, by decide⟩) h
  obtain ⟨d, hd, hw⟩ := bind_some (show ((toPy (view st x)).bind fun d => if SeqAt.shaped d = true ∧ d.showable = true ∧ d.shown.length ≤ sizeLine then some (W.str d.shown) else none) = some w from hw)
  obtain ⟨⟨h1, h2, h3⟩, rfl⟩ := ite_some hw
  have dp := view_dp sr rx hd
  have hn : d.hasDict = false := PyData.hasDict_of_canLay d (SeqAt.canLay_of_shaped h1)
  have hq : Q (.str d.shown) H := q.now sr rfl
  obtain ⟨u, rfl, ru⟩ := vals1 rv
  have fin : ∀ tk u', EP X pins σ Q (.str d.shown u') { s with toks := tk } := fun tk u' => ⟨.str d.shown, H, I.tok tk, ⟨u', rfl⟩, hq⟩
  cases dp with
  | non =>
    cases ru
    rw [PyData.shown_none] at fin
    exact PySem.P.repr_of_none (fin _ _)
  | bl b =>
    cases ru
    rw [PyData.shown_bool] at fin
    exact PySem.P.repr_of_bool (by
      have := fin (s.toks + 1) s.toks
      cases b <;> exact this)
  | int i =>
    obtain ⟨t, rfl⟩ := ru
    rw [PyData.shown_int] at fin
    have h2' : i.natAbs.log2 < 1920 := by simpa [PyData.showable] using h2
    exact PySem.P.repr_of_int h2' (fin _ _)
  | str z =>
    obtain ⟨t, rfl⟩ := ru
    rw [PyData.shown_str] at fin h3
    exact PySem.P.repr_of_str (fin _ _) h3
  | @lst a ys ds hs ha =>
    cases ru
    obtain ⟨as, r1⟩ := Dp.reads I _ _ _ (show Dp X.K H (.ref a) (.list ds) from by rw [hK]; exact .lst hs ha) (show L2.RelV (.ref a) (.ref a) from rfl)
    have hdep := SeqAt.depth_of_shaped h1
    exact repr_of_reads' r1 h2 (PyData.noDict_hsm hn) hg (by omega) (fun _ _ e => e) (fun h' u' tk hk => ⟨.str _, H, I.kept (t' := tk) hk, ⟨u', rfl⟩, hq⟩) h3
  | @tup a ys ds hs ha =>
    cases ru
    obtain ⟨as, r1⟩ := Dp.reads I _ _ _ (show Dp X.K H (.ref a) (.tuple ds) from by rw [hK]; exact .tup hs ha) (show L2.RelV (.ref a) (.ref a) from rfl)
    have hdep := SeqAt.depth_of_shaped h1
    exact repr_of_reads' r1 h2 (PyData.noDict_hsm hn) hg (by omega) (fun _ _ e => e) (fun h' u' tk hk => ⟨.str _, H, I.kept (t' := tk) hk, ⟨u', rfl⟩, hq⟩) h3
end
end Ip
/-! Ip6: subscripts, slices, targets, walks, comprehensions. -/
namespace Ip
open PySem L2 PySem.Spec PyProof.Rows
theorem M.assoc {α β γ : Type} (m : M α) (f : α → M β) (g : β → M γ) : (m.bnd f).bnd g = m.bnd fun a => (f a).bnd g := by
  funext st
  show (match (match m st with
    | .ok a s => f a s
    | .exc c p s => .exc c p s
    | .stuck => .stuck) with
    | .ok a s => g a s
    | .exc c p s => .exc c p s
    | .stuck => .stuck) = _
  unfold M.bnd
  cases m st <;> rfl
section
variable {B : Bs} {W' : WX} {G G' : Rg} {H H' : Hp} {r : En} {σ : L2.St} {st st' : Sto}
theorem Aft.bndE {α β γ δ : Type} {rel : Rg → Hp → α → β → Prop} {rel2 : Rg → Hp → γ → δ → Prop} {m : M α} {f : α → M γ} {Q : δ → Hp → Prop} {R : β → Hp → Prop}
    (h : Aft B W' rel2 G H r σ (m.bnd f st) Q) (k : ∀ v G1 H1 w st1, m st = .ok w st1 → Lt G H G1 H1 → StR B G1 st1 H1 → rel G1 H1 w v → Aft B W' rel2 G1 H1 r σ (f w st1) Q → R v H1) :
    Aft B W' rel G H r σ (m st) R := by
  have e : m.bnd f st = (match m st with
    | .ok a s => f a s
    | .exc c p s => .exc c p s
    | .stuck => .stuck) := rfl
  rw [e] at h
  cases hm : m st with
  | ok a s =>
    rw [hm] at h
    exact fun v G1 H1 l s1 q => k v G1 H1 a s hm l s1 q (Aft.re l h)
  | exc c p s =>
    rw [hm] at h
    exact h
  | stuck =>
    rw [hm] at h
    exact h
/-- what a calm run leaves -/
theorem Aft.calmB {α γ δ : Type} {rel2 : Rg → Hp → γ → δ → Prop} {m : M α} {f : α → M γ} {Q : δ → Hp → Prop} (h : Aft B W' rel2 G H r σ ((m.calm).bnd f st) Q) : ∃ a st', m st = .ok a st' ∧ Aft B W' rel2 G H r σ (f a st') Q := by
  have e : (m.calm).bnd f st = (match (match m st with
    | .exc _ _ _ => RR.stuck
    | r => r) with
    | .ok a s => f a s
    | .exc c p s => .exc c p s
    | .stuck => .stuck) := rfl
  rw [e] at h
  cases hm : m st with
  | ok a s =>
    rw [hm] at h
    exact ⟨a, s, rfl, h⟩
  | exc c p s =>
    rw [hm] at h
    exact h.elim
  | stuck =>
    rw [hm] at h
    exact h.elim
end

/-! ### subscripts and slices -/
section
variable {X : Cx} {B : Bs} {G : Rg} {H : Hp} {st : Sto}
theorem atI_rel {xs : List W} {vs : List V} {i : Int} {w : W} (h : Rls B G xs vs) (e : atI xs i = some w) : ∃ v, atI vs i = some v ∧ Rl B G w v := by
  unfold atI at e
  obtain ⟨j, h1, h2⟩ := bind_some e
  obtain ⟨v, h3, h4⟩ := h.get h2
  refine ⟨v, ?_, h4⟩
  unfold atI
  rw [← h.len, h1]
  exact h3
theorem view_lst {x : W} {xs : List W} (h : view st x = .lst xs) : lstOf st x = some xs := by unfold lstOf; rw [h]
theorem view_tup {x : W} {xs : List W} (h : view st x = .tup xs) : x = .tup xs := by
  cases x with
  | obj k =>
    exfalso
    cases hm : st.m k with
    | none => simp [view, hm] at h
    | some o => cases o <;> simp [view, hm] at h
  | _ => exact h
theorem view_str {x : W} {z : Str} (h : view st x = .str z) : x = .str z := by
  cases x with
  | obj k =>
    exfalso
    cases hm : st.m k with
    | none => simp [view, hm] at h
    | some o => cases o <;> simp [view, hm] at h
  | _ => exact h
theorem ix_of (hK : X.K = B.K) : IxR X (R2of B idxW) := by
  intro a b pins s σ H x y v u Q I rx ry h hs
  obtain ⟨G, st, wa, wb, w, sr, ra, rb, hw, q⟩ := h
  refine ix_seq a b pins s σ H x y v u Q I rx ry ?_ hs
  unfold idxW at hw
  split at hw
  · rename_i xs j hv
    obtain ⟨p, vs, rfl, d1, k1⟩ := lst_at sr ra (view_lst hv)
    obtain ⟨v1, e1, q1⟩ := atI_rel k1 hw
    exact .inl ⟨p, vs, _, v1, rfl, rb, by rw [hK]; exact d1, e1, q.now sr q1⟩
  · rename_i xs j hv
    rw [view_tup hv] at ra
    obtain ⟨p, vs, rfl, d1, k1⟩ := tup_at sr ra
    obtain ⟨v1, e1, q1⟩ := atI_rel k1 hw
    exact .inr (.inl ⟨p, vs, _, v1, rfl, rb, by rw [hK]; exact d1, e1, q.now sr q1⟩)
  · rename_i z j hv
    rw [view_str hv] at ra
    split at hw
    · rename_i hz
      obtain ⟨c, hc, rfl⟩ := map_some hw
      exact .inr (.inr ⟨z, _, c, ra, rb, hz, hc, q.now sr rfl⟩)
    · cases hw
  · cases hw
theorem cut_rel {xs : List W} {vs : List V} {lo hi : Option Int} (h : Rls B G xs vs) : Rls B G (cutW xs lo hi) (cutV vs lo hi) := by
  unfold cutW cutV
  rw [h.len]
  exact Rls.take _ (Rls.drop _ h)
/-- the reading of a slice, by values -/
def RSof (B : Bs) (f : W → Option Int → Option Int → Sto → Option W) : V → Option Int → Option Int → Hp → VK → Prop := fun x lo hi H Q => ∃ G st u w, StR B G st H ∧ Rl B G u x ∧ f u lo hi st = some w ∧ Then B G st H w Q
theorem sl_lstR : SlR X (fun x lo hi H Q => ∃ a xs, x = .ref a ∧ SqL X.K H a xs ∧ ∀ p, H p = none → Q (.ref p) (upd H p (.lst (cutV xs lo hi)))) := by
  intro pins s σ H x v vl vu lo hi sl Q I rx hs pl pu h
  obtain ⟨a, xs, rfl, h1, q⟩ := h
  refine sl_list pins s σ H _ v vl vu lo hi sl Q I rx hs pl pu ?_
  exact ⟨a, xs, rfl, h1, q⟩
theorem sl_of (hK : X.K = B.K) : SlR X (RSof B slW) := by
  intro pins s σ H x v vl vu lo hi sl Q I rx hs pl pu h
  obtain ⟨G, st, u, w, sr, ra, hw, q⟩ := h
  unfold slW at hw
  have hw' : (match view st u with
    | .lst xs => some (W.lst (cutW xs lo hi))
    | .tup xs => some (.tup (cutW xs lo hi))
    | .str s => if s.length ≤ sizeLine then some (.str (L2.cutS s lo hi)) else none
    | _ => none) = some w := hw
  split at hw'
  · rename_i xs hv
    cases hw'
    obtain ⟨p, vs, rfl, d1, k1⟩ := lst_at sr ra (view_lst hv)
    refine sl_lstR pins s σ H _ v vl vu lo hi sl Q I rx hs pl pu ⟨p, vs, rfl, by rw [hK]; exact d1, fun p2 hp => ?_⟩
    obtain ⟨G', l', s', q'⟩ := newLst sr (cut_rel k1) hp
    exact q _ _ _ l' s' q'
  · rename_i xs hv
    cases hw'
    rw [view_tup hv] at ra
    obtain ⟨p, vs, rfl, d1, k1⟩ := tup_at sr ra
    refine sl_tupA pins s σ H _ v vl vu lo hi sl Q I rx hs pl pu ⟨p, vs, rfl, by rw [hK]; exact d1, fun hw => ?_, fun _ p2 hp => ?_⟩
    · have e : cutW xs lo hi = xs := by
        unfold cutW
        rw [k1.len, hw.1, hw.2, List.drop_zero, Nat.sub_zero, ← k1.len, List.take_length]
      refine q.now sr ?_
      rw [e]; exact ra
    · obtain ⟨G', l', s', q'⟩ := newTup sr (cut_rel k1) hp
      exact q _ _ _ l' s' q'
  · rename_i z hv
    rw [view_str hv] at ra
    split at hw'
    · rename_i hz
      cases hw'
      exact sl_str pins s σ H x v vl vu lo hi sl Q I rx hs pl pu ⟨z, ra, hz, q.now sr rfl⟩
    · cases hw'
  · cases hw'
end

/-! ### targets -/
mutual
def gT (K : PySem.W.Frag) : Tg → TG
  | .nm i => gName i
  | .tp ts => gTup K ts.length (gTs K ts)
def gTs (K : PySem.W.Frag) : List Tg → TGs
  | [] => gNil
  | t :: ts => gCons (gT K t) (gTs K ts)
end
mutual
def tgIx : Tg → List Nat
  | .nm i => [i]
  | .tp ts => tgIxs ts
def tgIxs : List Tg → List Nat
  | [] => []
  | t :: ts => tgIx t ++ tgIxs ts
end
theorem wipe_out2 : ∀ {σ : L2.St} {i : Nat} {x : Option V} {vs : List Nat}, i ∉ vs → (wipe (σ.set i x) vs).set i none = (wipe σ vs).set i none
  | σ, i, x, [], _ => by
    show (σ.set i x).set i none = σ.set i none
    rw [List.set_set]
  | σ, i, x, v :: vs, h => by
    have h1 : i ≠ v := fun e => h (by simp [e])
    have h2 : i ∉ vs := fun e => h (by simp [e])
    show ((wipe (σ.set i x) vs).set v none).set i none = ((wipe σ vs).set v none).set i none
    rw [List.set_comm _ _ (Ne.symm h1), wipe_out2 h2, List.set_comm _ _ h1]
theorem wipe_set : ∀ {σ : L2.St} {i : Nat} {x : Option V} {vs : List Nat}, i ∈ vs → wipe (σ.set i x) vs = wipe σ vs
  | σ, i, x, [], h => by cases h
  | σ, i, x, v :: vs, h => by
    show (wipe (σ.set i x) vs).set v none = (wipe σ vs).set v none
    by_cases hv : i ∈ vs
    · rw [wipe_set hv]
    · have e : i = v := by
        rcases List.mem_cons.mp h with e | e
        · exact e
        · exact absurd e hv
      subst e
      exact wipe_out2 hv
section
variable {B : Bs} {G : Rg} {H : Hp} {st : Sto}
mutual
/-- a target is bound: what was known of other names stays -/
theorem gT_of (sr : StR B G st H) : ∀ (t : Tg) (x : W) (v : V) (r r' : En) (σ : L2.St) (Q : L2.St → Hp → Prop), Rl B G x v → EnR B G r σ → bindT t x r = some r' →
    (∀ σ', EnR B G r' σ' → (∀ vs : List Nat, (∀ i ∈ tgIx t, i ∈ vs) → wipe σ' vs = wipe σ vs) → Q σ' H) → gT B.K t v σ H Q
  | .nm i, x, v, r, r', σ, Q, hx, he, hb, k => by
    have hb' : r.set i (some x) = r' := Option.some.inj hb
    subst hb'
    exact k _ (he.set i hx) fun vs hv => wipe_set (hv i (by simp [tgIx]))
  | .tp ts, x, v, r, r', σ, Q, hx, he, hb, k => by
    cases x with
    | tup xs =>
      obtain ⟨a, vs, rfl, h1, h2⟩ := tup_at sr hx
      have hb' : bindTs ts xs r = some r' := hb
      refine ⟨a, vs, rfl, h1, ?_, gTs_of sr ts xs vs r r' σ Q h2 he hb' k⟩
      rw [← h2.len]
      exact bindTs_len ts xs r r' hb'
    | _ => cases hb
theorem gTs_of (sr : StR B G st H) : ∀ (ts : List Tg) (xs : List W) (vs : List V) (r r' : En) (σ : L2.St) (Q : L2.St → Hp → Prop), Rls B G xs vs → EnR B G r σ → bindTs ts xs r = some r' →
    (∀ σ', EnR B G r' σ' → (∀ vs : List Nat, (∀ i ∈ tgIxs ts, i ∈ vs) → wipe σ' vs = wipe σ vs) → Q σ' H) → gTs B.K ts vs σ H Q
  | [], xs, vs, r, r', σ, Q, hx, he, hb, k => by
    cases xs with
    | nil =>
      cases (show vs = [] from hx)
      have hb' : r = r' := Option.some.inj hb
      subst hb'
      exact ⟨rfl, k σ he fun _ _ => rfl⟩
    | cons _ _ => cases hb
  | t :: ts, xs, vs, r, r', σ, Q, hx, he, hb, k => by
    cases xs with
    | nil => cases hb
    | cons x xs =>
      obtain ⟨v, us, rfl, h1, h2⟩ := hx
      obtain ⟨r1, hb1, hb2⟩ := bind_some (show (bindT t x r).bind (fun r' => bindTs ts xs r') = some r' from hb)
      refine ⟨v, us, rfl, gT_of sr t x v r r1 σ _ h1 he hb1 fun σ1 he1 k1 => gTs_of sr ts xs us r1 r' σ1 Q h2 he1 hb2 fun σ2 he2 k2 => k σ2 he2 fun vs hv => ?_⟩
      rw [k2 vs fun i hi => hv i (by simp [tgIxs, hi]), k1 vs fun i hi => hv i (by simp [tgIxs, hi])]
theorem bindTs_len : ∀ (ts : List Tg) (xs : List W) (r r' : En), bindTs ts xs r = some r' → xs.length = ts.length
  | [], [], _, _, _ => rfl
  | [], _ :: _, _, _, h => by cases h
  | _ :: _, [], _, _, h => by cases h
  | t :: ts, x :: xs, r, r', h => by
    obtain ⟨r1, _, h2⟩ := bind_some (show (bindT t x r).bind (fun r' => bindTs ts xs r') = some r' from h)
    simp [bindTs_len ts xs r1 r' h2]
end
end

/-! ### what is walked -/
/-- J walks k's items in every later state in which the lists that are walked stand as they did -/
def WkR (B : Bs) (k : Wk) (J : It) (G : Rg) (H : Hp) : Prop := ∀ G' H' st', Lt G H G' H' → StR B G' st' H' → stays st' k.gd →
  (∀ (i : Nat) (x : W), k.xs[i]? = some x → J.go i H' ∧ ∀ v H'', J.yld i H' v H'' → ∃ G'', Lt G' H' G'' H'' ∧ StR B G'' st' H'' ∧ Rl B G'' x v) ∧ J.stop k.xs.length H'
abbrev tIk (B : Bs) (W' : WX) (m : En → M Wk) : TI := tM B W' (fun G H k J => WkR B k J G H) m
end Ip
/-! Ip7: what a for and a comprehension walk. -/
namespace Ip
open PySem L2 PySem.Spec PyProof.Rows

/-! ### enumerate of a tuple -/
theorem meets_enum1 {v : Value} {o : Obj} {Hh : Heap → Prop} (B : Begins v o Hh) :
    Meets (Builtin.«enumerate.__new__» ⟨[.type "enumerate", v], []⟩) (fun _ R s => Hh s.heap ∧
      R (.ok (.ret (.ref (s.heap.push o).objs.size)))
        { s with heap := (s.heap.push o).push { cls := .type "enumerate", data := .fields #[.none, .bool false, .ref s.heap.objs.size, rawInt 0, .none, .none] } }) := by
  refine .of_wp fun prog w A R s hh => ?_
  obtain ⟨hp, gg, dd, tt, oo⟩ := s
  obtain ⟨hb, hr⟩ := hh
  have sub := sub_enumerate
  have it1 : ∀ {A' : Around} {E Q : Value → Shared → Prop}, Q (.ref hp.objs.size) ⟨hp.push o, gg, dd, tt, oo⟩ → wpAny (model prog w) A' (pyIter v) Q E ⟨hp, gg, dd, tt, oo⟩ := fun q =>
    B.iter prog w _ _ ⟨hp, gg, dd, tt, oo⟩ _ hb q
  wp_walk
  refine wpAny_stack_any fun st => wpAny_pure ?_
  split
  · rename_i c _ _ _ _ _
    cases (c == Value.type "enumerate") <;>
      (wp_walk using it1
       exact ⟨_, rfl, hr⟩)
  · wp_walk using it1
    exact ⟨_, rfl, hr⟩
theorem call_enumT {prog : Program} {w : World} {A : Around} {E : Value → Shared → Prop} {s : Shared} {t : Addr} {items : Array Value} {Q : Value → Shared → Prop} (ht : s.heap.IsTuple t items)
    (h : ∀ h', IsEnum h' (s.heap.objs.size + 1) s.heap.objs.size 0 .none → h'.IsTupleIter s.heap.objs.size t 0 → (∀ b o, s.heap.get? b = some o → h'.get? b = some o) →
      Q (.ref (s.heap.objs.size + 1)) { s with heap := h' }) : wpAny (model prog w) A (call (.type "enumerate") [.ref t]) Q E s := by
  refine callType_new F.called_enumerate (by decide) (F.typeCall_enumerate_1 _) (F.newCall_enumerate_1 _) (fun obj => F.args_object_init_2 obj _) F.entry_enumerate_new
    (meets_enum1 (begins_tuple t items)) ⟨ht, ?_⟩
  generalize ho : ({ cls := .type "tuple_iterator", data := .fields #[.ref t, .int 0 0] } : Obj) = o
  have z1 : (s.heap.push o).objs.size = s.heap.objs.size + 1 := Heap.size_push ..
  have f1 : o.isFreed = false := by rw [← ho]; rfl
  generalize hq : ({ cls := .type "enumerate", data := .fields #[.none, .bool false, .ref s.heap.objs.size, rawInt 0, .none, .none] } : Obj) = q
  have f2 : q.isFreed = false := by rw [← hq]; rfl
  have he : ((s.heap.push o).push q).get? (s.heap.objs.size + 1) = some q := by
    have e := Heap.get?_push_size (s.heap.push o) (o := q) f2
    rwa [z1] at e
  have hi : ((s.heap.push o).push q).get? s.heap.objs.size = some o := Heap.get?_push_of_some _ (Heap.get?_push_size _ f1)
  have e3 : IsEnum ((s.heap.push o).push q) (s.heap.objs.size + 1) s.heap.objs.size 0 .none := by
    subst hq; exact he
  show _ ∧ _
  rw [z1]
  exact ⟨⟨_, e3, rfl⟩, h _ e3 ⟨o, hi, by rw [← ho], by rw [← ho]; rfl⟩ fun b u x => Heap.get?_push_of_some _ (Heap.get?_push_of_some _ x)⟩
/-- the tuple at a, each item in a new pair -/
def IteT (K : PySem.W.Frag) (a : Addr) : It :=
  ⟨fun i H => ∃ (xs : List V) (x : V), SqT K H a xs ∧ xs[i]? = some x,
   fun i H v H' => ∃ T x, v = .ref T ∧ H T = none ∧ H' = upd H T (.tup [.int (i : Nat), x]) ∧ ∀ xs, SqT K H a xs → xs[i]? = some x,
   fun i H => ∃ xs : List V, SqT K H a xs ∧ xs.length ≤ i⟩
theorem turn_enumT {P : Program} {w : World} {K : PySem.W.Frag} {elts : List Expr} {kk : Nat} {tpos : Pos} (a e it : Addr) :
    Turn P w K (.Tuple elts kk tpos) (IteT K a) [e, it] e (fun i h => (∃ old, IsEnum h e it ((i : Nat) : Int) old) ∧ h.IsTupleIter it a i ∧ e ≠ it) where
  mem := by simp
  obj := fun i h ⟨⟨old, he⟩, ⟨o, ho, hc, hd⟩, _⟩ b hb => by
    have eb : b = e ∨ b = it := by simpa using hb
    rcases eb with rfl | rfl
    · exact ⟨_, he, fun v q => nomatch q⟩
    · exact ⟨o, ho, fun v q => by rw [hd] at q; cases q⟩
  keep := fun i h h' ⟨⟨old, he⟩, hi, hne⟩ k => ⟨⟨old, k e (by simp) _ he⟩, hi.at fun o q => k it (by simp) o q, hne⟩
  item := by
    intro X hP hw hK hc i pins s σ H E I hf st hg
    subst hP hw hK
    obtain ⟨⟨old, he⟩, hit, hne⟩ := st
    obtain ⟨xs, x, hq, hx⟩ := hg
    obtain ⟨its, rv, p, hz⟩ := I.tuple hq
    obtain ⟨u, hu, ru⟩ := rv.get hx
    have el : e < s.heap.objs.size := Heap.lt_size he
    have il : it < s.heap.objs.size := let ⟨_, q, _⟩ := hit; Heap.lt_size q
    have al : a < s.heap.objs.size := p.lt
    have hai : a ≠ it := fun z => by
      obtain ⟨o1, h1, c1, _⟩ := p
      obtain ⟨o2, h2, c2, _⟩ := hit
      rw [z, h2] at h1; cases h1
      rw [c2] at c1; exact absurd (show Value.type "tuple_iterator" = Value.type "tuple" from c1) (by decide)
    have hae : e ≠ a := fun z => by
      obtain ⟨o1, h1, c1, _⟩ := p
      rw [← z] at h1
      have he' : s.heap.get? e = some _ := he
      rw [he'] at h1; cases h1
      exact absurd (show Value.type "enumerate" = Value.type "tuple" from c1) (by decide)
    have D := Draws.tuple (prog := X.prog) (w := X.w) (A := X.A.in1) (I.ok.hd hc) it a hai its.toArray
    refine wpAny_pyNext_enum_itemD D he ⟨hit, p⟩ (by have := (List.getElem?_eq_some_iff.mp hu).1; simpa using this) hne (by simp [hne, hae]) fun y h' tk hy ho hit' hT hsz hk => ?_
    have yu : y = u := by
      have hy' : its.toArray[i]? = some y := hy
      rw [List.getElem?_toArray, hu] at hy'
      exact (Option.some.inj hy').symm
    subst yu
    refine ⟨_, rfl, wpAny_letOwnedTupleGo_enum (s := { s with heap := h', toks := tk + 1 }) ho fun h'' he' sb => ?_⟩
    have nT : s.heap.objs.size ≠ e := Nat.ne_of_gt el
    have hT2 : h''.get? s.heap.objs.size = some { cls := .type "tuple", data := .seq #[.int i tk, y] } := (sb.2 _ nT).trans hT
    have new : ObjOk X.prog X.w (upd H s.heap.objs.size (.tup [.int (i : Nat), x])) h'' s.heap.objs.size (.tup [.int (i : Nat), x]) :=
      ⟨by show 2 ≤ sizeLine; decide, [.int i tk, y], .cons ⟨_, rfl⟩ (.cons ru .nil), ⟨_, hT2, rfl, _, rfl⟩⟩
    have I1 := I.turnedNew (ch := [e, it]) (h' := h'') (t' := tk + 1)
      (fun b ob hb q => (sb.2 b (fun z => hb (by simp [z]))).trans (hk b ob (fun z => hb (by simp [z])) (fun z => hb (by simp [z])) q)) hf (Nat.le_refl _) new
    refine ⟨.ref s.heap.objs.size, _, I1, rfl, ⟨_, x, rfl, I.hok.fresh (Nat.le_refl _), rfl, fun ys hy => by rw [I.tuple_inj hy hq]; exact hx⟩, ⟨⟨y, ?_⟩, hit'.1.at fun o q => (sb.2 it (Ne.symm hne)).trans q, hne⟩, fun b hb => ?_⟩
    · rw [show ((i + 1 : Nat) : Int) = (i : Int) + 1 by omega]; exact he'
    · have lb : b < s.heap.objs.size := by
        have eb : b = e ∨ b = it := by simpa using hb
        rcases eb with rfl | rfl
        · exact el
        · exact il
      rw [upd_ne (Nat.ne_of_lt lb)]
      exact (hf b hb).1
  done := by
    intro X hP hw hK hc i pins s σ H E I hf st hg
    subst hP hw hK
    obtain ⟨⟨old, he⟩, hit, hne⟩ := st
    obtain ⟨xs, hq, hx⟩ := hg
    obtain ⟨its, rv, p, hz⟩ := I.tuple hq
    obtain ⟨f0, f1, f2, f3, f4, f5⟩ := hf it (by simp)
    have hl := rv.length
    have hT : s.TypeIs (.ref e) "enumerate" := ⟨_, he, rfl⟩
    unfold pyNext
    refine wpAny_bind (wpAny_attempt (wpAny_callSpecial?_slot (name := Str.ofString "__next__") hT F.slot_enumerate_next
      (wpAny_call_entry F.slot_enumerate_next hT F.entry_enumerate_next ?_ (F.args_enumerate_next_1 _))))
    show wpAny _ _ (field (.ref e) 2 >>= _) _ _ _
    refine wpAny_bind (wpAny_field he rfl (x := .ref it) rfl ?_)
    refine wpAny_bind (wpAny_nextOf_tuple_end (I.ok.hd hc) hit (show s.heap.IsTuple a its.toArray from p) (by simp; omega) fun h' z eb hz' => ?_)
    obtain ⟨o, ho, hc'⟩ := hz'
    refine wpAny_bind (wpAny_isInstance (T := "StopIteration") (b := true) ⟨o, ho, hc'⟩ isSubtype_stop ?_)
    exact wpAny_pure ⟨rfl, I.turned (t' := s.toks) (fun b o hb q => eb b o hb q) f0 f1 f3 f4 f5⟩
  self := fun A i s Q E ⟨⟨_, he⟩, _⟩ h => wpAny_pyIter_enum he h
def iEnumT (K : PySem.W.Frag) (ta : TA) : TI := fun σ H R => ta σ H fun vs H1 => ∃ a xs, vs = [.ref a] ∧ SqT K H1 a xs ∧ R (IteT K a) H1
theorem pi_enumT {X : Cx} {e : Expr} {ta : TA} {p pos tpos : Pos} {elts : List Expr} {kk : Nat} (hg : Gl X "enumerate") (hm : X.mg "enumerate" = none) (ha : PA X [e] ta) (hs : starEach [e] X.env = [(false, eval e X.env)]) :
    PI X (.Tuple elts kk tpos) (.Call (.Name "enumerate" p) [e] [] pos) (iEnumT X.K ta) := by
  refine ⟨fun pins s σ H R I h => Call_ (ld_blt I hg hm boot_enumerate (PyProof.Rows.callWith_type1 (thn (ha.run pos pins s σ H _ I h) fun us s1 q1 => ?_) hs rfl))⟩
  obtain ⟨vs, H1, I1, r1, a, xs, ex, hq, q⟩ := q1
  subst ex
  obtain ⟨u, rfl, ru⟩ := vals1 r1
  cases ru
  obtain ⟨its, rv, p', hz⟩ := I1.tuple hq
  refine call_enumT (show s1.heap.IsTuple a its.toArray from p') fun h' he hit hk => wpAny_pyIter_enum he ?_
  refine ⟨s1.heap.objs.size + 1, [s1.heap.objs.size + 1, s1.heap.objs.size], _, _, H1, rfl, I1.kept (t' := s1.toks) hk, turn_enumT a (s1.heap.objs.size + 1) s1.heap.objs.size, ⟨⟨.none, he⟩, hit, Nat.succ_ne_self _⟩, fun b hb => ?_, q⟩
  have hle : s1.heap.objs.size ≤ b := by
    have eb : b = s1.heap.objs.size + 1 ∨ b = s1.heap.objs.size := by simpa using hb
    rcases eb with rfl | rfl
    · exact Nat.le_add_right _ _
    · exact Nat.le_refl _
  exact I1.fpOk hle (I1.hok.fresh hle)
end Ip
/-! Ip8: what is walked, by the interpreter's run; the comprehension. -/
namespace Ip
open PySem L2 PySem.Spec PyProof.Rows RZ
section
variable {B : Bs} {G : Rg} {H : Hp} {st : Sto}
theorem stays_mono {st : Sto} : ∀ {l m : List (Nat × List W)}, stays st (l ++ m) → stays st l ∧ stays st m
  | [], _, h => ⟨trivial, h⟩
  | (k, xs) :: l, m, h => let ⟨h1, h2⟩ := (show _ ∧ _ from h); let ⟨h3, h4⟩ := stays_mono h2; ⟨⟨h1, h3⟩, h4⟩
/-- a list that is walked: at each later state in which it stays it has these items -/
theorem gd_at {w : W} {v : V} {xs : List W} {gd : List (Nat × List W)} (sr : StR B G st H) (q : Rl B G w v) (e : gdOf st w = some (xs, gd)) :
    ∃ a, v = .ref a ∧ (∃ vs, SqL B.K H a vs) ∧ ∀ G' H' st', Lt G H G' H' → StR B G' st' H' → stays st' gd → ∃ vs, SqL B.K H' a vs ∧ Rls B G' xs vs := by
  cases w with
  | lst ys =>
    obtain ⟨a, vs, ev, h1, h2⟩ := (show ∃ a vs, v = .ref a ∧ SqL B.K G.S a vs ∧ Rls B G ys vs from q)
    have e' : some (ys, ([] : List (Nat × List W))) = some (xs, gd) := e
    cases e'
    exact ⟨a, ev, ⟨vs, SqL.gr sr.sub h1⟩, fun G' H' st' l s' _ => ⟨vs, SqL.gr s'.sub (SqL.gr l.s h1), h2.lt l⟩⟩
  | obj k =>
    obtain ⟨a, ev, ea⟩ := (show ∃ a, v = .ref a ∧ G.i k = some a from q)
    cases hm : st.m k with
    | none => simp [gdOf, hm] at e
    | some o =>
      cases o with
      | lst ys =>
        have e' : ys = xs ∧ [(k, ys)] = gd := by simpa [gdOf, hm] using e
        obtain ⟨rfl, rfl⟩ := e'
        obtain ⟨a', e1, _, vs, h1, h2⟩ := sr.liv k _ hm
        rw [ea] at e1; cases e1
        refine ⟨a, ev, ⟨vs, .inl (.inl h1)⟩, fun G' H' st' l s' hs => ?_⟩
        obtain ⟨a', e1, _, vs, h1, h2⟩ := s'.liv k _ hs.1
        rw [l.i _ _ ea] at e1; cases e1
        exact ⟨vs, .inl (.inl h1), h2⟩
      | _ => simp [gdOf, hm] at e
  | _ => simp [gdOf] at e
theorem enum_get : ∀ (xs : List W) (n i : Nat) (x : W), (enumFrom n xs)[i]? = some x → ∃ y, xs[i]? = some y ∧ x = .tup [.int ((n + i : Nat) : Int), y]
  | [], _, _, _, h => by simp [enumFrom] at h
  | y :: ys, n, 0, x, h => by
    simp [enumFrom] at h
    exact ⟨y, rfl, h.symm⟩
  | y :: ys, n, i + 1, x, h => by
    obtain ⟨z, h1, h2⟩ := enum_get ys (n + 1) i x (by simpa [enumFrom] using h)
    exact ⟨z, by simpa using h1, by rw [h2, show n + 1 + i = n + (i + 1) by omega]⟩
theorem enum_len : ∀ (xs : List W) (n : Nat), (enumFrom n xs).length = xs.length
  | [], _ => rfl
  | _ :: ys, n => by simp [enumFrom, enum_len ys (n + 1)]
theorem zip_get : ∀ (xs ys : List W) (i : Nat) (x : W), (zipW xs ys)[i]? = some x → ∃ u v, xs[i]? = some u ∧ ys[i]? = some v ∧ x = .tup [u, v]
  | [], _, _, _, h => by simp [zipW] at h
  | _ :: _, [], _, _, h => by simp [zipW] at h
  | u :: xs, v :: ys, 0, x, h => by
    simp [zipW] at h
    exact ⟨u, v, rfl, rfl, h.symm⟩
  | u :: xs, v :: ys, i + 1, x, h => by
    obtain ⟨a, b, h1, h2, h3⟩ := zip_get xs ys i x (by simpa [zipW] using h)
    exact ⟨a, b, by simpa using h1, by simpa using h2, h3⟩
theorem zip_len : ∀ (xs ys : List W), xs.length ≤ (zipW xs ys).length ∨ ys.length ≤ (zipW xs ys).length
  | [], _ => .inl (Nat.le_refl _)
  | _ :: _, [] => .inr (Nat.le_refl _)
  | u :: xs, v :: ys => by
    rcases zip_len xs ys with h | h
    · exact .inl (by simpa [zipW] using h)
    · exact .inr (by simpa [zipW] using h)

theorem wk_list {xs : List W} {gd : List (Nat × List W)} {a : Addr} (h : ∀ G' H' st', Lt G H G' H' → StR B G' st' H' → stays st' gd → ∃ vs, SqL B.K H' a vs ∧ Rls B G' xs vs) : WkR B ⟨xs, gd⟩ (Itl B.K a) G H := by
  intro G' H' st' l s' hs
  obtain ⟨vs, h1, h2⟩ := h G' H' st' l s' hs
  refine ⟨fun i x e => ?_, vs, h1, by rw [← h2.len]; exact Nat.le_refl _⟩
  obtain ⟨v, e2, q⟩ := h2.get e
  refine ⟨⟨vs, v, h1, e2⟩, fun u H'' y => ?_⟩
  obtain ⟨rfl, y⟩ := y
  have := y vs h1
  rw [e2] at this; cases this
  exact ⟨G', Lt.rfl, s', q⟩
theorem wk_tup {xs : List W} {a : Addr} {vs : List V} (h1 : SqT B.K G.S a vs) (h2 : Rls B G xs vs) : WkR B ⟨xs, []⟩ (Itt B.K a) G H := by
  intro G' H' st' l s' hs
  have h1' : SqT B.K H' a vs := SqT.gr s'.sub (SqT.gr l.s h1)
  have h2' := h2.lt l
  refine ⟨fun i x e => ?_, vs, h1', by rw [← h2.len]; exact Nat.le_refl _⟩
  obtain ⟨v, e2, q⟩ := h2'.get e
  refine ⟨⟨vs, v, h1', e2⟩, fun u H'' y => ?_⟩
  obtain ⟨rfl, y⟩ := y
  have := y vs h1'
  rw [e2] at this; cases this
  exact ⟨G', Lt.rfl, s', q⟩
theorem wk_str (z : Str) : WkR B ⟨z.cps.toList.map fun c => .str ⟨#[c]⟩, []⟩ (Its z) G H := by
  intro G' H' st' l s' hs
  refine ⟨fun i x e => ?_, by show z.cps.size ≤ (List.map _ _).length; simp⟩
  have e : (z.cps.toList.map fun c => W.str ⟨#[c]⟩)[i]? = some x := e
  rw [List.getElem?_map, Array.getElem?_toList] at e
  obtain ⟨c, hc, rfl⟩ := map_some e
  refine ⟨(Array.getElem?_eq_some_iff.mp hc).1, fun u H'' y => ?_⟩
  obtain ⟨rfl, c', hc', rfl⟩ := y
  rw [hc] at hc'; cases hc'
  exact ⟨G', Lt.rfl, s', rfl⟩
theorem wk_rng (a b : Int) : WkR B ⟨(List.range (b - a).toNat).map fun i => .int (a + (i : Nat)), []⟩ (Itr a (b - a).toNat) G H := by
  intro G' H' st' l s' hs
  refine ⟨fun i x e => ?_, by show (b - a).toNat ≤ (List.map _ _).length; simp⟩
  have e : ((List.range (b - a).toNat).map fun i : Nat => W.int (a + (i : Nat)))[i]? = some x := e
  rw [List.getElem?_map] at e
  obtain ⟨c, hc, rfl⟩ := map_some e
  obtain ⟨h1, h2⟩ := List.getElem?_eq_some_iff.mp hc
  rw [List.getElem_range] at h2
  subst h2
  refine ⟨by rw [List.length_range] at h1; exact h1, fun u H'' y => ?_⟩
  obtain ⟨rfl, rfl⟩ := y
  exact ⟨G', Lt.rfl, s', rfl⟩
theorem two_new {G' : Rg} {H' : Hp} {st' : Sto} {x y : W} {v u : V} {T : Addr} (s' : StR B G' st' H') (h1 : Rl B G' x v) (h2 : Rl B G' y u) (hT : H' T = none) :
    ∃ G'', Lt G' H' G'' (upd H' T (.tup [v, u])) ∧ StR B G'' st' (upd H' T (.tup [v, u])) ∧ Rl B G'' (.tup [x, y]) (.ref T) := newTup s' (Rls.cons h1 (Rls.cons h2 Rls.nil)) hT
theorem wk_enum {xs : List W} {gd : List (Nat × List W)} {a : Addr} (h : ∀ G' H' st', Lt G H G' H' → StR B G' st' H' → stays st' gd → ∃ vs, SqL B.K H' a vs ∧ Rls B G' xs vs) : WkR B ⟨enumFrom 0 xs, gd⟩ (Ite B.K a) G H := by
  intro G' H' st' l s' hs
  obtain ⟨vs, h1, h2⟩ := h G' H' st' l s' hs
  refine ⟨fun i x e => ?_, vs, h1, by show vs.length ≤ (enumFrom 0 xs).length; rw [enum_len, ← h2.len]; exact Nat.le_refl _⟩
  obtain ⟨y, e1, rfl⟩ := enum_get xs 0 i x e
  obtain ⟨v, e2, q⟩ := h2.get e1
  refine ⟨⟨vs, v, h1, e2⟩, fun u H'' yy => ?_⟩
  obtain ⟨T, z, rfl, hT, rfl, hz⟩ := yy
  have := hz vs h1
  rw [e2] at this; cases this
  rw [Nat.zero_add]
  exact two_new s' rfl q hT
theorem wk_enumT {xs : List W} {a : Addr} {vs : List V} (h1 : SqT B.K G.S a vs) (h2 : Rls B G xs vs) : WkR B ⟨enumFrom 0 xs, []⟩ (IteT B.K a) G H := by
  intro G' H' st' l s' hs
  have h1' : SqT B.K H' a vs := SqT.gr s'.sub (SqT.gr l.s h1)
  have h2' := h2.lt l
  refine ⟨fun i x e => ?_, vs, h1', by show vs.length ≤ (enumFrom 0 xs).length; rw [enum_len, ← h2.len]; exact Nat.le_refl _⟩
  obtain ⟨y, e1, rfl⟩ := enum_get xs 0 i x e
  obtain ⟨v, e2, q⟩ := h2'.get e1
  refine ⟨⟨vs, v, h1', e2⟩, fun u H'' yy => ?_⟩
  obtain ⟨T, z, rfl, hT, rfl, hz⟩ := yy
  have := hz vs h1'
  rw [e2] at this; cases this
  rw [Nat.zero_add]
  exact two_new s' rfl q hT
theorem wk_zip {xs ys : List W} {g1 g2 : List (Nat × List W)} {a b : Addr} 
    (h : ∀ G' H' st', Lt G H G' H' → StR B G' st' H' → stays st' g1 → ∃ vs, SqL B.K H' a vs ∧ Rls B G' xs vs)
    (k : ∀ G' H' st', Lt G H G' H' → StR B G' st' H' → stays st' g2 → ∃ vs, SqL B.K H' b vs ∧ Rls B G' ys vs) : WkR B ⟨zipW xs ys, g1 ++ g2⟩ (Itz B.K a b) G H := by
  intro G' H' st' l s' hs
  obtain ⟨hs1, hs2⟩ := stays_mono (show stays st' (g1 ++ g2) from hs)
  obtain ⟨vs, h1, h2⟩ := h G' H' st' l s' hs1
  obtain ⟨us, k1, k2⟩ := k G' H' st' l s' hs2
  refine ⟨fun i x e => ?_, vs, us, h1, k1, by rw [← h2.len, ← k2.len]; exact zip_len xs ys⟩
  obtain ⟨y, z, e1, e2, rfl⟩ := zip_get xs ys i x e
  obtain ⟨v, f1, q1⟩ := h2.get e1
  obtain ⟨u, f2, q2⟩ := k2.get e2
  refine ⟨⟨vs, us, v, u, h1, k1, f1, f2⟩, fun w H'' yy => ?_⟩
  obtain ⟨T, v', u', rfl, hT, rfl, hv, hu⟩ := yy
  have t1 := hv vs h1
  rw [f1] at t1; cases t1
  have t2 := hu us k1
  rw [f2] at t2; cases t2
  exact two_new s' q1 q2 hT
theorem wk_zipT {xs ys : List W} {a b : Addr} {vs us : List V} (h1 : SqT B.K G.S a vs) (h2 : Rls B G xs vs) (k1 : SqT B.K G.S b us) (k2 : Rls B G ys us) : WkR B ⟨zipW xs ys, []⟩ (ItzT B.K a b) G H := by
  intro G' H' st' l s' hs
  have h1' : SqT B.K H' a vs := SqT.gr s'.sub (SqT.gr l.s h1)
  have k1' : SqT B.K H' b us := SqT.gr s'.sub (SqT.gr l.s k1)
  refine ⟨fun i x e => ?_, vs, us, h1', k1', by rw [← h2.len, ← k2.len]; exact zip_len xs ys⟩
  obtain ⟨y, z, e1, e2, rfl⟩ := zip_get xs ys i x e
  obtain ⟨v, f1, q1⟩ := (h2.lt l).get e1
  obtain ⟨u, f2, q2⟩ := (k2.lt l).get e2
  refine ⟨⟨vs, us, v, u, h1', k1', f1, f2⟩, fun w H'' yy => ?_⟩
  obtain ⟨T, v', u', rfl, hT, rfl, hv, hu⟩ := yy
  have t1 := hv vs h1'
  rw [f1] at t1; cases t1
  have t2 := hu us k1'
  rw [f2] at t2; cases t2
  exact two_new s' q1 q2 hT
end

/-! ### the rules -/
section
variable {X : Cx} {B : Bs} {W' : WX} {tg e e1 e2 : Expr} {m m1 m2 : En → M W}
theorem pi_by {iter : Expr} {wi : TI} (h : ∀ pins s σ H R, Inv X pins σ H s → wi σ H R → ∃ wi', PI X tg iter wi' ∧ wi' σ H R) : PI X tg iter wi := ⟨fun pins s σ H R I q =>
  let ⟨_, h1, h2⟩ := h pins s σ H R I q; h1.run pins s σ H R I h2⟩
theorem pi_ex (hK : X.K = B.K) (he : PE X e (tE B W' m)) : PI X tg e (tIk B W' fun r => (m r).bnd fun x => M.look (walkEx x)) := by
  refine pi_by fun pins s σ H R I h => ?_
  obtain ⟨G, r, st, sr, er, h⟩ := h
  -- what the value is decides the rule
  have lists : (∀ w st1, m r st = .ok w st1 → ∀ k, walkEx w st1 = some k → ∃ xs gd, gdOf st1 w = some (xs, gd) ∧ k = ⟨xs, gd⟩) → ∃ wi', PI X tg e wi' ∧ wi' σ H R := fun hw =>
    ⟨_, pi_list he, G, r, st, sr, er, Aft.bndE h fun v G1 H1 w st1 em l1 s1 q1 h1 => by
      obtain ⟨k, hk, h2⟩ := Aft.look h1
      obtain ⟨xs, gd, hg, rfl⟩ := hw w st1 em k hk
      obtain ⟨a, rfl, ⟨vs, d⟩, q⟩ := gd_at s1 q1 hg
      exact ⟨a, rfl, ⟨vs, by rw [hK]; exact d⟩, by rw [hK]; exact h2.now s1 (wk_list q)⟩⟩
  cases hm : m r st with
  | stuck =>
    exfalso
    have h2 := h
    simp only [M.bnd, hm] at h2
    exact h2
  | exc c p st1 => exact lists fun w st1 em => by rw [hm] at em; cases em
  | ok w st1 =>
    by_cases ht : ∃ xs, w = .tup xs
    · obtain ⟨xs, rfl⟩ := ht
      refine ⟨_, pi_tup he, G, r, st, sr, er, Aft.bndE h fun v G1 H1 w st2 em l1 s1 q1 h1 => ?_⟩
      rw [hm] at em; cases em
      obtain ⟨k, hk, h2⟩ := Aft.look h1
      have hk' : some (⟨xs, []⟩ : Wk) = some k := hk
      cases hk'
      obtain ⟨a, vs, rfl, d1, d2⟩ := (show ∃ a vs, v = .ref a ∧ SqT B.K G1.S a vs ∧ Rls B G1 xs vs from q1)
      refine ⟨a, rfl, ⟨vs, by rw [hK]; exact SqT.gr s1.sub d1⟩, ?_⟩
      rw [hK]
      exact h2.now s1 (wk_tup d1 d2)
    · by_cases hs : ∃ z, w = .str z
      · obtain ⟨z, rfl⟩ := hs
        refine ⟨_, pi_str he, G, r, st, sr, er, Aft.bndE h fun v G1 H1 w st2 em l1 s1 q1 h1 => ?_⟩
        rw [hm] at em; cases em
        obtain ⟨k, hk, h2⟩ := Aft.look h1
        have hk' : some (⟨z.cps.toList.map fun c => .str ⟨#[c]⟩, []⟩ : Wk) = some k := hk
        cases hk'
        exact ⟨z, q1, h2.now s1 (wk_str z)⟩
      · refine lists fun w' st2 em k hk => ?_
        rw [hm] at em; cases em
        have hk' : (gdOf st1 w).map (fun p => (⟨p.1, p.2⟩ : Wk)) = some k := by
          cases w <;> first | exact hk | exact absurd ⟨_, rfl⟩ ht | exact absurd ⟨_, rfl⟩ hs
        obtain ⟨⟨xs, gd⟩, h1, rfl⟩ := map_some hk'
        exact ⟨xs, gd, h1, rfl⟩
theorem one_arg {ta : TA} {te : TE} (ht : ∀ σ H (Q : List V → Hp → Prop), te σ H (fun x H1 => Q [x] H1) → ta σ H Q) : True := trivial
theorem pa_1 (he : PE X e (tE B W' m)) (hs : starEach (e :: []) X.env = (false, eval e X.env) :: starEach [] X.env) : PA X [e] (tCons (tE B W' m) tNil) := pa_cons he pa_nil hs
theorem pi_r1 (hg : Gl X "range") (hm : X.mg "range" = none) (hs : starEach [e] X.env = [(false, eval e X.env)]) (he : PE X e (tE B W' m)) {p pos : Pos} :
    PI X tg (.Call (.Name "range" p) [e] [] pos) (tIk B W' fun r => (m r).bnd fun x => M.look fun _ => x.int?.bind fun n => rngW 0 n) := by
  refine pi_by fun pins s σ H R I h => ?_
  obtain ⟨G, r, st, sr, er, h⟩ := h
  refine ⟨_, pi_range1 hg hm (pa_1 he hs) hs, G, r, st, sr, er, Aft.bnd h fun v G1 H1 w st1 l1 s1 q1 h1 => ?_⟩
  obtain ⟨k, hk, h2⟩ := Aft.look h1
  obtain ⟨n, hn, hk⟩ := bind_some hk
  have hw : w = .int n := by cases w <;> cases hn <;> rfl
  subst hw
  obtain ⟨⟨a1, a2, a3, a4⟩, rfl⟩ := ite_some (show (if _ then some _ else none) = some k from hk)
  refine ⟨n, by rw [show v = .int n from q1], a3, a4, h2.now s1 ?_⟩
  have := wk_rng (B := B) (G := G1) (H := H1) 0 n
  rw [Int.sub_zero] at this ⊢
  exact this
theorem pi_r2 (hg : Gl X "range") (hm : X.mg "range" = none) (hs : starEach [e1, e2] X.env = [(false, eval e1 X.env), (false, eval e2 X.env)]) (hs2 : starEach [e2] X.env = [(false, eval e2 X.env)]) (he : PE X e1 (tE B W' m1)) (he2 : PE X e2 (tE B W' m2)) {p pos : Pos} :
    PI X tg (.Call (.Name "range" p) [e1, e2] [] pos) (tIk B W' fun r => (m1 r).bnd fun x => (m2 r).bnd fun y => M.look fun _ => x.int?.bind fun i => y.int?.bind fun j => rngW i j) := by
  refine pi_by fun pins s σ H R I h => ?_
  obtain ⟨G, r, st, sr, er, h⟩ := h
  refine ⟨_, pi_range2 hg hm (pa_cons he (pa_cons he2 pa_nil hs2) (by rw [hs, hs2])) hs hs2, G, r, st, sr, er, Aft.bnd h fun v G1 H1 w st1 l1 s1 q1 h1 => ?_⟩
  refine ⟨G1, r, st1, s1, er.lt l1, Aft.bnd h1 fun u G2 H2 w2 st2 l2 s2 q2 h2 => ?_⟩
  obtain ⟨k, hk, h3⟩ := Aft.look h2
  obtain ⟨i, hi, hk⟩ := bind_some hk
  obtain ⟨j, hj, hk⟩ := bind_some hk
  have hw : w = .int i := by cases w <;> cases hi <;> rfl
  have hw2 : w2 = .int j := by cases w2 <;> cases hj <;> rfl
  subst hw hw2
  obtain ⟨⟨a1, a2, a3, a4⟩, rfl⟩ := ite_some (show (if _ then some _ else none) = some k from hk)
  exact ⟨i, j, by rw [show v = .int i from q1, show u = .int j from q2], ⟨a1, a2, a3, a4⟩, h3.now s2 (wk_rng i j)⟩
theorem pi_en (hK : X.K = B.K) (hg : Gl X "enumerate") (hm : X.mg "enumerate" = none) (hs : starEach [e] X.env = [(false, eval e X.env)]) (he : PE X e (tE B W' m)) {p pos tpos : Pos} {elts : List Expr} {kk : Nat} :
    PI X (.Tuple elts kk tpos) (.Call (.Name "enumerate" p) [e] [] pos) (tIk B W' fun r => (m r).bnd fun x => M.look (enW x)) := by
  refine pi_by fun pins s σ H R I h => ?_
  obtain ⟨G, r, st, sr, er, h⟩ := h
  have lists : (∀ w st1, m r st = .ok w st1 → ∀ k, enW w st1 = some k → ∃ xs gd, gdOf st1 w = some (xs, gd) ∧ k = ⟨enumFrom 0 xs, gd⟩) → ∃ wi', PI X (.Tuple elts kk tpos) (.Call (.Name "enumerate" p) [e] [] pos) wi' ∧ wi' σ H R := fun hw =>
    ⟨_, pi_enum hg hm (pa_1 he hs) hs, G, r, st, sr, er, Aft.bndE h fun v G1 H1 w st1 em l1 s1 q1 h1 => by
      obtain ⟨k, hk, h2⟩ := Aft.look h1
      obtain ⟨xs, gd, hg, rfl⟩ := hw w st1 em k hk
      obtain ⟨a, rfl, ⟨vs, d⟩, q⟩ := gd_at s1 q1 hg
      exact ⟨a, vs, rfl, by rw [hK]; exact d, by rw [hK]; exact h2.now s1 (wk_enum q)⟩⟩
  cases hm' : m r st with
  | stuck =>
    exfalso
    have h2 := h
    simp only [M.bnd, hm'] at h2
    exact h2
  | exc c p st1 => exact lists fun w st1 em => by rw [hm'] at em; cases em
  | ok w st1 =>
    by_cases ht : ∃ xs, w = .tup xs
    · obtain ⟨xs, rfl⟩ := ht
      refine ⟨_, pi_enumT hg hm (pa_1 he hs) hs, G, r, st, sr, er, Aft.bndE h fun v G1 H1 w st2 em l1 s1 q1 h1 => ?_⟩
      rw [hm'] at em; cases em
      obtain ⟨k, hk, h2⟩ := Aft.look h1
      have hk' : some (⟨enumFrom 0 xs, []⟩ : Wk) = some k := hk
      cases hk'
      obtain ⟨a, vs, rfl, d1, d2⟩ := (show ∃ a vs, v = .ref a ∧ SqT B.K G1.S a vs ∧ Rls B G1 xs vs from q1)
      refine ⟨a, vs, rfl, by rw [hK]; exact SqT.gr s1.sub d1, ?_⟩
      rw [hK]
      exact h2.now s1 (wk_enumT d1 d2)
    · refine lists fun w' st2 em k hk => ?_
      rw [hm'] at em; cases em
      have hk' : (gdOf st1 w).map (fun p => (⟨enumFrom 0 p.1, p.2⟩ : Wk)) = some k := by
        cases w <;> first | exact hk | exact absurd ⟨_, rfl⟩ ht
      obtain ⟨⟨xs, gd⟩, h1, rfl⟩ := map_some hk'
      exact ⟨xs, gd, h1, rfl⟩
theorem pi_zp (hK : X.K = B.K) (hg : Gl X "zip") (hm : X.mg "zip" = none) (hs : starEach [e1, e2] X.env = (false, eval e1 X.env) :: starEach [e2] X.env) (hs2 : starEach [e2] X.env = [(false, eval e2 X.env)]) (he : PE X e1 (tE B W' m1)) (he2 : PE X e2 (tE B W' m2)) {p pos tpos : Pos} {elts : List Expr} {kk : Nat} :
    PI X (.Tuple elts kk tpos) (.Call (.Name "zip" p) [e1, e2] [] pos) (tIk B W' fun r => (m1 r).bnd fun x => (m2 r).bnd fun y => M.look (zpW x y)) := by
  refine pi_by fun pins s σ H R I h => ?_
  obtain ⟨G, r, st, sr, er, h⟩ := h
  refine ⟨_, pi_zipA hg hm (pa_cons he (pa_cons he2 pa_nil hs2) hs) hs (by rw [hs2]; rfl), G, r, st, sr, er, Aft.bnd h fun v G1 H1 w st1 l1 s1 q1 h1 => ?_⟩
  refine ⟨G1, r, st1, s1, er.lt l1, Aft.bnd h1 fun u G2 H2 w2 st2 l2 s2 q2 h2 => ?_⟩
  obtain ⟨k, hk, h3⟩ := Aft.look h2
  have q1' := q1.lt l2
  by_cases ht : ∃ xs ys, w = .tup xs ∧ w2 = .tup ys
  · obtain ⟨xs, ys, rfl, rfl⟩ := ht
    have hk' : some (⟨zipW xs ys, []⟩ : Wk) = some k := hk
    cases hk'
    obtain ⟨a, vs, rfl, d1, d2⟩ := (show ∃ a vs, v = .ref a ∧ SqT B.K G2.S a vs ∧ Rls B G2 xs vs from q1')
    obtain ⟨b, us, rfl, f1, f2⟩ := (show ∃ a vs, u = .ref a ∧ SqT B.K G2.S a vs ∧ Rls B G2 ys vs from q2)
    refine ⟨a, b, vs, us, rfl, .inr ⟨by rw [hK]; exact SqT.gr s2.sub d1, by rw [hK]; exact SqT.gr s2.sub f1, ?_⟩⟩
    rw [hK]
    exact h3.now s2 (wk_zipT d1 d2 f1 f2)
  · have hk' : ((gdOf st2 w).bind fun p => (gdOf st2 w2).map fun q => (⟨zipW p.1 q.1, p.2 ++ q.2⟩ : Wk)) = some k := by
      cases w <;> first | exact hk | skip
      cases w2 <;> first | exact hk | exact absurd ⟨_, _, rfl, rfl⟩ ht
    obtain ⟨⟨xs, g1⟩, h4, hk'⟩ := bind_some hk'
    obtain ⟨⟨ys, g2⟩, h5, rfl⟩ := map_some hk'
    obtain ⟨a, rfl, ⟨vs, d⟩, z1⟩ := gd_at s2 q1' h4
    obtain ⟨b, rfl, ⟨us, d2⟩, z2⟩ := gd_at s2 q2 h5
    exact ⟨a, b, vs, us, rfl, .inl ⟨by rw [hK]; exact d, by rw [hK]; exact d2, by rw [hK]; exact h3.now s2 (wk_zip z1 z2)⟩⟩
end
end Ip
/-! Ip9: the comprehension; for; while. -/
namespace Ip
open PySem L2 PySem.Spec PyProof.Rows
section
variable {B : Bs} {W' : WX} {σ : L2.St} {H : Hp} {Q : VK}
/-- no error is wished for -/
abbrev WF : WX := fun _ _ _ _ => False
def turnM (own : List Nat) (t : Tg) (mc : En → M Bool) (me : En → M W) (r : En) (x : W) : M (Option W) :=
  (M.opt (bindT t x (wipeE r own))).bnd fun r' => ((mc r').bnd fun b => if b then (me r').bnd fun y => M.ret (some y) else M.ret none).calm
theorem ok_bnd {α β : Type} {m : M α} {f : α → M β} {st st' : Sto} {b : β} (h : m.bnd f st = .ok b st') : ∃ a s, m st = .ok a s ∧ f a s = .ok b st' := by
  unfold M.bnd at h
  cases hm : m st with
  | ok a s => rw [hm] at h; exact ⟨a, s, rfl, h⟩
  | exc c p s => rw [hm] at h; cases h
  | stuck => rw [hm] at h; cases h
/-- a value of a run that is known -/
theorem Aft.known {α β : Type} {rel : Rg → Hp → α → β → Prop} {G : Rg} {r : En} {m : RR α} {a : α} {st : Sto} {R : β → Hp → Prop} (e : m = .ok a st) (k : ∀ v G1 H1, Lt G H G1 H1 → StR B G1 st H1 → rel G1 H1 a v → R v H1) : Aft B W' rel G H r σ m R := by
  subst e
  exact k
theorem Ros_len {G : Rg} {fs : List (Option W)} {us : List (Option V)} (h : Ros B G fs us) : fs.length = us.length := h.1
/-- the private new list is still there behind a step -/
theorem Lt.priv {G G' : Rg} {H H' : Hp} {D : Addr} {o : HO} (l : Lt G H G' H') (h : H D = some o) (n : G.S D = none) (k : ∀ k, G.i k ≠ some D) : H' D = some o ∧ G'.S D = none ∧ ∀ k, G'.i k ≠ some D := l.p D o h n k
theorem StR.putPriv {G : Rg} {st : Sto} {D : Addr} {o : HO} (s : StR B G st H) (n : G.S D = none) (k : ∀ k, G.i k ≠ some D) : StR B G st (upd H D o) := by
  refine ⟨fun a u e => ?_, fun j a e => ?_, s.new, fun j u e => ?_, s.inj⟩
  · rw [upd_ne (fun z => by rw [z, n] at e; cases e)]; exact s.sub a u e
  · obtain ⟨u, q⟩ := s.iot j a e
    exact ⟨u, by rw [upd_ne (fun z => k j (by rw [← z]; exact e))]; exact q⟩
  · obtain ⟨a, e1, e2, q⟩ := s.liv j u e
    exact ⟨a, e1, e2, q.lt (fun _ _ h => h) (fun _ _ h => h) (upd_ne (fun z => k j (by rw [← z]; exact e1)))⟩

theorem wipe_sub {σ : L2.St} {vs : List Nat} : ∀ {us : List Nat}, (∀ i ∈ us, i ∈ vs) → wipe (wipe σ us) vs = wipe σ vs
  | [], _ => rfl
  | u :: us, h => by
    show wipe ((wipe σ us).set u none) vs = _
    rw [wipe_set (h u (by simp)), wipe_sub fun i hi => h i (by simp [hi])]
theorem lc_of {K : PySem.W.Frag} (hK : K = B.K) {mi : En → M Wk} {own : List Nat} {t : Tg} {mc : En → M Bool} {me : En → M W} (ht : ∀ i ∈ tgIx t, i ∈ own)
    (h : tFr B W' (fun r => (mi r).bnd fun k => lcRun k.gd (turnM own t mc me r) k.xs []) σ H Q) :
    tLc (tIk B W' mi) (gT K t) (tT B WF mc) (tE B WF me) own σ H Q := by
  obtain ⟨G, r, st, sr, er, h⟩ := h
  refine ⟨G, r, st, sr, er, Aft.bnd h fun J G1 H1 k st1 l1 s1 q1 h1 D hD => ?_⟩
  have ⟨nD, kD⟩ := s1.fresh hD
  have hD0 : H D = none := l1.gone sr s1 hD
  obtain ⟨I, hI⟩ : ∃ I : Nat → Hp → Prop, ∀ i Hh, I i Hh ↔ ∃ G2 st2 accW accV, Lt G1 H1 G2 Hh ∧ StR B G2 st2 Hh ∧ Hh D = some (.lst accV) ∧ G2.S D = none ∧ (∀ k, G2.i k ≠ some D) ∧ Rls B G2 accW accV ∧
      Aft B W' (rF B H) G1 H1 r σ (lcRun k.gd (turnM own t mc me r) (k.xs.drop i) accW st2) Q := ⟨_, fun _ _ => Iff.rfl⟩
  refine ⟨fun i m Hh => m = k.xs.length - i ∧ i ≤ k.xs.length ∧ I i Hh, ⟨_, rfl, Nat.zero_le _, (hI _ _).mpr ⟨G1, st1, [], [], Lt.lay hD, s1.lay hD, upd_same, nD, kD, Rls.nil, h1⟩⟩, ?_⟩
  rintro i m Hh ⟨rfl, hi, hI2⟩
  obtain ⟨G2, st2, accW, accV, l2, s2, hDh, n2, k2, ra, h2⟩ := (hI _ _).mp hI2
  by_cases hlt : i < k.xs.length
  · -- a turn
    rw [List.drop_eq_getElem_cons hlt] at h2
    obtain ⟨⟨hst, hz⟩, h2⟩ : (stays st2 k.gd ∧ accW.length < sizeLine) ∧ Aft B W' (rF B H) G1 H1 r σ ((turnM own t mc me r k.xs[i]).bnd (fun o => lcRun k.gd (turnM own t mc me r) (k.xs.drop (i + 1)) (match o with | some y => accW ++ [y] | none => accW)) st2) Q := by
      have e : lcRun k.gd (turnM own t mc me r) (k.xs[i] :: k.xs.drop (i + 1)) accW st2 = (open Classical in if stays st2 k.gd ∧ accW.length < sizeLine then (turnM own t mc me r k.xs[i]).bnd (fun o => lcRun k.gd (turnM own t mc me r) (k.xs.drop (i + 1)) (match o with | some y => accW ++ [y] | none => accW)) st2 else .stuck) := rfl
      rw [e] at h2
      by_cases c : stays st2 k.gd ∧ accW.length < sizeLine
      · rw [if_pos c] at h2; exact ⟨c, h2⟩
      · rw [if_neg c] at h2; exact h2.elim
    obtain ⟨go, _⟩ := q1 G2 Hh st2 l2 s2 hst
    obtain ⟨hgo, hy⟩ := go i k.xs[i] (List.getElem?_eq_getElem hlt)
    refine .inr ⟨hgo, I (i + 1), fun H' hm' => ⟨_, by omega, rfl, hlt, hm'⟩, fun v H3 hyld => ?_⟩
    obtain ⟨G3, l3, s3, q3⟩ := hy v H3 hyld
    obtain ⟨hD3, n3, k3⟩ := l3.priv hDh n2 k2
    -- the target
    rw [show turnM own t mc me r k.xs[i] = (M.opt (bindT t k.xs[i] (wipeE r own))).bnd fun r' => ((mc r').bnd fun b => if b then (me r').bnd fun y => M.ret (some y) else M.ret none).calm from rfl, M.assoc] at h2
    obtain ⟨r', hb, h2⟩ := Aft.optB h2
    obtain ⟨o, st3, hm, h2⟩ := Aft.calmB h2
    obtain ⟨b, st4, hc, hm⟩ := ok_bnd hm
    have l13 : Lt G1 H1 G3 H3 := l2.trans l3
    have er3 : EnR B G3 r σ := (er.lt l1).lt l13
    subst hK
    refine gT_of s3 t k.xs[i] v (wipeE r own) r' (wipe σ own) _ q3 (er3.wipe own) hb fun σ2 e2 hw => ?_
    refine ⟨?_, ⟨G3, r', st2, s3, e2, ?_⟩⟩
    · rw [hw own ht]
      exact wipe_sub fun _ h => h
    · refine Aft.known hc fun b' G4 H4 l4 s4 eb => ?_
      subst eb
      obtain ⟨hD4, n4, k4⟩ := l4.priv hD3 n3 k3
      cases b with
      | false =>
        rw [if_neg Bool.false_ne_true]
        have hm' : M.ret (none : Option W) st4 = .ok o st3 := hm
        have e1 : o = none ∧ st3 = st4 := by cases hm'; exact ⟨rfl, rfl⟩
        rw [e1.1, e1.2] at h2
        exact (hI _ _).mpr ⟨G4, st4, accW, accV, l13.trans l4, s4, hD4, n4, k4, (ra.lt l3).lt l4, h2⟩
      | true =>
        rw [if_pos rfl]
        have hm' : (me r').bnd (fun y => M.ret (some y)) st4 = .ok o st3 := hm
        obtain ⟨y, st5, hy5, hm'⟩ := ok_bnd hm'
        have hm2 : M.ret (some y) st5 = .ok o st3 := hm'
        have e1 : o = some y ∧ st3 = st5 := by cases hm2; exact ⟨rfl, rfl⟩
        rw [e1.1, e1.2] at h2
        refine ⟨G4, r', st4, s4, e2.lt l4, Aft.known hy5 fun u G5 H5 l5 s5 qy => ?_⟩
        obtain ⟨hD5, n5, k5⟩ := l5.priv hD4 n4 k4
        refine ⟨accV, hD5, by rw [← ra.len]; exact hz, (hI _ _).mpr ⟨G5, st5, accW ++ [y], accV ++ [u], ?_, s5.putPriv n5 k5, upd_same, n5, k5, (((ra.lt l3).lt l4).lt l5).app (Rls.cons qy Rls.nil), h2⟩⟩
        have lt5 := (l13.trans l4).trans l5
        refine ⟨lt5.s, lt5.i, fun a o h n kk => ?_⟩
        obtain ⟨p1, p2, p3⟩ := lt5.p a o h n kk
        exact ⟨by rw [upd_ne (fun z => by rw [z, hD] at h; cases h)]; exact p1, p2, p3⟩
  · have e : i = k.xs.length := by omega
    subst e
    rw [List.drop_length] at h2
    obtain ⟨hs, h2⟩ : stays st2 k.gd ∧ Aft B W' (rF B H) G1 H1 r σ (.ok accW st2) Q := by
      have e : lcRun k.gd (turnM own t mc me r) [] accW st2 = (open Classical in if stays st2 k.gd then .ok accW st2 else .stuck) := rfl
      rw [e] at h2
      by_cases c : stays st2 k.gd
      · rw [if_pos c] at h2; exact ⟨c, h2⟩
      · rw [if_neg c] at h2; exact h2.elim
    exact .inl ⟨(q1 G2 Hh st2 l2 s2 hs).2, h2 (.ref D) G2 Hh l2 s2 ⟨D, accV, rfl, hD0, hDh, n2, k2, ra⟩⟩

/-! ### statements -/
/-- what follows a run of statements -/
def AfS (B : Bs) (W' : WX) (G : Rg) (H : Hp) (D : Ends) (o : RS) : Prop := match o with
  | .nx r st => ∀ (σ' : L2.St) (G' : Rg) (H' : Hp), Lt G H G' H' → StR B G' st H' → EnR B G' r σ' → D.nx σ' H'
  | .bk r st => ∀ (σ' : L2.St) (G' : Rg) (H' : Hp), Lt G H G' H' → StR B G' st H' → EnR B G' r σ' → D.bk σ' H'
  | .ct r st => ∀ (σ' : L2.St) (G' : Rg) (H' : Hp), Lt G H G' H' → StR B G' st H' → EnR B G' r σ' → D.ct σ' H'
  | .rt w st => ∀ (v : V) (G' : Rg) (H' : Hp), Lt G H G' H' → StR B G' st H' → Rl B G' w v → D.rt v H'
  | .exc c p r st => ∀ (cls : Value) (d : Option Addr) (σ' : L2.St) (G' : Rg) (H' : Hp), Lt G H G' H' → StR B G' st H' → EnR B G' r σ' → ExR B G' H' c p cls d → W' cls d σ' H'
  | .stuck => False
def tSt (B : Bs) (W' : WX) (m : En → Sto → RS) : TS := fun D σ H => ∃ G r st, StR B G st H ∧ EnR B G r σ ∧ AfS B W' G H D (m r st)
theorem AfS.re {G G' : Rg} {H H' : Hp} {D : Ends} {o : RS} (l : Lt G H G' H') (h : AfS B W' G H D o) : AfS B W' G' H' D o := by
  cases o with
  | nx r st => exact fun σ' G2 H2 l2 => h σ' G2 H2 (l.trans l2)
  | bk r st => exact fun σ' G2 H2 l2 => h σ' G2 H2 (l.trans l2)
  | ct r st => exact fun σ' G2 H2 l2 => h σ' G2 H2 (l.trans l2)
  | rt w st => exact fun σ' G2 H2 l2 => h σ' G2 H2 (l.trans l2)
  | exc c p r st => exact fun cls d σ' G2 H2 l2 => h cls d σ' G2 H2 (l.trans l2)
  | stuck => exact h
/-- an expression first -/
theorem AfS.of {α β : Type} {rel : Rg → Hp → α → β → Prop} {G : Rg} {r : En} {st : Sto} {m : M α} {f : α → Sto → RS} {D : Ends} {R : β → Hp → Prop} (er : EnR B G r σ) (h : AfS B W' G H D (RS.of (m st) r f))
    (k : ∀ v G1 H1 w st1, Lt G H G1 H1 → StR B G1 st1 H1 → rel G1 H1 w v → AfS B W' G1 H1 D (f w st1) → R v H1) : Aft B W' rel G H r σ (m st) R := by
  unfold RS.of at h
  cases hm : m st with
  | ok a s =>
    rw [hm] at h
    exact fun v G1 H1 l s1 q => k v G1 H1 a s l s1 q (AfS.re l h)
  | exc c p s =>
    rw [hm] at h
    exact fun cls d G1 H1 l s1 x => h cls d σ G1 H1 l s1 (er.lt l) x
  | stuck =>
    rw [hm] at h
    exact h
end
end Ip
/-! Ip10: statements. -/
namespace Ip
open PySem L2 PySem.Spec PyProof.Rows
section
variable {B : Bs} {W' : WX} {σ : L2.St} {H : Hp} {Q : VK} {D : Ends}
theorem for_of {K : PySem.W.Frag} (hK : K = B.K) {mi : En → M Wk} {t : Tg} {mb : En → Sto → RS}
    (h : tSt B W' (fun r st => RS.of (mi r st) r fun k st => forRun k.gd (fun x r st => match bindT t x r with | some r' => mb r' st | none => .stuck) k.xs r st) D σ H) :
    tFor (tIk B W' mi) (gT K t) (tSt B W' mb) D σ H := by
  obtain ⟨G, r, st, sr, er, h⟩ := h
  generalize hbody : (fun x r st => match bindT t x r with | some r' => mb r' st | none => RS.stuck : W → En → Sto → RS) = body at h
  refine ⟨G, r, st, sr, er, AfS.of er h fun J G1 H1 k st1 l1 s1 q1 h1 => ?_⟩
  obtain ⟨I, hI⟩ : ∃ I : Nat → L2.St → Hp → Prop, ∀ i σh Hh, I i σh Hh ↔ ∃ G2 r2 st2, Lt G1 H1 G2 Hh ∧ StR B G2 st2 Hh ∧ EnR B G2 r2 σh ∧ AfS B W' G1 H1 D (forRun k.gd body (k.xs.drop i) r2 st2) := ⟨_, fun _ _ _ => Iff.rfl⟩
  refine ⟨fun i m σh Hh => m = k.xs.length - i ∧ i ≤ k.xs.length ∧ I i σh Hh, ⟨_, rfl, Nat.zero_le _, (hI _ _ _).mpr ⟨G1, r, st1, Lt.rfl, s1, er.lt l1, h1⟩⟩, ?_⟩
  rintro i m σh Hh ⟨rfl, hi, hI2⟩
  obtain ⟨G2, r2, st2, l2, s2, e2, h2⟩ := (hI _ _ _).mp hI2
  by_cases hlt : i < k.xs.length
  · rw [List.drop_eq_getElem_cons hlt] at h2
    obtain ⟨hst, h2⟩ : stays st2 k.gd ∧ AfS B W' G1 H1 D (match body k.xs[i] r2 st2 with
      | .nx r' st' => forRun k.gd body (k.xs.drop (i + 1)) r' st'
      | .ct r' st' => forRun k.gd body (k.xs.drop (i + 1)) r' st'
      | .bk r' st' => .nx r' st'
      | o => o) := by
      have e : forRun k.gd body (k.xs[i] :: k.xs.drop (i + 1)) r2 st2 = (open Classical in if stays st2 k.gd then (match body k.xs[i] r2 st2 with
        | .nx r' st' => forRun k.gd body (k.xs.drop (i + 1)) r' st'
        | .ct r' st' => forRun k.gd body (k.xs.drop (i + 1)) r' st'
        | .bk r' st' => .nx r' st'
        | o => o) else .stuck) := rfl
      rw [e] at h2
      by_cases c : stays st2 k.gd
      · rw [if_pos c] at h2; exact ⟨c, h2⟩
      · rw [if_neg c] at h2; exact h2.elim
    obtain ⟨go, _⟩ := q1 G2 Hh st2 l2 s2 hst
    obtain ⟨hgo, hy⟩ := go i k.xs[i] (List.getElem?_eq_getElem hlt)
    refine .inr ⟨hgo, I (i + 1), fun σ' H' hm => ⟨_, by omega, rfl, hlt, hm⟩, fun v H3 hyld => ?_⟩
    obtain ⟨G3, l3, s3, q3⟩ := hy v H3 hyld
    subst hK
    cases hb : bindT t k.xs[i] r2 with
    | none =>
      exfalso
      rw [← hbody] at h2
      simp only [hb] at h2
      exact h2
    | some r' =>
      have l13 := l2.trans l3
      refine gT_of s3 t k.xs[i] v r2 r' σh _ q3 (e2.lt l3) hb fun σ2 e3 _ => ⟨G3, r', st2, s3, e3, ?_⟩
      have eb : body k.xs[i] r2 st2 = mb r' st2 := by
        rw [← hbody]
        simp only [hb]
      rw [eb] at h2
      cases hr : mb r' st2 with
      | nx r4 st4 =>
        rw [hr] at h2
        exact fun σ4 G4 H4 l4 s4 e4 => (hI _ _ _).mpr ⟨G4, r4, st4, l13.trans l4, s4, e4, h2⟩
      | ct r4 st4 =>
        rw [hr] at h2
        exact fun σ4 G4 H4 l4 s4 e4 => (hI _ _ _).mpr ⟨G4, r4, st4, l13.trans l4, s4, e4, h2⟩
      | bk r4 st4 =>
        rw [hr] at h2
        exact fun σ4 G4 H4 l4 s4 e4 => h2 σ4 G4 H4 (l13.trans l4) s4 e4
      | rt w st4 =>
        rw [hr] at h2
        exact fun v4 G4 H4 l4 s4 e4 => h2 v4 G4 H4 (l13.trans l4) s4 e4
      | exc c p r4 st4 =>
        rw [hr] at h2
        exact fun cls d σ4 G4 H4 l4 s4 e4 => h2 cls d σ4 G4 H4 (l13.trans l4) s4 e4
      | stuck =>
        rw [hr] at h2
        exact h2
  · have e : i = k.xs.length := by omega
    subst e
    rw [List.drop_length] at h2
    obtain ⟨hs, h2⟩ : stays st2 k.gd ∧ AfS B W' G1 H1 D (.nx r2 st2) := by
      have e : forRun k.gd body [] r2 st2 = (open Classical in if stays st2 k.gd then .nx r2 st2 else .stuck) := rfl
      rw [e] at h2
      by_cases c : stays st2 k.gd
      · rw [if_pos c] at h2; exact ⟨c, h2⟩
      · rw [if_neg c] at h2; exact h2.elim
    exact .inl ⟨(q1 G2 Hh st2 l2 s2 hs).2, h2 σh G2 Hh l2 s2 e2⟩
theorem whl_of {mc : En → M Bool} {mb : En → Sto → RS} {n : Nat} (h : tSt B W' (fun r st => whlRun mc mb n r st) D σ H) : tWhile (tT B W' mc) (tSt B W' mb) D σ H := by
  obtain ⟨G, r, st, sr, er, h⟩ := h
  obtain ⟨I, hI⟩ : ∃ I : Nat → L2.St → Hp → Prop, ∀ n σh Hh, I n σh Hh ↔ ∃ G2 r2 st2, Lt G H G2 Hh ∧ StR B G2 st2 Hh ∧ EnR B G2 r2 σh ∧ AfS B W' G H D (whlRun mc mb n r2 st2) := ⟨_, fun _ _ _ => Iff.rfl⟩
  refine ⟨I, ⟨n, (hI _ _ _).mpr ⟨G, r, st, Lt.rfl, sr, er, h⟩⟩, fun m σh Hh hm => ?_⟩
  obtain ⟨G2, r2, st2, l2, s2, e2, h2⟩ := (hI _ _ _).mp hm
  cases m with
  | zero => exact (show False from h2).elim
  | succ m =>
    have e : whlRun mc mb (m + 1) r2 st2 = (match mc r2 st2 with
      | .ok true st' => match mb r2 st' with
        | .nx r' st' => whlRun mc mb m r' st'
        | .ct r' st' => whlRun mc mb m r' st'
        | .bk r' st' => .nx r' st'
        | o => o
      | .ok false st' => .nx r2 st'
      | .exc c p st' => .exc c p r2 st'
      | .stuck => .stuck) := rfl
    rw [e] at h2
    refine ⟨G2, r2, st2, s2, e2, ?_⟩
    cases hc : mc r2 st2 with
    | stuck => rw [hc] at h2; exact h2
    | exc c p st3 =>
      rw [hc] at h2
      exact fun cls d G3 H3 l3 s3 x => h2 cls d σh G3 H3 (l2.trans l3) s3 (e2.lt l3) x
    | ok b st3 =>
      rw [hc] at h2
      intro b' G3 H3 l3 s3 eb
      have eb' : b = b' := eb
      subst eb'
      cases b with
      | false =>
        rw [if_neg Bool.false_ne_true]
        exact h2 σh G3 H3 (l2.trans l3) s3 (e2.lt l3)
      | true =>
        rw [if_pos rfl]
        refine ⟨I m, fun σ' H' hI' => ⟨m, Nat.lt_succ_self m, hI'⟩, G3, r2, st3, s3, e2.lt l3, ?_⟩
        have l13 := l2.trans l3
        have h2' : AfS B W' G H D (match mb r2 st3 with
          | .nx r' st' => whlRun mc mb m r' st'
          | .ct r' st' => whlRun mc mb m r' st'
          | .bk r' st' => .nx r' st'
          | o => o) := h2
        cases hr : mb r2 st3 with
        | nx r4 st4 =>
          rw [hr] at h2'
          exact fun σ4 G4 H4 l4 s4 e4 => (hI _ _ _).mpr ⟨G4, r4, st4, l13.trans l4, s4, e4, h2'⟩
        | ct r4 st4 =>
          rw [hr] at h2'
          exact fun σ4 G4 H4 l4 s4 e4 => (hI _ _ _).mpr ⟨G4, r4, st4, l13.trans l4, s4, e4, h2'⟩
        | bk r4 st4 =>
          rw [hr] at h2'
          exact fun σ4 G4 H4 l4 s4 e4 => h2' σ4 G4 H4 (l13.trans l4) s4 e4
        | rt w st4 =>
          rw [hr] at h2'
          exact fun v4 G4 H4 l4 s4 e4 => h2' v4 G4 H4 (l13.trans l4) s4 e4
        | exc c p r4 st4 =>
          rw [hr] at h2'
          exact fun cls d σ4 G4 H4 l4 s4 e4 => h2' cls d σ4 G4 H4 (l13.trans l4) s4 e4
        | stuck =>
          rw [hr] at h2'
          exact h2'
theorem seq_of {m1 m2 : En → Sto → RS} (h : tSt B W' (fun r st => match m1 r st with
      | .nx r' st' => m2 r' st'
      | o => o) D σ H) : tSeq (tSt B W' m1) (tSt B W' m2) D σ H := by
  obtain ⟨G, r, st, sr, er, h⟩ := h
  refine ⟨G, r, st, sr, er, ?_⟩
  have h' : AfS B W' G H D (match m1 r st with
      | .nx r' st' => m2 r' st'
      | o => o) := h
  cases hr : m1 r st with
  | nx r4 st4 =>
    rw [hr] at h'
    exact fun σ4 G4 H4 l4 s4 e4 => ⟨G4, r4, st4, s4, e4, AfS.re l4 h'⟩
  | ct r4 st4 => rw [hr] at h'; exact h'
  | bk r4 st4 => rw [hr] at h'; exact h'
  | rt w st4 => rw [hr] at h'; exact h'
  | exc c p r4 st4 => rw [hr] at h'; exact h'
  | stuck => rw [hr] at h'; exact h'
theorem nil_of (h : tSt B W' (fun r st => .nx r st) D σ H) : tNext D σ H := by
  obtain ⟨G, r, st, sr, er, h⟩ := h
  exact h σ G H Lt.rfl sr er
theorem ife_of {mc : En → M Bool} {ma mb : En → Sto → RS} (h : tSt B W' (fun r st => RS.of (mc r st) r fun k st => if k then ma r st else mb r st) D σ H) : tIfS (tT B W' mc) (tSt B W' ma) (tSt B W' mb) D σ H := by
  obtain ⟨G, r, st, sr, er, h⟩ := h
  refine ⟨G, r, st, sr, er, AfS.of er h fun b G1 H1 w st1 l1 s1 q1 h1 => ?_⟩
  have q1' : w = b := q1
  subst q1'
  cases w with
  | true => rw [if_pos rfl] at h1 ⊢; exact ⟨G1, r, st1, s1, er.lt l1, h1⟩
  | false => rw [if_neg Bool.false_ne_true] at h1 ⊢; exact ⟨G1, r, st1, s1, er.lt l1, h1⟩
theorem ret_of {m : En → M W} (h : tSt B W' (fun r st => RS.of (m r st) r fun w st => .rt w st) D σ H) : tRet (tE B W' m) D σ H := by
  obtain ⟨G, r, st, sr, er, h⟩ := h
  exact ⟨G, r, st, sr, er, AfS.of er h fun v G1 H1 w st1 l1 s1 q1 h1 => h1 v G1 H1 Lt.rfl s1 q1⟩
theorem drop_of {m : En → M W} (h : tSt B W' (fun r st => RS.of (m r st) r fun _ st => .nx r st) D σ H) : tDrop (tE B W' m) D σ H := by
  obtain ⟨G, r, st, sr, er, h⟩ := h
  exact ⟨G, r, st, sr, er, AfS.of er h fun v G1 H1 w st1 l1 s1 q1 h1 => h1 σ G1 H1 Lt.rfl s1 (er.lt l1)⟩
theorem set_of {m : En → M W} {i : Nat} (h : tSt B W' (fun r st => RS.of (m r st) r fun w st => .nx (r.set i (some w)) st) D σ H) : tAsg (tE B W' m) (gName i) D σ H := by
  obtain ⟨G, r, st, sr, er, h⟩ := h
  exact ⟨G, r, st, sr, er, AfS.of er h fun v G1 H1 w st1 l1 s1 q1 h1 => h1 _ G1 H1 Lt.rfl s1 ((er.lt l1).set i q1)⟩
theorem unp_of {K : PySem.W.Frag} (hK : K = B.K) {m : En → M W} {t : Tg} (h : tSt B W' (fun r st => RS.of (m r st) r fun w st => match bindT t w r with
    | some r' => .nx r' st
    | none => .stuck) D σ H) : tAsg (tE B W' m) (gT K t) D σ H := by
  obtain ⟨G, r, st, sr, er, h⟩ := h
  refine ⟨G, r, st, sr, er, AfS.of er h fun v G1 H1 w st1 l1 s1 q1 h1 => ?_⟩
  subst hK
  cases hb : bindT t w r with
  | none => simp only [hb] at h1; exact h1.elim
  | some r' =>
    simp only [hb] at h1
    exact gT_of s1 t w v r r' σ _ q1 (er.lt l1) hb fun σ2 e2 _ => h1 σ2 G1 H1 Lt.rfl s1 e2
theorem par_of {ma mb : En → M W} {i j : Nat} (h : tSt B W' (fun r st => RS.of (((ma r).bnd fun x => (mb r).bnd fun y => M.ret (x, y)) st) r fun p st => .nx ((r.set i (some p.1)).set j (some p.2)) st) D σ H) :
    tPar i j (tCons (tE B W' ma) (tCons (tE B W' mb) tNil)) D σ H := by
  obtain ⟨G, r, st, sr, er, h⟩ := h
  have h' : Aft B W' (fun G _ (p : W × W) (q : V × V) => Rl B G p.1 q.1 ∧ Rl B G p.2 q.2) G H r σ (((ma r).bnd fun x => (mb r).bnd fun y => M.ret (x, y)) st) (fun q H2 => D.nx ((σ.set i (some q.1)).set j (some q.2)) H2) :=
    AfS.of er h fun v G1 H1 w st1 l1 s1 q1 h1 => h1 _ G1 H1 Lt.rfl s1 (((er.lt l1).set i q1.1).set j q1.2)
  refine ⟨G, r, st, sr, er, Aft.bnd h' fun v G1 H1 w st1 l1 s1 q1 h1 => ⟨G1, r, st1, s1, er.lt l1, Aft.bnd h1 fun u G2 H2 w2 st2 l2 s2 q2 h2 => ?_⟩⟩
  exact ⟨v, u, rfl, h2 (v, u) G2 H2 Lt.rfl s2 ⟨q1.lt l2, q2⟩⟩
/-- xs[i] = y, a list that may change -/
theorem setI_at {G : Rg} {st st' : Sto} {x i y : W} {o k v : V} {R : Hp → Prop} (sr : StR B G st H) (hx : Rl B G x o) (hi : Rl B G i k) (hy : Rl B G y v) (e : setI x i y st = some st') (q : ∀ H', Lt G H G H' → StR B G st' H' → R H') : rSetL o k v H R := by
  cases x with
  | obj n =>
    cases i with
    | int j =>
      obtain ⟨a, rfl, ea⟩ := (show ∃ a, o = .ref a ∧ G.i n = some a from hx)
      cases hm : st.m n with
      | none => simp [setI, hm] at e
      | some ob =>
        cases ob with
        | lst xs =>
          have e' : (ixN xs.length j).map (fun p => st.put n (.lst (xs.set p y))) = some st' := by simpa [setI, hm] using e
          obtain ⟨p, hp, rfl⟩ := map_some e'
          obtain ⟨a', e1, _, vs, h1, h2⟩ := sr.liv n _ hm
          rw [ea] at e1; cases e1
          refine ⟨a, vs, j, p, rfl, hi, h1, by rw [← h2.len]; exact hp, q _ (Lt.put ea) (sr.put hm ea ⟨_, upd_same, h2.set p hy⟩)⟩
        | _ => simp [setI, hm] at e
    | _ => simp [setI] at e
  | _ => simp [setI] at e
theorem seti_of {mo mi me : En → M W} (h : tSt B W' (fun r st => RS.of (((me r).bnd fun y => (mo r).bnd fun x => (mi r).bnd fun k => M.upd fun st => (setI x k y st).map fun st => ((), st)) st) r fun _ st => .nx r st) D σ H) :
    tAsg (tE B W' me) (gSub (tE B W' mo) (tE B W' mi) rSetL) D σ H := by
  obtain ⟨G, r, st, sr, er, h⟩ := h
  have h' : Aft B W' (fun _ _ (_ : Unit) (_ : Unit) => True) G H r σ (((me r).bnd fun y => (mo r).bnd fun x => (mi r).bnd fun k => M.upd fun st => (setI x k y st).map fun st => ((), st)) st) (fun _ H2 => D.nx σ H2) :=
    AfS.of er h fun v G1 H1 w st1 l1 s1 q1 h1 => h1 _ G1 H1 Lt.rfl s1 (er.lt l1)
  refine ⟨G, r, st, sr, er, Aft.bnd h' fun v G1 H1 y st1 l1 s1 q1 h1 => ⟨G1, r, st1, s1, er.lt l1, Aft.bnd h1 fun o G2 H2 x st2 l2 s2 q2 h2 => ⟨G2, r, st2, s2, (er.lt l1).lt l2, Aft.bnd h2 fun k G3 H3 i st3 l3 s3 q3 h3 => ?_⟩⟩⟩
  cases hs : setI x i y st3 with
  | none => simp only [M.upd, hs] at h3; exact h3.elim
  | some st4 =>
    have h4 : Aft B W' (fun _ _ (_ : Unit) (_ : Unit) => True) G3 H3 r σ (.ok () st4) (fun _ H2 => D.nx σ H2) := by
      simp only [M.upd, hs] at h3
      exact h3
    exact setI_at s3 (q2.lt l3) q3 ((q1.lt l2).lt l3) hs fun H' l4 s4 => h4 () G3 H' l4 s4 trivial
theorem aug_of {m : En → M W} {i : Nat} {f : W → W → Sto → Option W} (h : tSt B W' (fun r st => RS.of (((getV r i).bnd fun x => (m r).bnd fun y => M.look (f x y)) st) r fun w st => .nx (r.set i (some w)) st) D σ H) :
    tAug i (tE B W' m) (R2of B f) D σ H := by
  obtain ⟨G, r, st, sr, er, h⟩ := h
  have h' : Aft B W' (rV B) G H r σ (((getV r i).bnd fun x => (m r).bnd fun y => M.look (f x y)) st) (fun z H2 => D.nx (σ.set i (some z)) H2) :=
    AfS.of er h fun v G1 H1 w st1 l1 s1 q1 h1 => h1 _ G1 H1 Lt.rfl s1 ((er.lt l1).set i q1)
  obtain ⟨x, hx, h1⟩ := Aft.optB h'
  obtain ⟨o, h2, h3⟩ := bind_some hx
  have h3' : o = some x := h3
  subst h3'
  obtain ⟨v, e1, q⟩ := er.2 i x h2
  refine ⟨v, e1, G, r, st, sr, er, Aft.bnd h1 fun u G1 H1 y st1 l1 s1 q1 h4 => ?_⟩
  obtain ⟨w, hw, h5⟩ := Aft.look h4
  exact ⟨G1, st1, x, y, w, s1, q.lt l1, q1, hw, fun z G' H' l' s' q' => h5 z G' H' l' s' q'⟩
end
section
variable {X : Cx} {B : Bs}
def iopOk (o : Bop) (op : Operator) : Bool := match o, op with | .add, .Add => true | .sub, .Sub => true | .mul, .Mult => true | _, _ => false
theorem ip_iop {o : Bop} {op : Operator} (ho : iopOk o op = true) : PIp X op (R2of B (iop o)) := by
  intro pins s σ H x y v u Q I rx ry h
  obtain ⟨G, st, a, b, w, sr, ra, rb, hw, q⟩ := h
  cases o <;> cases op <;> first | cases ho | skip
  · cases a <;> cases b <;> first | cases hw | skip
    · exact iop_add pins s σ H x y v u Q I rx ry ⟨_, _, ra, rb, q.now sr rfl⟩
    · rename_i i j
      obtain ⟨hz, rfl⟩ := ite_some (show (if i.length + j.length ≤ sizeLine then some (W.str (i ++ j)) else none) = some w from hw)
      exact iop_add_str pins s σ H x y v u Q I rx ry ⟨i, j, ra, rb, hz, q.now sr rfl⟩
  · cases a <;> cases b <;> first | cases hw | skip
    exact iop_sub pins s σ H x y v u Q I rx ry ⟨_, _, ra, rb, q.now sr rfl⟩
  · cases a <;> cases b <;> first | cases hw | skip
    rename_i i j
    obtain ⟨hz, rfl⟩ := ite_some (show (if i.natAbs.log2 + j.natAbs.log2 < 1000000 then some (W.int (i * j)) else none) = some w from hw)
    obtain ⟨t, rfl⟩ := (show ∃ t, v = Value.int i t from by rw [show x = .int i from ra] at rx; exact rx)
    obtain ⟨t', rfl⟩ := (show ∃ t, u = Value.int j t from by rw [show y = .int j from rb] at ry; exact ry)
    exact imul_int ⟨.int (i * j), H, I.tok _, ⟨_, rfl⟩, q.now sr rfl⟩ (CMulW.ok hz)
end
end Ip
/-! Ip11: what is fixed of a program; contexts; calls. -/
namespace Ip
open PySem L2 PySem.Spec PyProof.Rows

/-! ### forms of the text -/
def nst : Expr → Bool
  | .Starred _ _ => false
  | _ => true
theorem star_cons {e : Expr} {es : List Expr} {env : Env} (h : nst e = true) : starEach (e :: es) env = (false, eval e env) :: starEach es env := by
  cases e <;> first | rfl | cases h
theorem star_all : ∀ {es : List Expr} {env : Env} {pos : Pos}, es.all nst = true → (backTo pos (starEach es env)).any (·.1) = false
  | [], _, _, _ => rfl
  | e :: es, env, pos, h => by
    simp only [List.all_cons, Bool.and_eq_true] at h
    rw [star_cons h.1]
    exact star_all (es := es) (env := env) (pos := pos) h.2
def nlc : Expr → Bool
  | .ListComp .. => false
  | .SetComp .. => false
  | .DictComp .. => false
  | _ => true
theorem sw_no {e : Expr} {t : Option Expr} {l : Nat} {env : Env} (h : nlc e = true) : swapsWith e t l env = pure false := by
  cases e <;> first | rfl | cases h
def ntr : Expr → Bool
  | .UnaryOp .Not _ _ => false
  | .BoolOp .. => false
  | .IfExp .. => false
  | .Compare .. => false
  | _ => true
theorem tr_no {e : Expr} {env : Env} (h : ntr e = true) : ∀ whole, isTrue e env whole = (do let v ← whole; standAt e.pos; holding [v] (truthy v)) := by
  intro w
  cases e with
  | UnaryOp op x p => cases op <;> first | rfl | cases h
  | BoolOp _ _ _ => cases h
  | IfExp _ _ _ _ => cases h
  | Compare _ _ _ _ => cases h
  | _ => rfl
def nab : Expr → Bool
  | .Call (.Name _ _) [] [] _ => false
  | _ => true
theorem ab_no {e : Expr} {f : Str} {env : Env} {w : Sem Value} (h : nab e = true) : attributeBase e f env w = w := by
  cases e with
  | Call g as ks p =>
    cases as with
    | cons _ _ => cases g <;> rfl
    | nil =>
      cases ks with
      | cons _ _ => cases g <;> rfl
      | nil => cases g <;> first | rfl | cases h
  | _ => rfl
def nse : Expr → Bool
  | .Set .. => false
  | _ => true
theorem se_no {e : Expr} {env : Env} (h : nse e = true) : ∀ x, foldedSetIterable e env x = pure x := by
  intro x
  cases e <;> first | rfl | cases h

/-! ### what is fixed -/
structure Pg where
  P : Program
  /-- names that the module does not bind: the built-in ones -/
  fre : List Str
  T : Tab
  an : List Str
  cn : List Str
  gn : List Str
  fn : List He.DefD
  /-- each def's slots -/
  nn : List (List Str)
  /-- how many arguments each def is called with -/
  cb : List (Nat × Nat)
  cw : List Str
def psOf (d : He.DefD) : List Str := d.params.args.map (·.arg)
/-- a def's call with n written arguments binds -/
def BindQ (d : He.DefD) (n : Nat) : Prop :=
  (d.dfl = [] ∧ ∀ (kV doc pm : Value) (an : Option Addr) (cdv ct : Value) (us : List Value), us.length = (psOf d).length →
    bindArgs (PySem.W.fnOf d.name d.qual d.params d.body d.scope .none kV doc pm an cdv ct) ⟨us, []⟩ = pure ((psOf d).zip us)) ∨
  (d.dfl ≠ [] ∧ ∃ j, n + (d.dfl.length - j) = (psOf d).length ∧ ∀ (T : Addr) (kV doc pm : Value) (an : Option Addr) (cdv ct : Value) (us its : List Value), us.length = n → its.length = d.dfl.length →
    ∃ k, bindArgs (PySem.W.fnOf d.name d.qual d.params d.body d.scope (.ref T) kV doc pm an cdv ct) ⟨us, []⟩ = seqItems? (.ref T) >>= k ∧ k (some its.toArray) = pure ((psOf d).zip (us ++ its.drop j)))
def dvB : He.Dv → W → Bool
  | .non, .non => true
  | .bl b, .bl c => decide (b = c)
  | .int i, .int j => decide (i = j)
  | .str x, .str y => decide (x = y)
  | _, _ => false
def dvsB : List He.Dv → List W → Bool
  | [], [] => true
  | d :: ds, w :: ws => dvB d w && dvsB ds ws
  | _, _ => false
theorem dvB_rl {B : Bs} {G : Rg} {K : PySem.W.Frag} : ∀ {d : He.Dv} {w : W}, dvB d w = true → Rl B G w (d.v K)
  | .non, .non, _ => rfl
  | .bl _, .bl _, h => by cases of_decide_eq_true h; exact rfl
  | .int _, .int _, h => by cases of_decide_eq_true h; exact rfl
  | .str _, .str _, h => by cases of_decide_eq_true h; exact rfl
theorem dvsB_rl {B : Bs} {G : Rg} {K : PySem.W.Frag} : ∀ {ds : List He.Dv} {ws : List W}, dvsB ds ws = true → Rls B G ws (ds.map (He.Dv.v K))
  | [], [], _ => rfl
  | d :: ds, w :: ws, h => by
    simp only [dvsB, Bool.and_eq_true] at h
    exact Rls.cons (dvB_rl h.1) (dvsB_rl h.2)
/-- what stands behind the top -/
structure Fs (p : Pg) (B : Bs) (fd : Nat → FuncData) : Prop where
  hP : B.P = p.P
  hT : B.T = p.T
  han : B.an = p.an
  fre : ∀ x ∈ p.fre, B.mg x = none
  mgF : ∀ (i : Nat) (d : He.DefD), p.fn[i]? = some d → d.at_.2 = none → B.mg d.at_.1 = some (.ref (B.fa i))
  fun_ : ∀ (i : Nat) (d : He.DefD), p.fn[i]? = some d → FunD B.K d.name d.qual d.params d.body d.scope (d.dvs B.K) (d.kws B.K) (B.fa i) (fd i)
  bnd : ∀ q ∈ p.cb, ∀ d, p.fn[q.1]? = some d → BindQ d q.2
  glo : ∀ (i : Nat) (x : Str) (w : W), p.gn[i]? = some x → p.T.glo[i]? = some w → ∃ u v, B.mg x = some u ∧ RelV v u ∧ ∀ G : Rg, Rl B G w v
/-- the defaults of def i are those of the interpreter's -/
def dflOk (d : He.DefD) (f : Fn) : Bool := decide (f.np = (psOf d).length) && (d.kwd.isEmpty && (decide (d.dfl.length ≤ f.np) && dvsB d.dfl f.dfl))

/-- a static context: the names' slots, the scope, the names whose cells are made here -/
structure Sc where
  N : List Str
  sc : Scope
  fc : Str → Bool
def Sc.vis (g : Sc) (i : Nat) (x : Str) : Bool := decide (g.N[i]? = some x) && (decide (g.sc.names.lookup x = some .local) || decide (g.sc.names.lookup x = some .cell) || decide (g.sc.names.lookup x = some .free)) && !(x == ("__debug__" : Str)) && !(x == ("__classdict__" : Str))
def Sc.loc (g : Sc) (i : Nat) (x : Str) : Bool := decide (g.N[i]? = some x) && (decide (g.sc.names.lookup x = some .local) || (decide (g.sc.names.lookup x = some .cell) && g.fc x))
def Sc.gl (g : Sc) (x : Str) : Bool := decide (g.sc.names.lookup x = some .globalImplicit) && !(x == ("__debug__" : Str)) && !(x == ("__name__" : Str))

/-- a context of the walk, at depth d -/
structure Gd (B : Bs) (d : Nat) (g : Sc) (X : Cx) : Prop where
  prog : X.prog = B.P
  w : X.w = B.w
  K : X.K = B.K
  mg : X.mg = B.mg
  base : X.base = B.base
  N : X.N = g.N
  sc : X.env.scope = g.sc
  nd : g.N.Nodup
  rm : Room (2 * d) X.A
  gu : X.A.guards = some []
  calm : X.calm = true
  fc : ∀ x, g.fc x = true → X.fn x = true
section
variable {B : Bs} {d : Nat} {g : Sc} {X : Cx} {i : Nat} {x : Str}
theorem Gd.vis (h : Gd B d g X) (q : g.vis i x = true) : X.N[i]? = some x ∧ Vis X.env.scope x ∧ (x == ("__debug__" : Str)) = false ∧ (x == ("__classdict__" : Str)) = false := by
  simp only [Sc.vis, Bool.and_eq_true, Bool.or_eq_true, decide_eq_true_eq, Bool.not_eq_true'] at q
  obtain ⟨⟨⟨q1, q2⟩, q3⟩, q4⟩ := q
  refine ⟨by rw [h.N]; exact q1, ?_, q3, q4⟩
  rw [h.sc]
  rcases q2 with (q2 | q2) | q2
  · exact .inl q2
  · exact .inr (.inl q2)
  · exact .inr (.inr q2)
theorem Gd.loc (h : Gd B d g X) (q : g.loc i x = true) : X.N[i]? = some x ∧ Loc X.env.scope x ∧ (X.fn x = true ∨ X.env.scope.names.lookup x = some .local) := by
  simp only [Sc.loc, Bool.and_eq_true, Bool.or_eq_true, decide_eq_true_eq] at q
  obtain ⟨q1, q2⟩ := q
  refine ⟨by rw [h.N]; exact q1, ?_, ?_⟩
  · rw [h.sc]
    rcases q2 with q2 | ⟨q2, _⟩
    · exact .inl q2
    · exact .inr q2
  · rw [h.sc]
    rcases q2 with q2 | ⟨_, q2⟩
    · exact .inr q2
    · exact .inl (h.fc x q2)
theorem Gd.gl (h : Gd B d g X) (q : g.gl x = true) : Gl X x ∧ (x == ("__debug__" : Str)) = false ∧ x ≠ "__name__" := by
  simp only [Sc.gl, Bool.and_eq_true, decide_eq_true_eq, Bool.not_eq_true', beq_eq_false_iff_ne] at q
  obtain ⟨⟨q1, q2⟩, q3⟩ := q
  refine ⟨?_, by rw [beq_eq_false_iff_ne]; exact q2, q3⟩
  show X.env.scope.names.lookup x = _
  rw [h.sc]; exact q1
end
end Ip
/-! Ip12: calls. -/
namespace Ip
open PySem L2 PySem.Spec PyProof.Rows
/-- the context of a def's body -/
abbrev bcx (B : Bs) (N : List Str) (D : He.DefD) (f : Addr) (cd : Value) (A : Around) (outer : List Env) (s : Shared) (H : Hp) (E : XK) : Cx :=
  cxOf (L2.CX B.P B.w) B.P B.w B.K B.mg B.base N D.qual D.scope f cd A outer s H E
theorem run_body {B : Bs} {D : He.DefD} {f : Addr} {fd : FuncData} {k : Nat} {N ps : List Str} {dvs : List V} {kws : List (Str × V)} (F : FunD B.K D.name D.qual D.params D.body D.scope dvs kws f fd) (S : FnScope N ps D.scope)
    {A : Around} {outer : List Env} {s : Shared} {H : Hp} {args : Args} {us : List Value} {vs : List V} {Q : VK} {E : XK} (hr : Room (k + 1) A) (hg : A.guards = some []) (e0 : Env0 B.P B.w B.K B.mg B.base A outer s H)
    (hb : BindsTo s fd args (ps.zip us)) (r : Vals vs us) (hl : vs.length = ps.length)
    (body : ∀ cd : Value, Room k (bcx B N D f cd A outer s H E).A → (bcx B N D f cd A outer s H E).A.guards = some [] →
      ∃ t, PSs (bcx B N D f cd A outer s H E) D.body t ∧ t { nx := fun _ H' => Q .non H', rt := Q } (start N vs) H) :
    codeAny (model B.P B.w) A (.call (.ref f) args) (CR (L2.CX B.P B.w) outer B.P B.w H s Q E) s := by
  obtain ⟨oc, od, dV, kV, doc, pm, an, cdv, ct, osl, e1, lk, hcd, h1, h2⟩ := F.ex
  clear h1 h2
  subst e1
  have KX : B.K.In s.heap := e0.mod.kin.keeps (fun b o q => (e0.bs b o q).1)
  have lim : s.heap.NoLimit := e0.mod.nolimit.keeps (fun b o q => (e0.bs b o q).1)
  have hkind : ∀ y ∈ ps.zip us, D.scope.names.lookup y.1 = some .local ∨ (D.scope.names.lookup y.1 = some .cell ∧ ((cellsFrom (s.heap.objs.size + 1) D.scope.names []).lookup y.1).isSome = true) := by
    rintro ⟨n, v⟩ hy
    exact (S.par n (List.of_mem_zip hy).1).imp id fun q => ⟨q, PySem.W.cellsFrom_some _ _ _ (.inl q)⟩
  refine codeAny_call_function hr.depth (KX _ _ lk) rfl S.co S.gen rfl (PySem.W.codeRec_of KX hcd) (hb _ _ _ _ (wpAny_newFunctionEnv_cells S.kind hkind ?_))
  intro env he s1 x
  cases he
  refine ⟨lim.keeps x.toInCall.keep, codeAny_func ?_⟩
  obtain ⟨t, ht, hq⟩ := body cdv (hr.deeper _) hg
  have I := inv_start (CX := L2.CX B.P B.w) (P := B.P) (w := B.w) (E := E) S hr.hd e0 hl r x
  have fin : ∀ {σ' : L2.St} {H' : Hp} {v : V} {u : Value} {s' : Shared}, Inv (bcx B N D f cdv A outer s H E) [] σ' H' s' → RelV v u → Q v H' → CE outer B.P B.w H s Q u s' :=
    fun J rv q => ⟨_, _, J.os, J.bare, J.base, J.hok, rv, q⟩
  refine wpAny_mono (ht.run [] s1 (start N vs) H _ I hq) ?_ (fun e s' hs => hs)
  intro fl s' hs
  match fl, hs with
  | .ret u, ⟨v, σ', H', J, rv, q⟩ => exact fin J rv q
  | .next, ⟨σ', H', J, q⟩ => exact fin (v := V.non) (u := Value.none) J rfl q
  | .brk, ⟨_, _, _, q⟩ => exact q.elim
  | .cont, ⟨_, _, _, q⟩ => exact q.elim

/-- what the defs do, called in a context with room for k -/
def CallOk (B : Bs) (p : Pg) (fd : Nat → FuncData) (k : Nat) (bf : Fn → List W → M W) : Prop :=
  ∀ (i : Nat) (D : He.DefD) (fs : Fn) (A : Around) (outer : List Env) (s : Shared) (H : Hp) (args : Args) (us : List Value) (vs : List V) (Q : VK) (E : XK) (G : Rg) (ws : List W) (st : Sto) (r : En) (σ : L2.St),
    p.fn[i]? = some D → B.T.fns[i]? = some fs → Room k A → A.guards = some [] → Env0 B.P B.w B.K B.mg B.base A outer s H → BindsTo s (fd i) args ((psOf D).zip us) → Vals vs us → ws.length = (psOf D).length → StR B G st H → Rls B G ws vs →
    Aft B (fun c d _ H => E c d H) (rV B) G H r σ (bf fs ws st) Q → codeAny (model B.P B.w) A (.call (.ref (B.fa i)) args) (CR (L2.CX B.P B.w) outer B.P B.w H s Q E) s
/-- what a call of def i with the values us does in X -/
def RunOk (B : Bs) (W' : WX) (X : Cx) (cf : CF) (i n : Nat) : Prop :=
  ∀ (pins : List (Addr × Obj)) (s : Shared) (σ : L2.St) (H : Hp) (us : List Value) (vs : List V) (Q : VK) (G : Rg) (r : En) (ws : List W) (st : Sto), Inv X pins σ H s → Vals vs us → vs.length = n → StR B G st H → EnR B G r σ → Rls B G ws vs →
    Aft B W' (rV B) G H r σ (cf i ws st) Q → wpAny (model X.prog X.w) X.A (call (.ref (B.fa i)) us) (EP X pins σ Q) X.xe s
/-- the functions that the defs' numbers stand for, one call deep -/
def cfOf (T : Tab) (bf : Fn → List W → M W) : CF := fun f as => match T.fns[f]? with
  | none => M.bad
  | some fn => match fn.fill as with
    | none => M.bad
    | some ws => bf fn ws
theorem runF_eq (T : Tab) (d : Nat) : runF T (d + 1) = cfOf T (fun fn ws => runB T (runF T d) fn ws) := rfl
section
variable {p : Pg} {B : Bs} {fd : Nat → FuncData} {d : Nat} {g : Sc} {X : Cx} {W' : WX} {bf : Fn → List W → M W}
theorem Rls.drop_eq {G : Rg} {ws : List W} {vs : List V} (h : Rls B G ws vs) (n : Nat) : Rls B G (ws.drop n) (vs.drop n) := Rls.drop n h
/-- the arguments of a call, filled up -/
theorem fill_at {D : He.DefD} {fs : Fn} {i n : Nat} {ws as : List W} {vs : List V} {us : List Value} {G : Rg} {s : Shared} (Fp : Fs p B fd) (hD : p.fn[i]? = some D) (hd : dflOk D fs = true) (hb : (i, n) ∈ p.cb) (hn : vs.length = n)
    (hf : fs.fill as = some ws) (ra : Rls B G as vs) (r : Vals vs us) (KX : B.K.In s.heap) :
    ∃ vs2 us2, Rls B G ws vs2 ∧ Vals vs2 us2 ∧ ws.length = (psOf D).length ∧ BindsTo s (fd i) ⟨us, []⟩ ((psOf D).zip us2) := by
  simp only [dflOk, Bool.and_eq_true, decide_eq_true_eq] at hd
  obtain ⟨h1, h2, h3, h4⟩ := hd
  have F := Fp.fun_ i D hD
  have hl := ra.len
  unfold Fn.fill at hf
  obtain ⟨⟨c1, c2⟩, hw⟩ := ite_some hf
  have hds : D.dfl.length = fs.dfl.length := by
    have e := (dvsB_rl (B := B) (G := G) (K := B.K) h4).len
    rw [List.length_map] at e
    exact e.symm
  have hlw : ws.length = (psOf D).length := by
    rw [← hw, ← h1, List.length_append, List.length_drop]
    omega
  rcases Fp.bnd (i, n) hb D hD with ⟨e, q⟩ | ⟨e, j, e2, q⟩
  · -- no defaults
    have e0 : fs.dfl = [] := List.length_eq_zero_iff.mp (by rw [← hds, e]; rfl)
    rw [e0, List.drop_nil, List.append_nil] at hw
    subst hw
    have F' : FunD B.K D.name D.qual D.params D.body D.scope [] (D.kws B.K) (B.fa i) (fd i) := by
      have e3 : D.dvs B.K = [] := by unfold He.DefD.dvs; rw [e]; rfl
      rw [← e3]; exact F
    have hb2 := FunD.bindsN (ps := psOf D) F' q
    refine ⟨vs, us, ra, r, hlw, ?_⟩
    have b2 := hb2 s us KX (by rw [List.append_nil, ← r.length, ← hl]; exact hlw)
    rw [List.append_nil] at b2
    exact b2
  · obtain ⟨ds, rd, hb2⟩ := FunD.binds1 (ps := psOf D) F n j (by
      intro z
      apply e
      have := congrArg List.length z
      rw [show D.dvs B.K = D.dfl.map (He.Dv.v B.K) from rfl, List.length_map] at this
      exact List.length_eq_zero_iff.mp this) (by rw [show D.dvs B.K = D.dfl.map (He.Dv.v B.K) from rfl, List.length_map]; exact e2)
      (fun T kV doc pm an cdv ct us' its l1 l2 => q T kV doc pm an cdv ct us' its l1 (by rw [l2, show D.dvs B.K = D.dfl.map (He.Dv.v B.K) from rfl, List.length_map]))
    have hn' : n ≤ (psOf D).length := by omega
    have rw1 : Rls B G ws (vs ++ (D.dvs B.K).drop j) := by
      rw [← hw]
      refine Rls.app ra ?_
      have r2 := Rls.drop (fs.dfl.length - (fs.np - as.length)) (dvsB_rl (B := B) (G := G) (K := B.K) h4)
      have hj : (fs.dfl.drop (fs.dfl.length - (fs.np - as.length))).length = (D.dfl.drop j).length := by
        rw [List.length_drop, List.length_drop]
        omega
      have : fs.dfl.length - (fs.np - as.length) = j ∨ ((D.dfl.map (He.Dv.v B.K)).drop (fs.dfl.length - (fs.np - as.length)) = [] ∧ (D.dfl.map (He.Dv.v B.K)).drop j = []) := by
        rw [List.length_drop, List.length_drop] at hj
        by_cases z : fs.dfl.length - (fs.np - as.length) = j
        · exact .inl z
        · right
          constructor <;> (apply List.drop_eq_nil_of_le; rw [List.length_map]; omega)
      rcases this with z | ⟨z1, z2⟩
      · rw [z] at r2 ⊢
        exact r2
      · rw [z1] at r2
        rw [show (D.dvs B.K).drop j = [] from z2]
        exact r2
    refine ⟨_, us ++ ds, rw1, r.append rd, hlw, ?_⟩
    exact hb2 s us KX (by rw [List.length_append, ← r.length, ← rd.length, ← List.length_append, ← rw1.len]; exact hlw)
theorem run_of (Fp : Fs p B fd) {k : Nat} (C : CallOk B p fd k bf) (h : Gd B d g X) (hk : k ≤ 2 * d) (tk : L2.Takes X W') {i n : Nat} {D : He.DefD} {fs : Fn} (hD : p.fn[i]? = some D) (hfs : B.T.fns[i]? = some fs) (hd : dflOk D fs = true) (hb : (i, n) ∈ p.cb) :
    RunOk B W' X (cfOf B.T bf) i n := by
  intro pins s σ H us vs Q G r ws st I rv hn sr er ra hq
  unfold cfOf at hq
  rw [hfs] at hq
  cases hf : fs.fill ws with
  | none => simp only [hf] at hq; exact hq.elim
  | some ws2 =>
    simp only [hf] at hq
    obtain ⟨vs2, us2, r2, rv2, hl, hbd⟩ := fill_at (s := s) Fp hD hd hb hn hf ra rv (by rw [← h.K]; exact I.kIn)
    have e0 : Env0 B.P B.w B.K B.mg B.base X.A X.stack s H := by
      have e := I.env0
      rw [h.prog, h.w, h.K, h.mg, h.base] at e
      exact e
    have run := C i D fs X.A X.stack s H ⟨us, []⟩ us2 vs2 Q (fun c d H' => W' c d σ H') G ws2 st r σ hD hfs (h.rm.mono hk) h.gu e0 hbd rv2 hl sr r2 hq
    rw [← h.prog, ← h.w] at run
    refine wpAny_call (codeAny_mono run ?_)
    intro rr s' hr
    match rr, hr with
    | .error e, hr => exact passAt tk σ pins H s e s' I hr
    | .ok (.ret u), hr => exact I.after hr
    | .ok .next, hr => exact hr.elim
    | .ok .brk, hr => exact hr.elim
    | .ok .cont, hr => exact hr.elim
/-- what is left to do behind the arguments -/
theorem args_of {cf : CF} {i n : Nat} {es : List Expr} {ms : En → M (List W)} {pos : Pos} {pins : List (Addr × Obj)} {s : Shared} {σ : L2.St} {H : Hp} {G : Rg} {r : En} {st : Sto} {Q : VK} {f : List W → M W} {P' : List Value → Shared → Prop} (I : Inv X pins σ H s)
    (ha : PA X es (tAr B W' ms)) (sr : StR B G st H) (er : EnR B G r σ) (hn : ∀ r st ws st1, ms r st = .ok ws st1 → ws.length = n) (hw : Aft B W' (rV B) G H r σ ((ms r).bnd f st) Q)
    (k : ∀ us s1 vs H1 G1 ws st1, Inv X pins σ H1 s1 → Vals vs us → vs.length = n → Lt G H G1 H1 → StR B G1 st1 H1 → EnR B G1 r σ → Rls B G1 ws vs → Aft B W' (rV B) G1 H1 r σ (f ws st1) Q → P' us s1) :
    wpAny (model X.prog X.w) X.A (spliced (backTo pos (starEach es X.env))) P' X.xe s := by
  refine thn (ha.run pos pins s σ H (fun vs H1 => vs.length = n ∧ ∃ G1 ws st1, Lt G H G1 H1 ∧ StR B G1 st1 H1 ∧ EnR B G1 r σ ∧ Rls B G1 ws vs ∧ Aft B W' (rV B) G1 H1 r σ (f ws st1) Q) I
      ⟨G, r, st, sr, er, Aft.bndE hw fun vs G1 H1 ws st1 em l1 s1 q1 h1 => ⟨by rw [← q1.len]; exact hn r st ws st1 em, G1, ws, st1, l1, s1, er.lt l1, q1, h1⟩⟩) ?_
  rintro us s1 ⟨vs, H1, I1, rv, hl, G1, ws, st1, l1, s1', e1, r1, q1⟩
  exact k us s1 vs H1 G1 ws st1 I1 rv hl l1 s1' e1 r1 q1
/-- f(e, ..) -/
theorem pe_cl {cf : CF} (h : Gd B d g X) {i n : Nat} (R : RunOk B W' X cf i n) {x : Str} {e : Expr} {es : List Expr} {pp pos : Pos} {ms : En → M (List W)} (hg : g.gl x = true) (hm : X.mg x = some (.ref (B.fa i))) (hk : PySem.W.keepIn X.K (.ref (B.fa i)) = true)
    (ha : PA X (e :: es) (tAr B W' ms)) (hs : (e :: es).all nst = true) (hn : ∀ r st ws st1, ms r st = .ok ws st1 → ws.length = n) : PE X (.Call (.Name x pp) (e :: es) [] pos) (tE B W' fun r => (ms r).bnd fun xs => cf i xs) := by
  obtain ⟨g1, g2, _⟩ := h.gl hg
  refine ⟨fun pins s σ H Q I ⟨G, r, st, sr, er, hw⟩ => ?_⟩
  simp only [List.all_cons, Bool.and_eq_true] at hs
  refine wpAny_Call_Name_kw (ld_glob I g1 hm (PySem.W.callWith_K (h₀ := X.base) I.ok.mod.kin hk ?_ (star_cons hs.1) (star_all hs.2)) g2)
  exact args_of (cf := cf) (i := i) I ha sr er hn hw fun us s1 vs H1 G1 ws st1 I1 rv hl l1 s1' e1 r1 q1 => ⟨I1.kIn, R pins s1 σ H1 us vs Q G1 r ws st1 I1 rv hl s1' e1 r1 q1⟩
theorem pe_cl0 {cf : CF} (h : Gd B d g X) {i : Nat} (R : RunOk B W' X cf i 0) {x : Str} {pp pos : Pos} (hg : g.gl x = true) (hm : X.mg x = some (.ref (B.fa i))) (hk : PySem.W.keepIn X.K (.ref (B.fa i)) = true) :
    PE X (.Call (.Name x pp) [] [] pos) (tE B W' fun _ => cf i []) := by
  obtain ⟨g1, g2, _⟩ := h.gl hg
  refine ⟨fun pins s σ H Q I ⟨G, r, st, sr, er, hw⟩ => ?_⟩
  exact wpAny_Call_Name_kw (ld_glob I g1 hm (PySem.W.callWith_K0 I.kIn hk (R pins s σ H [] [] Q G r [] st I .nil rfl sr er Rls.nil hw)) g2)
end
end Ip
/-! Ip13: expressions, one rule a form. -/
namespace Ip
open PySem L2 PySem.Spec PyProof.Rows
section
variable {B : Bs} {W' : WX} {σ : L2.St} {H : Hp} {Q : VK} {X : Cx} {d : Nat} {g : Sc} {pos : Pos} {x y z : Expr} {ma mb mc : En → M W}
theorem x_var (h : Gd B d g X) {i : Nat} {n : Str} (q : g.vis i n = true) : PE X (.Name n pos) (tE B W' fun r => getV r i) := by
  obtain ⟨q1, q2, q3, q4⟩ := h.vis q
  refine wkE (pe_var q1 q2 q3 q4) fun σ H Q ⟨G, r, st, sr, er, hw⟩ => ?_
  obtain ⟨w, hw', h2⟩ := Aft.opt hw
  obtain ⟨o, e1, e2⟩ := bind_some hw'
  have e3 : o = some w := e2
  subst e3
  obtain ⟨v, ev, rv⟩ := er.2 i w e1
  exact ⟨v, ev, h2.now sr rv⟩
def cstB (w : W) (c : Const) : Bool := match w, c with
  | .non, .none => true
  | .bl a, .bool b => decide (a = b)
  | .int i, .int j => decide (i = j)
  | .str s, .str t => decide (s = t)
  | _, _ => false
theorem x_cst {w : W} {c : Const} {k : Nat} (q : cstB w c = true) : PE X (.Constant c k pos) (tE B W' fun _ => M.ret w) := by
  have fin : ∀ {v : V}, (∀ G : Rg, Rl B G w v) → ∀ σ H (Q : VK), tE B W' (fun _ => M.ret w) σ H Q → tC v σ H Q := fun hv σ H Q ⟨G, r, st, sr, er, hw⟩ => Aft.now (rel := rV B) hw sr (hv G)
  cases w <;> cases c <;> first | cases q | skip
  · exact wkE pe_non (fin fun _ => rfl)
  · cases of_decide_eq_true (show decide _ = true from q); exact wkE pe_bl (fin fun _ => rfl)
  · cases of_decide_eq_true (show decide _ = true from q); exact wkE pe_int (fin fun _ => rfl)
  · cases of_decide_eq_true (show decide _ = true from q); exact wkE pe_str (fin fun _ => rfl)
theorem x_glo {p : Pg} {fd : Nat → FuncData} (Fp : Fs p B fd) (h : Gd B d g X) {i : Nat} {n : Str} (q : g.gl n = true) (e : p.gn[i]? = some n) : PE X (.Name n pos) (tE B W' fun _ => M.opt (B.T.glo[i]?)) := by
  obtain ⟨g1, g2, _⟩ := h.gl q
  refine ⟨fun pins s σ H Q I ⟨G, r, st, sr, er, hw⟩ => ?_⟩
  obtain ⟨w, hw', h2⟩ := Aft.opt hw
  obtain ⟨u, v, e1, e2, e3⟩ := Fp.glo i n w e (by rw [← Fp.hT]; exact hw')
  exact ld_glob I g1 (by rw [h.mg]; exact e1) ⟨v, H, I, e2, h2.now sr (e3 G)⟩ g2
theorem x_bin (h : Gd B d g X) {o : Bop} {op : Operator} (ho : bopOk o op = true) (ha : PE X x (tE B W' ma)) (hb : PE X y (tE B W' mb)) :
    PE X (.BinOp x op y pos) (tE B W' fun r => (ma r).bnd fun x => (mb r).bnd fun y => M.look (bop o x y)) := wkE (pe_op (or_bop h.K ho) ha hb) fun _ _ _ => op_of
theorem x_neg (ha : PE X x (tE B W' ma)) : PE X (.UnaryOp .USub x pos) (tE B W' fun r => (ma r).bnd fun x => M.opt (x.int?.map fun i => .int (-i))) := by
  refine wkE (pe_un un_neg ha) fun σ H Q ⟨G, r, st, sr, er, hw⟩ => ⟨G, r, st, sr, er, Aft.bnd hw fun v G1 H1 w st1 l1 s1 q1 h1 => ?_⟩
  obtain ⟨k, hk, h2⟩ := Aft.opt h1
  obtain ⟨i, hi, rfl⟩ := map_some hk
  have hw : w = .int i := by cases w <;> cases hi <;> rfl
  subst hw
  exact ⟨i, q1, h2.now s1 rfl⟩
/-- a value's truth behind it -/
theorem tru_of (h : Gd B d g X) {f : W → Bool → M W} {r : En} {G : Rg} {st : Sto} {w : W} {v : V} {R : Bool → Hp → Prop} (sr : StR B G st H) (rv : Rl B G w v) (hw : Aft B W' (rV B) G H r σ (((M.truth w).bnd fun k => f w k) st) Q)
    (k : ∀ b, TruV X.K v H b → Aft B W' (rV B) G H r σ (f w b st) Q → R b H) : ∃ b, TruV X.K v H b ∧ R b H := by
  obtain ⟨b, hb, h2⟩ := Aft.lookB hw
  have t := tru_at sr rv hb
  rw [← h.K] at t
  exact ⟨b, t, k b t h2⟩
theorem x_not (h : Gd B d g X) (ha : PE X x (tE B W' ma)) : PE X (.UnaryOp .Not x pos) (tE B W' fun r => (ma r).bnd fun x => (M.truth x).bnd fun b => M.ret (.bl (!b))) := by
  refine wkE (pe_notT ha) fun σ H Q ⟨G, r, st, sr, er, hw⟩ => ⟨G, r, st, sr, er, Aft.bnd hw fun v G1 H1 w st1 l1 s1 q1 h1 => ?_⟩
  exact tru_of h (f := fun _ b => M.ret (.bl (!b))) s1 q1 h1 fun b t h2 => Aft.now (rel := rV B) h2 s1 rfl
theorem x_and (h : Gd B d g X) {rest : List Expr} (ha : PE X x (tE B W' ma)) (hb : PE X (.BoolOp .And (y :: rest) pos) (tE B W' mb)) :
    PE X (.BoolOp .And (x :: y :: rest) pos) (tE B W' fun r => (ma r).bnd fun x => (M.truth x).bnd fun k => if k then mb r else M.ret x) := by
  refine wkE (pe_andT ha hb) fun σ H Q ⟨G, r, st, sr, er, hw⟩ => ⟨G, r, st, sr, er, Aft.bnd hw fun v G1 H1 w st1 l1 s1 q1 h1 => ?_⟩
  refine tru_of h (f := fun w k => if k then mb r else M.ret w) (R := fun k H1 => if k = true then tE B W' mb σ H1 Q else Q v H1) s1 q1 h1 fun b t h2 => ?_
  cases b with
  | true => rw [if_pos rfl] at h2 ⊢; exact ⟨G1, r, st1, s1, er.lt l1, h2⟩
  | false => rw [if_neg Bool.false_ne_true] at h2 ⊢; exact Aft.now (rel := rV B) h2 s1 q1
theorem x_or (h : Gd B d g X) {rest : List Expr} (ha : PE X x (tE B W' ma)) (hb : PE X (.BoolOp .Or (y :: rest) pos) (tE B W' mb)) :
    PE X (.BoolOp .Or (x :: y :: rest) pos) (tE B W' fun r => (ma r).bnd fun x => (M.truth x).bnd fun k => if k then M.ret x else mb r) := by
  refine wkE (pe_orT ha hb) fun σ H Q ⟨G, r, st, sr, er, hw⟩ => ⟨G, r, st, sr, er, Aft.bnd hw fun v G1 H1 w st1 l1 s1 q1 h1 => ?_⟩
  refine tru_of h (f := fun w k => if k then M.ret w else mb r) (R := fun k H1 => if k = true then Q v H1 else tE B W' mb σ H1 Q) s1 q1 h1 fun b t h2 => ?_
  cases b with
  | true => rw [if_pos rfl] at h2 ⊢; exact Aft.now (rel := rV B) h2 s1 q1
  | false => rw [if_neg Bool.false_ne_true] at h2 ⊢; exact ⟨G1, r, st1, s1, er.lt l1, h2⟩
theorem x_ite {mt : En → M Bool} (ht : PT X z (tT B W' mt)) (ha : PE X x (tE B W' ma)) (hb : PE X y (tE B W' mb)) : PE X (.IfExp z x y pos) (tE B W' fun r => (mt r).bnd fun k => if k then ma r else mb r) := by
  refine wkE (pe_ifExp ht ha hb) fun σ H Q ⟨G, r, st, sr, er, hw⟩ => ⟨G, r, st, sr, er, Aft.bnd hw fun b G1 H1 k st1 l1 s1 q1 h1 => ?_⟩
  have q1' : k = b := q1
  subst q1'
  cases k with
  | true => rw [if_pos rfl] at h1 ⊢; exact ⟨G1, r, st1, s1, er.lt l1, h1⟩
  | false => rw [if_neg Bool.false_ne_true] at h1 ⊢; exact ⟨G1, r, st1, s1, er.lt l1, h1⟩
theorem x_cmp (h : Gd B d g X) {o : Cop} {op : CmpOp} (ho : copOk o op = true) (hm : behindInMarks op y = false) (ha : PE X x (tE B W' ma)) (hb : PE X y (tE B W' mb)) :
    PE X (.Compare x [op] [y] pos) (tE B W' fun r => (ma r).bnd fun x => (mb r).bnd fun y => M.look (cop o x y)) := wkE (pe_cmpR (or_cop h.K (h.rm.units) ho) ha hb hm) fun _ _ _ => op_of
theorem x_chn (h : Gd B d g X) {o o' : Cop} {op op' : CmpOp} (ho : copOk o op = true) (ho' : copOk o' op' = true) (hm : lastMarks [op, op'] [y, z] = false) (ha : PE X x (tE B W' ma)) (hb : PE X y (tE B W' mb)) (hc : PE X z (tE B W' mc)) :
    PE X (.Compare x [op, op'] [y, z] pos) (tE B W' fun r => (ma r).bnd fun x => (mb r).bnd fun y => (M.look (cop o x y)).bnd fun k => (M.opt k.bl?).bnd fun k => if k then (mc r).bnd fun z => M.look (cop o' y z) else M.ret (.bl false)) := by
  refine wkE (pe_chain (or_cop h.K h.rm.units ho) (or_cop h.K h.rm.units ho') ha hb hc hm) fun σ H Q ⟨G, r, st, sr, er, hw⟩ => ⟨G, r, st, sr, er, Aft.bnd hw fun v G1 H1 w st1 l1 s1 q1 h1 => ?_⟩
  refine ⟨G1, r, st1, s1, er.lt l1, Aft.bnd h1 fun u G2 H2 w2 st2 l2 s2 q2 h2 => ?_⟩
  obtain ⟨k, hk, h3⟩ := Aft.lookB h2
  obtain ⟨b, hb', h4⟩ := Aft.optB h3
  have hk' : k = .bl b := by cases k <;> cases hb' <;> rfl
  subst hk'
  refine ⟨G2, st2, w, w2, _, s2, q1.lt l2, q2, hk, fun z' G3 H3 l3 s3 q3 => ⟨b, q3, ?_⟩⟩
  have h5 := Aft.re l3 h4
  cases b with
  | true =>
    rw [if_pos rfl] at h5 ⊢
    refine ⟨G3, r, st2, s3, ((er.lt l1).lt l2).lt l3, Aft.bnd h5 fun v3 G4 H4 w3 st4 l4 s4 q4 h6 => ?_⟩
    obtain ⟨w5, e5, h7⟩ := Aft.look h6
    exact ⟨G4, st4, w2, w3, w5, s4, (q2.lt l3).lt l4, q4, e5, fun z2 G' H' l' s' q' => h7 z2 G' H' l' s' q'⟩
  | false =>
    rw [if_neg Bool.false_ne_true] at h5 ⊢
    exact Aft.now (rel := rV B) h5 s3 rfl
theorem ix_plain {b : Expr} (h : (match b with | .Slice _ _ _ _ => false | .Tuple _ _ _ => false | _ => true) = true) : PlainIx b := by
  intro o i
  cases b <;> first | rfl | cases h
def nsl : Expr → Bool
  | .Slice _ _ _ _ => false
  | .Tuple _ _ _ => false
  | _ => true
theorem x_idx (h : Gd B d g X) (hs : nsl y = true) (ha : PE X x (tE B W' ma)) (hb : PE X y (tE B W' mb)) : PE X (.Subscript x y pos) (tE B W' fun r => (ma r).bnd fun x => (mb r).bnd fun y => M.look (idxW x y)) :=
  wkE (pe_ix (ix_of h.K) ha hb (ix_plain (by cases y <;> first | rfl | exact hs))) fun _ _ _ => op_of
/-- a slice's bound -/
def tOf (B : Bs) (W' : WX) (m : En → M (Option Int)) : TO := tM B W' (fun _ _ a b => a = b) m
theorem x_pn {lo : Ex} {m : En → M W} (e : lo = .omit) (hm : ∀ r, m r = M.ret .non) : PO X none (tOf B W' fun r => (m r).bnd fun w => M.opt (prt lo w)) := by
  subst e
  refine ⟨fun pins s σ H Q I ⟨G, r, st, sr, er, hw⟩ => po_none.run pins s σ H Q I ?_⟩
  have hw' : Aft B W' (fun _ _ a b => a = b) G H r σ ((m r).bnd (fun w => M.opt (prt Ex.omit w)) st) Q := hw
  rw [hm] at hw'
  exact Aft.now (rel := fun _ _ a b => a = b) hw' sr rfl
theorem x_ps {lo : Ex} (e : (match lo with | .omit => false | _ => true) = true) (ha : PE X x (tE B W' ma)) : PO X (some x) (tOf B W' fun r => (ma r).bnd fun w => M.opt (prt lo w)) := by
  refine ⟨fun pins s σ H Q I ⟨G, r, st, sr, er, hw⟩ => (po_some ha).run pins s σ H Q I ⟨G, r, st, sr, er, Aft.bnd hw fun v G1 H1 w st1 l1 s1 q1 h1 => ?_⟩⟩
  obtain ⟨o, ho, h2⟩ := Aft.opt h1
  have ho' : w.int?.map some = some o := by cases lo <;> first | exact ho | cases e
  obtain ⟨i, hi, rfl⟩ := map_some ho'
  have hw' : w = .int i := by cases w <;> cases hi <;> rfl
  subst hw'
  exact ⟨i, q1, h2.now s1 rfl⟩
theorem x_sl (h : Gd B d g X) {lo hi : Option Expr} {ml mh : En → M (Option Int)} {p2 : Pos} (ha : PE X x (tE B W' ma)) (hl : PO X lo (tOf B W' ml)) (hh : PO X hi (tOf B W' mh)) :
    PE X (.Subscript x (.Slice lo hi none p2) pos) (tE B W' fun r => (ma r).bnd fun x => (ml r).bnd fun l => (mh r).bnd fun h => M.look (slW x l h)) := by
  refine wkE (pe_slice (sl_of h.K) ha hl hh) fun σ H Q ⟨G, r, st, sr, er, hw⟩ => ⟨G, r, st, sr, er, Aft.bnd hw fun v G1 H1 w st1 l1 s1 q1 h1 => ?_⟩
  refine ⟨G1, r, st1, s1, er.lt l1, Aft.bnd h1 fun lo' G2 H2 lo2 st2 l2 s2 q2 h2 => ?_⟩
  refine ⟨G2, r, st2, s2, (er.lt l1).lt l2, Aft.bnd h2 fun hi' G3 H3 hi2 st3 l3 s3 q3 h3 => ?_⟩
  have q2' : lo2 = lo' := q2
  have q3' : hi2 = hi' := q3
  subst q2' q3'
  obtain ⟨w5, e5, h7⟩ := Aft.look h3
  exact ⟨G3, st3, w, w5, s3, (q1.lt l2).lt l3, e5, fun z2 G' H' l' s' q' => h7 z2 G' H' l' s' q'⟩
theorem x_tup {es : List Expr} {k : Nat} {ms : En → M (List W)} (ha : PA X es (tAr B W' ms)) : PE X (.Tuple es k pos) (tE B W' fun r => (ms r).bnd fun xs => M.look fun _ => if xs.length ≤ sizeLine then some (.tup xs) else none) := by
  refine wkE (pe_tup ha) fun σ H Q ⟨G, r, st, sr, er, hw⟩ => ⟨G, r, st, sr, er, Aft.bnd hw fun vs G1 H1 ws st1 l1 s1 q1 h1 => ?_⟩
  obtain ⟨w, hw', h2⟩ := Aft.look h1
  obtain ⟨hz, rfl⟩ := ite_some hw'
  refine ⟨by rw [← q1.len]; exact hz, fun p hp => ?_⟩
  obtain ⟨G', l', s', q'⟩ := newTup s1 q1 hp
  exact h2 _ _ _ l' s' q'

/-! ### argument lists -/
theorem x_nil : PA X [] (tAr B W' fun _ => M.ret []) := wkA pa_nil fun σ H Q ⟨G, r, st, sr, er, hw⟩ => Aft.now (rel := rL B) hw sr Rls.nil
theorem x_cons {es : List Expr} {ms : En → M (List W)} (hs : nst x = true) (ha : PE X x (tE B W' ma)) (hb : PA X es (tAr B W' ms)) : PA X (x :: es) (tAr B W' fun r => (ma r).bnd fun x => (ms r).bnd fun xs => M.ret (x :: xs)) := by
  refine wkA (pa_cons ha hb (star_cons hs)) fun σ H Q ⟨G, r, st, sr, er, hw⟩ => ⟨G, r, st, sr, er, Aft.bnd hw fun v G1 H1 w st1 l1 s1 q1 h1 => ?_⟩
  refine ⟨G1, r, st1, s1, er.lt l1, Aft.bnd h1 fun vs G2 H2 ws st2 l2 s2 q2 h2 => ?_⟩
  exact Aft.now (rel := rL B) h2 s2 (Rls.cons (q1.lt l2) q2)

/-! ### new lists -/
/-- a new list of these items -/
theorem lay_new {H0 : Hp} {G : Rg} {st : Sto} {r : En} {xs : List W} {vs : List V} (h0 : ∀ p, H p = none → H0 p = none) (sr : StR B G st H) (q : Rls B G xs vs) (h : Aft B W' (rF B H0) G H r σ (.ok xs st) Q) : ∀ p, H p = none → Q (.ref p) (upd H p (.lst vs)) := fun p hp => by
  have ⟨n, k⟩ := sr.fresh hp
  exact h _ _ _ (Lt.lay hp) (sr.lay hp) ⟨p, vs, rfl, h0 p hp, upd_same, n, k, q⟩
theorem x_dis {es : List Expr} {ms : En → M (List W)} (ha : PA X es (tAr B W' ms)) : PE X (.List es pos) (tFr B W' fun r => (ms r).bnd fun xs => M.look fun _ => if xs.length ≤ sizeLine then some xs else none) := by
  refine wkE (pe_lst ha) fun σ H Q ⟨G, r, st, sr, er, hw⟩ => ⟨G, r, st, sr, er, Aft.bnd hw fun vs G1 H1 ws st1 l1 s1 q1 h1 => ?_⟩
  obtain ⟨w, hw', h2⟩ := Aft.look h1
  obtain ⟨hz, rfl⟩ := ite_some hw'
  exact ⟨by rw [← q1.len]; exact hz, lay_new (fun p hp => l1.gone sr s1 hp) s1 q1 h2⟩
theorem x_cat (h : Gd B d g X) (ha : PE X x (tE B W' ma)) (hb : PE X y (tE B W' mb)) : PE X (.BinOp x .Add y pos) (tFr B W' fun r => (ma r).bnd fun x => (mb r).bnd fun y => M.look fun st => (lstOf st x).bind fun xs => (lstOf st y).bind fun ys => if xs.length + ys.length ≤ sizeLine then some (xs ++ ys) else none) := by
  refine wkE (pe_op op_catR ha hb) fun σ H Q ⟨G, r, st, sr, er, hw⟩ => ⟨G, r, st, sr, er, Aft.bnd hw fun v G1 H1 w st1 l1 s1 q1 h1 => ?_⟩
  refine ⟨G1, r, st1, s1, er.lt l1, Aft.bnd h1 fun u G2 H2 w2 st2 l2 s2 q2 h2 => ?_⟩
  obtain ⟨zs, e1, h3⟩ := Aft.look h2
  obtain ⟨xs, e2, e1⟩ := bind_some e1
  obtain ⟨ys, e3, e1⟩ := bind_some e1
  obtain ⟨hz, rfl⟩ := ite_some e1
  obtain ⟨a, vs, rfl, d1, k1⟩ := lst_at s2 (q1.lt l2) e2
  obtain ⟨b, us, rfl, d2, k2⟩ := lst_at s2 q2 e3
  exact ⟨a, b, vs, us, rfl, rfl, by rw [h.K]; exact d1, by rw [h.K]; exact d2, by rw [← k1.len, ← k2.len]; exact hz, lay_new (fun p hp => (l1.trans l2).gone sr s2 hp) s2 (k1.app k2) h3⟩
theorem x_slc (h : Gd B d g X) {lo hi : Option Expr} {ml mh : En → M (Option Int)} {p2 : Pos} (ha : PE X x (tE B W' ma)) (hl : PO X lo (tOf B W' ml)) (hh : PO X hi (tOf B W' mh)) :
    PE X (.Subscript x (.Slice lo hi none p2) pos) (tFr B W' fun r => (ma r).bnd fun x => (ml r).bnd fun l => (mh r).bnd fun h => M.look fun st => (lstOf st x).map fun xs => cutW xs l h) := by
  refine wkE (pe_slice sl_lstR ha hl hh) fun σ H Q ⟨G, r, st, sr, er, hw⟩ => ⟨G, r, st, sr, er, Aft.bnd hw fun v G1 H1 w st1 l1 s1 q1 h1 => ?_⟩
  refine ⟨G1, r, st1, s1, er.lt l1, Aft.bnd h1 fun lo' G2 H2 lo2 st2 l2 s2 q2 h2 => ?_⟩
  refine ⟨G2, r, st2, s2, (er.lt l1).lt l2, Aft.bnd h2 fun hi' G3 H3 hi2 st3 l3 s3 q3 h3 => ?_⟩
  have q2' : lo2 = lo' := q2
  have q3' : hi2 = hi' := q3
  subst q2' q3'
  obtain ⟨zs, e1, h7⟩ := Aft.look h3
  obtain ⟨xs, e2, rfl⟩ := map_some e1
  obtain ⟨a, vs, rfl, d1, k1⟩ := lst_at s3 ((q1.lt l2).lt l3) e2
  exact ⟨a, vs, rfl, by rw [h.K]; exact d1, lay_new (fun p hp => ((l1.trans l2).trans l3).gone sr s3 hp) s3 (cut_rel k1) h7⟩
theorem x_cop (h : Gd B d g X) {p : Pos} (hg : Gl X "list") (hm : X.mg "list" = none) (hs : nst x = true) (ha : PE X x (tE B W' ma)) : PE X (.Call (.Name "list" p) [x] [] pos) (tFr B W' fun r => (ma r).bnd fun x => M.look fun st => seqOf st x) := by
  refine wkE (pe_callTy call_list_of hg hm (by decide +kernel) (pa_cons ha pa_nil (star_cons hs)) (by decide) (by decide) (star_cons hs) rfl) fun σ H Q ⟨G, r, st, sr, er, hw⟩ => ⟨G, r, st, sr, er, Aft.bnd hw fun v G1 H1 w st1 l1 s1 q1 h1 => ?_⟩
  obtain ⟨xs, e1, h2⟩ := Aft.look h1
  obtain ⟨a, vs, rfl, d1, k1⟩ := seq_at s1 q1 e1
  refine ⟨a, vs, rfl, ?_, lay_new (fun p hp => l1.gone sr s1 hp) s1 k1 h2⟩
  rcases d1 with d1 | d1
  · exact .inl (by rw [h.K]; exact d1)
  · exact .inr (by rw [h.K]; exact d1)
/-- a new list that will not change any more -/
theorem fz_of {mf : En → M (List W)} (hw : tE B W' (fun r => (mf r).bnd fun xs => M.ret (.lst xs)) σ H Q) : tFr B W' mf σ H Q := by
  obtain ⟨G, r, st, sr, er, hw⟩ := hw
  refine ⟨G, r, st, sr, er, Aft.bndO hw fun v G1 H1 xs st1 l1 s1 q1 h1 => ?_⟩
  obtain ⟨p, vs, rfl, h0, hp, n, k, rx⟩ := q1
  refine h1 (.ref p) (G1.frz p (.lst vs)) H1 (Lt.frz h0 l1 n) (s1.frz hp n k) ?_
  show ∃ a us, V.ref p = .ref a ∧ SqL B.K (G1.frz p (.lst vs)).S a us ∧ Rls B (G1.frz p (.lst vs)) xs us
  exact ⟨p, vs, rfl, .inl (.inl frz_at), Rls.gr (frz_gr n) (fun _ _ h => h) _ _ rx⟩
theorem x_fz {e : Expr} {mf : En → M (List W)} (h : PE X e (tFr B W' mf)) : PE X e (tE B W' fun r => (mf r).bnd fun xs => M.ret (.lst xs)) := wkE h fun _ _ _ => fz_of
/-- a new list that may change -/
theorem ow_of {mf : En → M (List W)} (hw : tE B W' (fun r => (mf r).bnd fun xs => M.upd fun st => some (.obj st.n, st.new (.lst xs))) σ H Q) : tFr B W' mf σ H Q := by
  obtain ⟨G, r, st, sr, er, hw⟩ := hw
  refine ⟨G, r, st, sr, er, Aft.bndO hw fun v G1 H1 xs st1 l1 s1 q1 h1 => ?_⟩
  obtain ⟨p, vs, rfl, h0, hp, n, k, rx⟩ := q1
  refine h1 (.ref p) (G1.own st1.n p) H1 (Lt.own h0 l1 s1 k) (s1.own hp n k ⟨vs, hp, rx⟩ s1.small) ?_
  exact ⟨p, rfl, if_pos rfl⟩
theorem x_ow {e : Expr} {mf : En → M (List W)} (h : PE X e (tFr B W' mf)) : PE X e (tE B W' fun r => (mf r).bnd fun xs => M.upd fun st => some (.obj st.n, st.new (.lst xs))) := wkE h fun _ _ _ => ow_of
end
end Ip
/-! Ip14: built-in functions, isinstance, methods of lists, targets, comprehensions. -/
namespace Ip
open PySem L2 PySem.Spec PyProof.Rows
def bltOk (b : Bf) (n : Str) : Bool := match b with
  | .len => decide (n = "len")
  | .abs => decide (n = "abs")
  | .int => decide (n = "int")
  | .tuple => decide (n = "tuple")
  | .all => decide (n = "all")
  | .any => decide (n = "any")
  | .sum => decide (n = "sum")
  | .max2 => decide (n = "max")
  | .min2 => decide (n = "min")
  | .repr => decide (n = "repr")
  | _ => false
section
variable {B : Bs} {W' : WX} {σ : L2.St} {H : Hp} {Q : VK} {X : Cx} {d : Nat} {g : Sc} {pos : Pos} {x y z : Expr} {ma mb mc : En → M W} {es : List Expr} {ms : En → M (List W)}
theorem x_blt (h : Gd B d g X) {b : Bf} {n : Str} {p : Pos} (ho : bltOk b n = true) (hg : g.gl n = true) (hm : B.mg n = none) (hs : (x :: es).all nst = true) (ha : PA X (x :: es) (tAr B W' ms)) :
    PE X (.Call (.Name n p) (x :: es) [] pos) (tE B W' fun r => (ms r).bnd fun xs => M.look (bfn b xs)) := by
  obtain ⟨g1, g2, g3⟩ := h.gl hg
  have hm' : X.mg n = none := by rw [h.mg]; exact hm
  have hu : X.A.units + 100 < cLine := by have := h.rm.un; omega
  simp only [List.all_cons, Bool.and_eq_true] at hs
  have fin : ∀ {b : Bf} {id : String}, CallR X (.builtin id) (RLof B (bfn b)) → bootBuiltins n = some (.builtin id) → PE X (.Call (.Name n p) (x :: es) [] pos) (tE B W' fun r => (ms r).bnd fun xs => M.look (bfn b xs)) := fun c k =>
    wkE (pe_callB c g1 hm' k ha g3 g2 (star_cons hs.1) (star_all hs.2)) fun _ _ _ => cb_of
  have finT : ∀ {b : Bf} {id : String}, CallR X (.type id) (RLof B (bfn b)) → bootBuiltins n = some (.type id) → PE X (.Call (.Name n p) (x :: es) [] pos) (tE B W' fun r => (ms r).bnd fun xs => M.look (bfn b xs)) := fun c k =>
    wkE (pe_callTy c g1 hm' k ha g3 g2 (star_cons hs.1) (star_all hs.2)) fun _ _ _ => cb_of
  cases b <;> first | (cases ho; done) | (have e := of_decide_eq_true (show decide _ = true from ho); subst e)
  · exact fin (c_len h.K) PySem.boot_len
  · exact fin c_abs (by decide +kernel)
  · exact finT c_int (by decide +kernel)
  · exact finT (c_tuple h.K) (by decide +kernel)
  · exact fin (c_all h.K h.calm) (by decide +kernel)
  · exact fin (c_any h.K h.calm) (by decide +kernel)
  · exact fin (c_sum h.K h.calm) (by decide +kernel)
  · exact fin (c_repr h.K h.gu hu) (by decide +kernel)
  · exact fin (c_max2 h.calm) (by decide +kernel)
  · exact fin (c_min2 h.calm) (by decide +kernel)

/-! ### isinstance -/
def tyNm (t : Ty) (n : Str) : Bool := match t with
  | .int => decide (n = "int")
  | .bool => decide (n = "bool")
  | .str => decide (n = "str")
  | .tup => decide (n = "tuple")
  | .lst => decide (n = "list")
  | .dic => decide (n = "dict")
  | _ => false
theorem ty_at {G : Rg} {st : Sto} {w : W} {v : V} {a : String} (s : StR B G st H) (r : Rl B G w v) (e : tyN st w = some a) : TyX B.K H v (.type a) := by
  have lst : ∀ {ys : List W}, lstOf st w = some ys → a = "list" → TyX B.K H v (.type a) := fun h1 h2 => by
    obtain ⟨p, vs, rfl, h3, _⟩ := lst_at s r h1
    subst h2
    rcases h3 with (h3 | ⟨o, h3⟩) | ⟨o, its, n, h3, h4, _⟩
    · exact .base (.lst h3)
    · exact .base (.frz h3)
    · exact .kList h3 h4
  cases w with
  | non => cases e; cases (show v = .non from r); exact .base .non
  | bl b => cases e; cases (show v = .bl b from r); exact .base (.bl b)
  | int b => cases e; cases (show v = .int b from r); exact .base (.int b)
  | str b => cases e; cases (show v = .str b from r); exact .base (.str b)
  | tup xs =>
    cases e
    obtain ⟨p, vs, rfl, h3, _⟩ := tup_at s r
    rcases h3 with (h3 | ⟨o, h3⟩) | ⟨o, its, n, h3, h4, _⟩
    · exact .base (.tup h3)
    · exact .fTuple h3
    · exact .kTuple h3 h4
  | lst xs => cases e; exact lst (ys := xs) rfl rfl
  | obj k =>
    unfold tyN at e
    simp only at e
    split at e
    · rename_i xs hm
      exact lst (ys := xs) (by simp [lstOf, view, hm]) (Option.some.inj e).symm
    · cases e
  | _ => cases e
theorem kit_two {K : PySem.W.Frag} {st : Sto} {w : W} {t : Ty} {a b : String} (e : tyN st w = some a) (e2 : tyC t = some b) : PySem.W.kitOne K (.type a) (.type b) = some (a == b || (a == "bool" && b == "int")) := by
  have ha : a ∈ (["NoneType", "bool", "int", "str", "tuple", "list"] : List String) := by
    cases w with
    | obj k =>
      unfold tyN at e
      simp only at e
      split at e <;> cases e
      decide
    | _ => cases e <;> decide
  have hb : b ∈ (["int", "bool", "str", "tuple", "list", "dict"] : List String) := by cases t <;> cases e2 <;> decide
  clear e e2
  simp only [List.mem_cons, List.mem_nil_iff, or_false] at ha hb
  rcases ha with rfl | rfl | rfl | rfl | rfl | rfl <;> rcases hb with rfl | rfl | rfl | rfl | rfl | rfl <;> exact kit_ty (by decide +kernel)
theorem x_ty (h : Gd B d g X) {t : Ty} {n : Str} {p : Pos} (ho : tyNm t n = true) (hg : g.gl n = true) (hm : B.mg n = none) : ∃ b, tyC t = some b ∧ PE X (.Name n p) (tC (.ty b)) := by
  obtain ⟨g1, g2, g3⟩ := h.gl hg
  have hm' : X.mg n = none := by rw [h.mg]; exact hm
  have fin : ∀ {b : String}, bootBuiltins n = some (.type b) → PE X (.Name n p) (tC (.ty b)) := fun k => pe_bltn g1 hm' k rfl g3 g2
  cases t <;> first | (cases ho; done) | (have e := of_decide_eq_true (show decide _ = true from ho); subst e)
  · exact ⟨_, rfl, fin (by decide +kernel)⟩
  · exact ⟨_, rfl, fin (by decide +kernel)⟩
  · exact ⟨_, rfl, fin (by decide +kernel)⟩
  · exact ⟨_, rfl, fin (by decide +kernel)⟩
  · exact ⟨_, rfl, fin (by decide +kernel)⟩
  · exact ⟨_, rfl, fin (by decide +kernel)⟩
/-- isinstance(x, T) -/
theorem x_is1 (h : Gd B d g X) {t : Ty} {n : Str} {p p2 : Pos} (hgi : g.gl "isinstance" = true) (hmi : B.mg "isinstance" = none) (ho : tyNm t n = true) (hg : g.gl n = true) (hm : B.mg n = none) (hs : nst x = true) (ha : PE X x (tE B W' ma)) :
    PE X (.Call (.Name "isinstance" p) [x, .Name n p2] [] pos) (tE B W' fun r => (ma r).bnd fun x => M.look fun st => (isTys st x [t]).map .bl) := by
  obtain ⟨g1, g2, g3⟩ := h.gl hgi
  obtain ⟨b, hb, hn⟩ := x_ty (p := p2) h ho hg hm
  refine wkE (pe_callB call_isi g1 (by rw [h.mg]; exact hmi) PyProof.Rows.boot_isinstance (pa_cons ha (pa_cons hn pa_nil (star_cons rfl)) (star_cons hs)) g3 g2 (star_cons hs) (star_all (by rfl))) fun σ H Q ⟨G, r, st, sr, er, hw⟩ => ⟨G, r, st, sr, er, Aft.bnd hw fun v G1 H1 w st1 l1 s1 q1 h1 => ?_⟩
  obtain ⟨w2, e1, h2⟩ := Aft.look h1
  obtain ⟨k, e2, rfl⟩ := map_some e1
  obtain ⟨k2, e3, e4⟩ := bind_some (show ((isTy st1 w t).bind fun b => if b then some true else isTys st1 w []) = some k from e2)
  have ek : k = k2 := by cases k2 <;> cases e4 <;> rfl
  subst ek
  obtain ⟨a, e5, e6⟩ := bind_some (show ((tyN st1 w).bind fun a => (tyC t).map fun b => a == b || (a == "bool" && b == "int")) = some k from e3)
  rw [hb] at e6
  cases e6
  exact ⟨v, .ty b, .type a, .type b, _, rfl, .ty b, by rw [h.K]; exact ty_at s1 q1 e5, kit_two e5 hb, h2.now s1 rfl⟩
def tyNms (p : List Str) (g : Sc) : List Ty → List Expr → Bool
  | [], [] => true
  | t :: ts, .Name n _ :: es => tyNm t n && g.gl n && decide (n ∈ p) && tyNms p g ts es
  | _, _ => false
theorem x_tys (h : Gd B d g X) {p : List Str} (hp : ∀ n ∈ p, B.mg n = none) : ∀ {ts : List Ty} {es : List Expr}, tyNms p g ts es = true → ∃ bs : List String, ts.map tyC = bs.map some ∧ PA X es (fun σ H Q => Q (bs.map V.ty) H)
  | [], [], _ => ⟨[], rfl, wkA pa_nil fun _ _ _ h => h⟩
  | [], _ :: _, e => by cases e
  | t :: ts, [], e => by cases e
  | t :: ts, e :: es, q => by
    cases e with
    | Name n pp =>
      simp only [tyNms, Bool.and_eq_true, decide_eq_true_eq] at q
      obtain ⟨⟨⟨e1, e2⟩, e3⟩, e4⟩ := q
      obtain ⟨b, hb, hn⟩ := x_ty (p := pp) h e1 e2 (hp n e3)
      obtain ⟨bs, h1, h2⟩ := x_tys h hp e4
      exact ⟨b :: bs, by rw [List.map_cons, List.map_cons, h1, hb], wkA (pa_cons hn h2 (star_cons rfl)) fun σ H Q q => q⟩
    | _ => cases q
theorem kit_all {K : PySem.W.Frag} {st : Sto} {w : W} {a : String} (e : tyN st w = some a) : ∀ {ts : List Ty} {bs : List String} {k : Bool}, ts.map tyC = bs.map some → isTys st w ts = some k → PySem.W.kitAny K (.type a) (bs.map Value.type) = some k
  | [], [], k, _, h => by cases h; rfl
  | [], _ :: _, _, h, _ => by cases h
  | _ :: _, [], _, h, _ => by cases h
  | t :: ts, b :: bs, k, h, hk => by
    rw [List.map_cons, List.map_cons] at h
    injection h with h1 h2
    obtain ⟨k2, e3, e4⟩ := bind_some (show ((isTy st w t).bind fun b => if b then some true else isTys st w ts) = some k from hk)
    obtain ⟨a', e5, e6⟩ := bind_some (show ((tyN st w).bind fun a => (tyC t).map fun b => a == b || (a == "bool" && b == "int")) = some k2 from e3)
    rw [e] at e5
    cases e5
    rw [h1] at e6
    have e7 : (a == b || (a == "bool" && b == "int")) = k2 := Option.some.inj e6
    refine kitAny_cons (b := k2) (by rw [← e7]; exact kit_two e h1) (fun z => ?_) fun z => ?_
    · rw [z, if_neg Bool.false_ne_true] at e4
      exact kit_all e h2 e4
    · rw [z, if_pos rfl] at e4
      exact (Option.some.inj e4).symm
theorem clsV_all : ∀ bs : List String, Paired ClsV (bs.map V.ty) (bs.map Value.type)
  | [] => .nil
  | b :: bs => .cons (.ty b) (clsV_all bs)
/-- isinstance(x, (T, U, ..)) -/
theorem x_isn (h : Gd B d g X) {pl : List Str} (hp : ∀ n ∈ pl, B.mg n = none) {ts : List Ty} {k : Nat} {p p2 : Pos} (hgi : g.gl "isinstance" = true) (hmi : B.mg "isinstance" = none) (ho : tyNms pl g ts es = true) (hne : ts ≠ []) (hl : es.length ≤ 100) (hs : nst x = true) (ha : PE X x (tE B W' ma)) :
    PE X (.Call (.Name "isinstance" p) [x, .Tuple es k p2] [] pos) (tE B W' fun r => (ma r).bnd fun x => M.look fun st => (isTys st x ts).map .bl) := by
  obtain ⟨g1, g2, g3⟩ := h.gl hgi
  obtain ⟨bs, hb, hn⟩ := x_tys h hp ho
  have hlen : bs.length ≤ sizeLine := by
    have e1 := congrArg List.length hb
    rw [List.length_map, List.length_map] at e1
    have e2 : ts.length = es.length := by
      clear hb hn e1 ha hl hne
      induction ts generalizing es with
      | nil => cases es with
        | nil => rfl
        | cons _ _ => cases ho
      | cons t ts ih =>
        cases es with
        | nil => cases ho
        | cons e es =>
          cases e with
          | Name n pp =>
            simp only [tyNms, Bool.and_eq_true] at ho
            rw [List.length_cons, List.length_cons, ih ho.2]
          | _ => cases ho
    rw [sizeLine_eq]; omega
  refine wkE (pe_callB call_isiT g1 (by rw [h.mg]; exact hmi) PyProof.Rows.boot_isinstance (pa_cons ha (pa_cons (pe_tup hn) pa_nil (star_cons rfl)) (star_cons hs)) g3 g2 (star_cons hs) (star_all (by rfl))) fun σ H Q ⟨G, r, st, sr, er, hw⟩ => ⟨G, r, st, sr, er, Aft.bnd hw fun v G1 H1 w st1 l1 s1 q1 h1 => ?_⟩
  obtain ⟨w2, e1, h2⟩ := Aft.look h1
  obtain ⟨k, e2, rfl⟩ := map_some e1
  refine ⟨by rw [List.length_map]; exact hlen, fun q hq => ?_⟩
  have s2 := s1.lay (o := .tup (bs.map V.ty)) hq
  cases ht : tyN st1 w with
  | none =>
    cases ts with
    | nil => exact absurd rfl hne
    | cons t ts =>
      have : (isTys st1 w (t :: ts)) = none := by
        show ((isTy st1 w t).bind fun b => if b then some true else isTys st1 w ts) = none
        unfold isTy
        rw [ht]
        rfl
      rw [this] at e2; cases e2
  | some a =>
    exact ⟨v, q, bs.map V.ty, .type a, bs.map Value.type, k, rfl, upd_same, clsV_all bs, by rw [h.K]; exact ty_at s2 q1 ht, kit_all ht hb e2, h2 _ _ _ (Lt.lay hq) s2 rfl⟩

/-! ### xs.append(e) -/
theorem few_one {e : Expr} {env : Env} {cpos : Pos} (hs : nst e = true) : ((backTo cpos (starEach (e :: []) env)).all (fun x => !x.1) && (backToKw cpos (keywordEach [] env)).all (fun x => x.1.isSome)
      && decide ((e :: []).length + ([] : List Keyword).length + (if ([] : List Keyword).isEmpty then 0 else 1) < 30)) = true := by
  rw [star_cons hs]; rfl
theorem obj_lst {G : Rg} {st : Sto} {k : Nat} {v : V} {xs : List W} (sr : StR B G st H) (r : Rl B G (.obj k) v) (e : st.m k = some (.lst xs)) : ∃ a vs, v = .ref a ∧ G.i k = some a ∧ H a = some (.lst vs) ∧ Rls B G xs vs := by
  obtain ⟨a, rfl, ea⟩ := (show ∃ a, v = .ref a ∧ G.i k = some a from r)
  obtain ⟨b, e1, _, vs, h1, h2⟩ := sr.liv k _ e
  rw [ea] at e1; cases e1
  exact ⟨a, vs, rfl, ea, h1, h2⟩
theorem upd_ok {α : Type} {rel2 : Rg → Hp → W → V → Prop} {G : Rg} {r : En} {st : Sto} {f : Sto → Option (W × Sto)} (h : Aft B W' rel2 G H r σ (M.upd f st) Q) : ∃ p, f st = some p ∧ Aft B W' rel2 G H r σ (.ok p.1 p.2) Q := by
  unfold M.upd at h
  cases e : f st with
  | none => simp only [e] at h; exact h.elim
  | some p => simp only [e] at h; exact ⟨p, rfl, h⟩
theorem tyV_lst {G : Rg} {st : Sto} {w : W} {v : V} {xs : List W} (sr : StR B G st H) (r : Rl B G w v) (e : lstOf st w = some xs) : tyV B.K "list" v H := by
  obtain ⟨a, vs, rfl, h1, _⟩ := lst_at sr r e
  exact .inl ⟨rfl, vs, h1⟩
theorem x_app (h : Gd B d g X) {apos : Pos} (hab : nab x = true) (hln : (apos.endLine == pos.line) = true) (hs : nst y = true) (ha : PE X x (tE B W' ma)) (hb : PA X [y] (tAr B W' ms)) :
    PE X (.Call (.Attribute x "append" apos) [y] [] pos) (tE B W' fun r => (ma r).bnd fun x => (M.look (bmG .append x)).bnd fun _ => (ms r).bnd fun xs => M.upd (bmF .append x xs)) := by
  refine wkE (pe_bm PySem.F.plainAttrs_list PySem.F.slot_list_append PySem.F.type_list_append mt_append ha hb (ab_no hab) (few_one hs) hln (star_cons hs) rfl) fun σ H Q ⟨G, r, st, sr, er, hw⟩ => ?_
  refine ⟨G, r, st, sr, er, Aft.bnd hw fun v G1 H1 w st1 l1 s1 q1 h1 => ?_⟩
  obtain ⟨_, hg, h2⟩ := Aft.lookB h1
  obtain ⟨xs0, hx0, _⟩ := map_some (show (lstOf st1 w).map (fun _ => ()) = some _ from hg)
  refine ⟨by rw [h.K]; exact tyV_lst s1 q1 hx0, G1, r, st1, s1, er.lt l1, Aft.bnd h2 fun vs G2 H2 ws st2 l2 s2 q2 h3 => ?_⟩
  obtain ⟨⟨w3, st3⟩, e3, h4⟩ := upd_ok (α := W) h3
  have q1' := q1.lt l2
  cases w with
  | obj k =>
    match ws, q2, e3 with
    | [y], q2, e3 =>
      have e4 : (match st2.m k with
        | some (.lst ys) => if ys.length < sizeLine then some (W.non, st2.put k (.lst (ys ++ [y]))) else none
        | _ => none) = some (w3, st3) := e3
      cases hm : st2.m k with
      | none => rw [hm] at e4; cases e4
      | some o =>
        rw [hm] at e4
        cases o with
        | lst ys =>
          obtain ⟨hz, e5⟩ := ite_some (show (if ys.length < sizeLine then some (W.non, st2.put k (.lst (ys ++ [y]))) else none) = some (w3, st3) from e4)
          cases e5
          obtain ⟨a, us, rfl, ea, h5, h6⟩ := obj_lst s2 q1' hm
          obtain ⟨u, r2, rfl, ru, r3⟩ := q2
          cases (show r2 = [] from r3)
          exact ⟨a, us, u, rfl, rfl, h5, by rw [← h6.len]; exact hz, h4 .non G2 _ (Lt.put ea) (s2.put hm ea ⟨_, upd_same, h6.app (Rls.cons ru Rls.nil)⟩) rfl⟩
        | _ => cases e4
    | [], _, e3 => cases e3
    | _ :: _ :: _, _, e3 => cases e3
  | _ => cases e3

/-! ### targets -/
mutual
def ckT (g : Sc) : Tg → Expr → Bool
  | .nm i, .Name n _ => g.loc i n
  | .tp ts, .Tuple es _ _ => ckTs g ts es
  | _, _ => false
def ckTs (g : Sc) : List Tg → List Expr → Bool
  | [], [] => true
  | t :: ts, e :: es => nst e && ckT g t e && ckTs g ts es
  | _, _ => false
end
theorem asg_cons {e : Expr} {es : List Expr} {env : Env} (h : nst e = true) : assignEach (e :: es) env = (false, assign e env) :: assignEach es env := by
  cases e <;> first | rfl | cases h
theorem ckTs_len {g : Sc} {env : Env} : ∀ {ts : List Tg} {es : List Expr}, ckTs g ts es = true → (assignEach es env).length = ts.length ∧ (assignEach es env).findIdx? (·.1) = none
  | [], [], _ => ⟨rfl, rfl⟩
  | [], _ :: _, h => by simp [ckTs] at h
  | _ :: _, [], h => by simp [ckTs] at h
  | t :: ts, e :: es, h => by
    simp only [ckTs, Bool.and_eq_true] at h
    obtain ⟨i1, i2⟩ := ckTs_len (env := env) h.2
    rw [asg_cons h.1.1]
    refine ⟨by rw [List.length_cons, List.length_cons, i1], ?_⟩
    rw [List.findIdx?_cons]
    simp [i2]
mutual
theorem pg_of (h : Gd B d g X) : ∀ {t : Tg} {e : Expr}, ckT g t e = true → PG X e (gT B.K t)
  | .nm i, e, q => by
    cases e with
    | Name n p =>
      obtain ⟨q1, q2, q3⟩ := h.loc (show g.loc i n = true by simpa [ckT] using q)
      exact pg_name (by rw [h.N]; exact h.nd) q1 q2 q3
    | _ => simp [ckT] at q
  | .tp ts, e, q => by
    cases e with
    | Tuple es k p =>
      have q' : ckTs g ts es = true := by simpa [ckT] using q
      obtain ⟨i1, i2⟩ := ckTs_len (env := X.env) q'
      have z := pg_tup (pos := p) (k := k) h.calm (pgs_of h q') i1 i2
      rw [h.K] at z
      exact z
    | _ => simp [ckT] at q
theorem pgs_of (h : Gd B d g X) : ∀ {ts : List Tg} {es : List Expr}, ckTs g ts es = true → PGs X es (gTs B.K ts)
  | [], [], _ => pgs_nil
  | [], _ :: _, q => by simp [ckTs] at q
  | _ :: _, [], q => by simp [ckTs] at q
  | t :: ts, e :: es, q => by
    simp only [ckTs, Bool.and_eq_true] at q
    exact pgs_cons (pg_of h q.1.2) (pgs_of h q.2) (by rw [asg_cons q.1.1]; rfl)
end

/-! ### comprehensions -/
/-- the static context of a comprehension's block -/
def Sc.blk (g : Sc) (scope : Scope) : Sc := ⟨g.N, relS scope g.sc, fun x => scope.names.lookup x == some .cell⟩
theorem Gd.blk (h : Gd B d g X) (s : Shared) (H : Hp) (scope : Scope) (C : Addr) (cl : List (Str × Addr)) (fp : List Addr) : Gd B d (g.blk scope) (X.blk s H scope (compEnvC scope cl C X.env) fp) :=
  ⟨h.prog, h.w, h.K, h.mg, h.base, h.N, by show relS scope X.env.scope = relS scope g.sc; rw [h.sc], h.nd, h.rm, h.gu, h.calm, fun x hx => hx⟩
/-- what a comprehension asks -/
structure LcP (B : Bs) (W' : WX) (X : Cx) (g : Sc) (elt tg iter : Expr) (ifs : List Expr) (scope : Scope) (own : List Nat) (t : Tg) (mi : En → M Wk) (mc : En → M Bool) (me : En → M W) : Prop where
  hi : PI X tg iter (tIk B W' mi)
  ok : ∃ on : List (Str × Nat), on.map (·.2) = own ∧ BlkOk X.N X.env.scope scope on
  hg : ∀ (s : Shared) (H : Hp) (C : Addr) (cl : List (Str × Addr)) (fp : List Addr), PG (X.blk s H scope (compEnvC scope cl C X.env) fp) tg (gT B.K t)
  ht : ∀ (s : Shared) (H : Hp) (C : Addr) (cl : List (Str × Addr)) (fp : List Addr), PTs (X.blk s H scope (compEnvC scope cl C X.env) fp) ifs (tT B WF mc)
  he : ∀ (s : Shared) (H : Hp) (C : Addr) (cl : List (Str × Addr)) (fp : List Addr), PE (X.blk s H scope (compEnvC scope cl C X.env) fp) elt (tE B WF me)
  hs : ∀ x, foldedSetIterable iter X.env x = pure x
  ho : ∀ i ∈ tgIx t, i ∈ own
theorem x_lcp (h : Gd B d g X) {elt tg iter : Expr} {ifs : List Expr} {scope : Scope} {own : List Nat} {t : Tg} {mi : En → M Wk} {mc : En → M Bool} {me : En → M W} (L : LcP B W' X g elt tg iter ifs scope own t mi mc me) :
    PE X (.ListComp elt [⟨tg, iter, ifs, 0⟩] scope pos) (tFr B W' fun r => (mi r).bnd fun k => lcRun k.gd (turnM own t mc me r) k.xs []) := by
  obtain ⟨on, e, ok⟩ := L.ok
  have z := pe_lc (pos := pos) h.calm (by rw [h.N]; exact h.nd) L.hi ok L.hg L.ht L.he L.hs
  rw [e] at z
  exact wkE z fun _ _ _ q => lc_of rfl L.ho q
/-- name = [..] on one line -/
theorem x_setLc (h : Gd B d g X) {i : Nat} {n : Str} {py spos : Pos} {elt tg iter : Expr} {ifs : List Expr} {scope : Scope} {own : List Nat} {t : Tg} {mi : En → M Wk} {mc : En → M Bool} {me : En → M W} (L : LcP B W' X g elt tg iter ifs scope own t mi mc me)
    (hn : g.N[i]? = some n) (hl : g.sc.names.lookup n = some .local) (hk : g.sc.kind = .function) (hp : (py.line == pos.line) = true) (ha : (scope.names.any fun (m, k) => m == n && (k == .local || k == .cell)) = false) :
    PS X (.Assign [.Name n py] (.ListComp elt [⟨tg, iter, ifs, 0⟩] scope pos) spos) (tAsg (tFr B W' fun r => (mi r).bnd fun k => lcRun k.gd (turnM own t mc me r) k.xs []) (gName i)) := by
  obtain ⟨on, e, ok⟩ := L.ok
  have z := ps_setLc (i := i) (y := n) (py := py) (pos := pos) (spos := spos) h.calm (by rw [h.N]; exact h.nd) (by rw [h.N]; exact hn) (by rw [h.sc]; exact hl) (sw_true (by rw [h.sc]; exact hk) (by rw [h.sc]; exact hl) hp ha) L.hi ok L.hg L.ht L.he L.hs
  rw [e] at z
  exact wkS z fun D σ H q => lc_of rfl L.ho q
end
end Ip
/-! Ip15: the text of expressions held against the interpreter's. -/
namespace Ip
open PySem L2 PySem.Spec PyProof.Rows
/-! ### tests -/
section
variable {B : Bs} {W' : WX} {σ : L2.St} {H : Hp} {X : Cx} {d : Nat} {g : Sc} {pos : Pos} {x y z : Expr} {ma mb mc : En → M W}
theorem y_truth (h : Gd B d g X) (hn : ntr x = true) (ha : PE X x (tE B W' ma)) : PT X x (tT B W' fun r => (ma r).bnd M.truth) := by
  refine wkT (pt_truth ha (tr_no hn)) fun σ H Q ⟨G, r, st, sr, er, hw⟩ => ⟨G, r, st, sr, er, Aft.bnd hw fun v G1 H1 w st1 l1 s1 q1 h1 => ?_⟩
  obtain ⟨b, hb, h2⟩ := Aft.look h1
  have t := tru_at s1 q1 hb
  rw [← h.K] at t
  exact ⟨b, t, Aft.now (rel := rB) h2 s1 rfl⟩
theorem y_test {t : TE} (hb : ∀ r st w st', ma r st = .ok w st' → ∃ b, w = .bl b) {Q : Bool → Hp → Prop} (hw : tT B W' (fun r => (ma r).bnd M.truth) σ H Q) : tE B W' ma σ H (fun x H' => ∃ k, x = .bl k ∧ Q k H') := by
  obtain ⟨G, r, st, sr, er, hw⟩ := hw
  refine ⟨G, r, st, sr, er, Aft.bndE hw fun v G1 H1 w st1 em l1 s1 q1 h1 => ?_⟩
  obtain ⟨b, rfl⟩ := hb r st w st1 em
  exact ⟨b, q1, Aft.now (rel := rB) h1 s1 rfl⟩
theorem cop_bl {o : Cop} {x y : W} {st : Sto} {w : W} (h : cop o x y st = some w) : ∃ b, w = .bl b := by
  cases o
  case eq => obtain ⟨k, _, e⟩ := map_some (show (eqW x y st).map W.bl = some w from h); exact ⟨_, e.symm⟩
  case ne => obtain ⟨k, _, e⟩ := map_some (show (eqW x y st).map (fun b => W.bl (!b)) = some w from h); exact ⟨_, e.symm⟩
  case in_ => obtain ⟨k, _, e⟩ := map_some (show (inW x y st).map W.bl = some w from h); exact ⟨_, e.symm⟩
  case nin => obtain ⟨k, _, e⟩ := map_some (show (inW x y st).map (fun b => W.bl (!b)) = some w from h); exact ⟨_, e.symm⟩
  case lt =>
    cases x <;> cases y <;> first | (cases h; done) | skip
    · exact ⟨_, (Option.some.inj h).symm⟩
    · rename_i xs ys
      obtain ⟨ns, h1, hw⟩ := bind_some (show ((wInts xs).bind fun ns => (wInts ys).bind fun ms => some (W.bl (HT.lexLt ns ms))) = some w from h)
      obtain ⟨ms, h2, hw⟩ := bind_some hw
      exact ⟨_, (Option.some.inj hw).symm⟩
  all_goals (cases x <;> cases y <;> first | (cases h; done) | exact ⟨_, (Option.some.inj h).symm⟩)
theorem look_ok {f : Sto → Option W} {st st' : Sto} {w : W} (h : M.look f st = .ok w st') : f st = some w ∧ st' = st := by
  unfold M.look at h
  cases e : f st with
  | none => rw [e] at h; cases h
  | some a => rw [e] at h; cases h; exact ⟨rfl, rfl⟩
theorem y_cmp (h : Gd B d g X) {o : Cop} {op : CmpOp} (ho : copOk o op = true) (hm : behindInMarks op y = false) (ha : PE X x (tE B W' ma)) (hb : PE X y (tE B W' mb)) :
    PT X (.Compare x [op] [y] pos) (tT B W' fun r => ((ma r).bnd fun x => (mb r).bnd fun y => M.look (cop o x y)).bnd M.truth) := by
  refine wkT (pt_cmpR (or_cop h.K (h.rm.units) ho) ha hb hm) fun σ H Q hw => op_of (y_test (t := tE B W' ma) (fun r st w st' e => ?_) hw)
  obtain ⟨_, _, _, e⟩ := ok_bnd e
  obtain ⟨_, _, _, e⟩ := ok_bnd e
  exact cop_bl (look_ok e).1
theorem y_not (ha : PT X x (tT B W' fun r => (ma r).bnd M.truth)) : PT X (.UnaryOp .Not x pos) (tT B W' fun r => ((ma r).bnd fun x => (M.truth x).bnd fun b => M.ret (.bl (!b))).bnd M.truth) := by
  refine wkT (pt_not ha) fun σ H Q ⟨G, r, st, sr, er, hw⟩ => ?_
  have e : ((ma r).bnd fun x => (M.truth x).bnd fun b => M.ret (W.bl (!b))).bnd M.truth = ((ma r).bnd M.truth).bnd fun b => (M.ret (W.bl (!b))).bnd M.truth := by
    rw [M.assoc, M.assoc]
    congr 1
    funext x
    rw [M.assoc]
  have hw' : Aft B W' rB G H r σ ((((ma r).bnd M.truth).bnd fun b => (M.ret (W.bl (!b))).bnd M.truth) st) Q := by rw [← e]; exact hw
  exact ⟨G, r, st, sr, er, Aft.bnd hw' fun v G1 H1 w st1 l1 s1 q1 h1 => by cases (show w = v from q1); exact Aft.now (rel := rB) h1 s1 rfl⟩
theorem and_eq {m : M W} {b : M W} : ((m.bnd fun x => (M.truth x).bnd fun k => if k then b else M.ret x).bnd M.truth) = (m.bnd M.truth).bnd fun k => if k then b.bnd M.truth else M.ret false := by
  rw [M.assoc, M.assoc]
  congr 1
  funext x st
  show ((M.truth x).bnd fun k => if k then b else M.ret x).bnd M.truth st = (M.truth x).bnd (fun k => if k then b.bnd M.truth else M.ret false) st
  cases e : tru st x with
  | none =>
    have e1 : M.truth x st = .stuck := by unfold M.truth M.look; simp only [e]
    unfold M.bnd
    simp only [e1]
  | some k =>
    have e1 : M.truth x st = .ok k st := by unfold M.truth M.look; simp only [e]
    unfold M.bnd
    simp only [e1]
    cases k
    · simp [M.ret, e1]
    · rfl
theorem or_eq {m : M W} {b : M W} : ((m.bnd fun x => (M.truth x).bnd fun k => if k then M.ret x else b).bnd M.truth) = (m.bnd M.truth).bnd fun k => if k then M.ret true else b.bnd M.truth := by
  rw [M.assoc, M.assoc]
  congr 1
  funext x st
  show ((M.truth x).bnd fun k => if k then M.ret x else b).bnd M.truth st = (M.truth x).bnd (fun k => if k then M.ret true else b.bnd M.truth) st
  cases e : tru st x with
  | none =>
    have e1 : M.truth x st = .stuck := by unfold M.truth M.look; simp only [e]
    unfold M.bnd
    simp only [e1]
  | some k =>
    have e1 : M.truth x st = .ok k st := by unfold M.truth M.look; simp only [e]
    unfold M.bnd
    simp only [e1]
    cases k
    · rfl
    · simp [M.ret, e1]
theorem y_and1 {r : En} {G : Rg} {st : Sto} {Q : Bool → Hp → Prop} (er : EnR B G r σ) (hw : Aft B W' rB G H r σ ((((ma r).bnd M.truth).bnd fun k => if k then (mb r).bnd M.truth else M.ret false) st) Q) :
    Aft B W' rB G H r σ (((ma r).bnd M.truth) st) (fun c H1 => if c = true then tT B W' (fun r => (mb r).bnd M.truth) σ H1 Q else Q false H1) := by
  refine Aft.bnd hw fun v G1 H1 w st1 l1 s1 q1 h1 => ?_
  cases (show w = v from q1)
  cases v with
  | true => rw [if_pos rfl] at h1 ⊢; exact ⟨G1, r, st1, s1, er.lt l1, h1⟩
  | false => rw [if_neg Bool.false_ne_true] at h1 ⊢; exact Aft.now (rel := rB) h1 s1 rfl
theorem y_or1 {r : En} {G : Rg} {st : Sto} {Q : Bool → Hp → Prop} (er : EnR B G r σ) (hw : Aft B W' rB G H r σ ((((ma r).bnd M.truth).bnd fun k => if k then M.ret true else (mb r).bnd M.truth) st) Q) :
    Aft B W' rB G H r σ (((ma r).bnd M.truth) st) (fun c H1 => if c = true then Q true H1 else tT B W' (fun r => (mb r).bnd M.truth) σ H1 Q) := by
  refine Aft.bnd hw fun v G1 H1 w st1 l1 s1 q1 h1 => ?_
  cases (show w = v from q1)
  cases v with
  | true => rw [if_pos rfl] at h1 ⊢; exact Aft.now (rel := rB) h1 s1 rfl
  | false => rw [if_neg Bool.false_ne_true] at h1 ⊢; exact ⟨G1, r, st1, s1, er.lt l1, h1⟩
theorem y_and {rest : List Expr} (ha : PT X x (tT B W' fun r => (ma r).bnd M.truth)) (hb : PW X (.BoolOp .And (y :: rest) pos) (tT B W' fun r => (mb r).bnd M.truth)) :
    PT X (.BoolOp .And (x :: y :: rest) pos) (tT B W' fun r => ((ma r).bnd fun x => (M.truth x).bnd fun k => if k then mb r else M.ret x).bnd M.truth) := by
  refine wkT (pw_and ha hb).pt fun σ H Q ⟨G, r, st, sr, er, hw⟩ => ⟨G, r, st, sr, er, y_and1 er ?_⟩
  rw [← and_eq]; exact hw
theorem y_or {rest : List Expr} (ha : PT X x (tT B W' fun r => (ma r).bnd M.truth)) (hb : PW X (.BoolOp .Or (y :: rest) pos) (tT B W' fun r => (mb r).bnd M.truth)) :
    PT X (.BoolOp .Or (x :: y :: rest) pos) (tT B W' fun r => ((ma r).bnd fun x => (M.truth x).bnd fun k => if k then M.ret x else mb r).bnd M.truth) := by
  refine wkT (pw_or ha hb).pt fun σ H Q ⟨G, r, st, sr, er, hw⟩ => ⟨G, r, st, sr, er, y_or1 er ?_⟩
  rw [← or_eq]; exact hw
/-- a test of and, or does not look at its whole -/
theorem y_whole {op : BoolOp} {es : List Expr} {t : TT} (h : PT X (.BoolOp op es pos) t) : PW X (.BoolOp op es pos) t := ⟨fun _ pins s σ H Q I q => h.run pins s σ H Q I q⟩
theorem y_chn (h : Gd B d g X) {o o' : Cop} {op op' : CmpOp} (ho : copOk o op = true) (ho' : copOk o' op' = true) (hm : lastMarks [op, op'] [y, z] = false) (ha : PE X x (tE B W' ma)) (hb : PE X y (tE B W' mb)) (hc : PE X z (tE B W' mc)) :
    PT X (.Compare x [op, op'] [y, z] pos) (tT B W' fun r => ((ma r).bnd fun x => (mb r).bnd fun y => (M.look (cop o x y)).bnd fun k => (M.opt k.bl?).bnd fun k => if k then (mc r).bnd fun z => M.look (cop o' y z) else M.ret (.bl false)).bnd M.truth) := by
  have key := x_chn (W' := W') (pos := pos) h ho ho' hm ha hb hc
  refine wkT (pt_chain (or_cop h.K h.rm.units ho) (or_cop h.K h.rm.units ho') ha hb hc hm) fun σ H Q hw => ?_
  have hw2 := y_test (t := tE B W' ma) (fun r st w st' e => ?_) hw
  · obtain ⟨G, r, st, sr, er, hw⟩ := hw2
    refine ⟨G, r, st, sr, er, Aft.bnd hw fun v G1 H1 w st1 l1 s1 q1 h1 => ?_⟩
    refine ⟨G1, r, st1, s1, er.lt l1, Aft.bnd h1 fun u G2 H2 w2 st2 l2 s2 q2 h2 => ?_⟩
    obtain ⟨k, hk, h3⟩ := Aft.lookB h2
    obtain ⟨b, hb', h4⟩ := Aft.optB h3
    have hk' : k = .bl b := by cases k <;> cases hb' <;> rfl
    subst hk'
    refine ⟨G2, st2, w, w2, _, s2, q1.lt l2, q2, hk, fun z' G3 H3 l3 s3 q3 => ⟨b, q3, ?_⟩⟩
    have h5 := Aft.re l3 h4
    cases b with
    | true =>
      rw [if_pos rfl] at h5 ⊢
      refine ⟨G3, r, st2, s3, ((er.lt l1).lt l2).lt l3, Aft.bnd h5 fun v3 G4 H4 w3 st4 l4 s4 q4 h6 => ?_⟩
      obtain ⟨w5, e5, h7⟩ := Aft.look h6
      exact ⟨G4, st4, w2, w3, w5, s4, (q2.lt l3).lt l4, q4, e5, fun z2 G' H' l' s' q' => h7 z2 G' H' l' s' q'⟩
    | false =>
      rw [if_neg Bool.false_ne_true] at h5 ⊢
      exact Aft.now (rel := rV B) h5 s3 rfl
  · obtain ⟨_, _, _, e⟩ := ok_bnd e
    obtain ⟨_, _, _, e⟩ := ok_bnd e
    obtain ⟨_, _, _, e⟩ := ok_bnd e
    obtain ⟨k, _, _, e⟩ := ok_bnd e
    cases k with
    | true =>
      rw [if_pos rfl] at e
      obtain ⟨_, _, _, e⟩ := ok_bnd e
      exact cop_bl (look_ok e).1
    | false =>
      rw [if_neg Bool.false_ne_true] at e
      cases e
      exact ⟨_, rfl⟩
end

/-! ### the check -/
def isOmit : Ex → Bool
  | .omit => true
  | _ => false
def isYes : Ex → Bool
  | .cst (.bl true) => true
  | _ => false
def tok : Ex → Expr → Bool
  | .nt a, .UnaryOp .Not x _ => tok a x
  | .and a b, .BoolOp .And [x, y] _ => tok a x && tok b y
  | .and a b, .BoolOp .And (x :: y :: z :: r) pos => tok a x && tok b (.BoolOp .And (y :: z :: r) pos)
  | .or a b, .BoolOp .Or [x, y] _ => tok a x && tok b y
  | .or a b, .BoolOp .Or (x :: y :: z :: r) pos => tok a x && tok b (.BoolOp .Or (y :: z :: r) pos)
  | .cmp _ _ _, .Compare _ _ _ _ => true
  | .chn _ _ _ _ _, .Compare _ _ _ _ => true
  | _, e => ntr e
def ckCall (p : Pg) (f : Nat) (n : Str) (k : Nat) : Bool := match p.fn[f]?, p.T.fns[f]? with
  | some D, some fs => decide (D.at_ = (n, none)) && dflOk D fs && decide ((f, k) ∈ p.cb)
  | _, _ => false
def blt1 (p : Pg) (g : Sc) (n m : Str) : Bool := decide (n = m) && g.gl m && decide (m ∈ p.fre)
mutual
def ckE (p : Pg) : Ex → Sc → Expr → Bool
  | .var i, g, .Name n _ => g.vis i n
  | .cst w, _, .Constant c _ _ => cstB w c
  | .glo i, g, .Name n _ => g.gl n && decide (p.gn[i]? = some n)
  | .bin o a b, g, .BinOp x op y _ => bopOk o op && ckE p a g x && ckE p b g y
  | .neg a, g, .UnaryOp .USub x _ => ckE p a g x
  | .nt a, g, .UnaryOp .Not x _ => ckE p a g x
  | .and a b, g, .BoolOp .And [x, y] _ => ckE p a g x && ckE p b g y
  | .and a b, g, .BoolOp .And (x :: y :: z :: r) pos => ckE p a g x && ckE p b g (.BoolOp .And (y :: z :: r) pos)
  | .or a b, g, .BoolOp .Or [x, y] _ => ckE p a g x && ckE p b g y
  | .or a b, g, .BoolOp .Or (x :: y :: z :: r) pos => ckE p a g x && ckE p b g (.BoolOp .Or (y :: z :: r) pos)
  | .ite c a b, g, .IfExp t x y _ => tok c t && ckE p c g t && ckE p a g x && ckE p b g y
  | .cmp o a b, g, .Compare x [op] [y] _ => copOk o op && !(behindInMarks op y) && ckE p a g x && ckE p b g y
  | .chn o o' a b c, g, .Compare x [op, op'] [y, z] _ => copOk o op && copOk o' op' && !(lastMarks [op, op'] [y, z]) && ckE p a g x && ckE p b g y && ckE p c g z
  | .call f as, g, .Call (.Name n _) es [] _ => g.gl n && ckCall p f n as.length && es.all nst && ckEs p as g es
  | .blt b as, g, .Call (.Name n _) (e :: es) [] _ => bltOk b n && g.gl n && decide (n ∈ p.fre) && (e :: es).all nst && ckEs p as g (e :: es)
  | .bm b o as, g, .Call (.Attribute x m apos) [e] [] pos => decide (b = .append) && decide (m = "append") && nab x && (apos.endLine == pos.line) && nst e && ckE p o g x && ckEs p as g [e]
  | .isi a ts, g, .Call (.Name n _) [x, c] [] _ => blt1 p g n "isinstance" && nst x && ckE p a g x && (match ts, c with
    | [t], .Name m _ => tyNm t m && g.gl m && decide (m ∈ p.fre)
    | ts, .Tuple es _ _ => !ts.isEmpty && decide (es.length ≤ 100) && tyNms p.fre g ts es
    | _, _ => false)
  | .idx a i, g, .Subscript x y _ => nsl y && ckE p a g x && ckE p i g y
  | .sl a lo hi, g, .Subscript x (.Slice l h none _) _ => ckE p a g x && (match l with | none => isOmit lo | some e => !(isOmit lo) && ckE p lo g e) && (match h with | none => isOmit hi | some e => !(isOmit hi) && ckE p hi g e)
  | .tup es, g, .Tuple xs _ _ => ckEs p es g xs
  | .fz f, g, e => ckF p f g e
  | .ow f, g, e => ckF p f g e
  | _, _, _ => false
def ckEs (p : Pg) : List Ex → Sc → List Expr → Bool
  | [], _, [] => true
  | e :: es, g, x :: xs => nst x && ckE p e g x && ckEs p es g xs
  | _, _, _ => false
def ckF (p : Pg) : Fx → Sc → Expr → Bool
  | .dis es, g, .List xs _ => ckEs p es g xs
  | .cop a, g, .Call (.Name n _) [x] [] _ => blt1 p g n "list" && nst x && ckE p a g x
  | .cat a b, g, .BinOp x .Add y _ => ckE p a g x && ckE p b g y
  | .slc a lo hi, g, .Subscript x (.Slice l h none _) _ => ckE p a g x && (match l with | none => isOmit lo | some e => !(isOmit lo) && ckE p lo g e) && (match h with | none => isOmit hi | some e => !(isOmit hi) && ckE p hi g e)
  | .lcp own t i c e, g, .ListComp elt gs scope _ => (match gs with
    | [k] => decide (k.is_async = 0) && (blkC g.N g.sc scope (own.map fun i => (g.N.getD i Str.empty, i)) && (tgIx t).all (fun i => decide (i ∈ own)) && nse k.iter && ckI p i g k.target k.iter && ckT (g.blk scope) t k.target &&
      (match k.ifs with | [] => isYes c | [x] => tok c x && ckE p c (g.blk scope) x | _ => false) && ckE p e (g.blk scope) elt)
    | _ => false)
  | _, _, _ => false
def ckI (p : Pg) : Ik → Sc → Expr → Expr → Bool
  | .ex e, g, _, x => nse x && ckE p e g x
  | .r1 e, g, _, .Call (.Name n _) [x] [] _ => blt1 p g n "range" && nst x && ckE p e g x
  | .r2 a b, g, _, .Call (.Name n _) [x, y] [] _ => blt1 p g n "range" && nst x && nst y && ckE p a g x && ckE p b g y
  | .en e, g, .Tuple _ _ _, .Call (.Name n _) [x] [] _ => blt1 p g n "enumerate" && nst x && ckE p e g x
  | .zp a b, g, .Tuple _ _ _, .Call (.Name n _) [x, y] [] _ => blt1 p g n "zip" && nst x && nst y && ckE p a g x && ckE p b g y
  | _, _, _, _ => false
end
end Ip
/-! Ip16: what the check of an expression gives. -/
namespace Ip
open PySem L2 PySem.Spec PyProof.Rows
/-- the calls of the defs, in any context at depth d -/
def Rn (p : Pg) (B : Bs) (d : Nat) (cf : CF) : Prop := ∀ (g : Sc) (X : Cx) (W' : WX), Gd B d g X → L2.Takes X W' → ∀ (i n : Nat) (D : He.DefD) (fs : Fn), p.fn[i]? = some D → p.T.fns[i]? = some fs → dflOk D fs = true → (i, n) ∈ p.cb → RunOk B W' X cf i n
theorem takesF {X : Cx} : L2.Takes X WF := fun _ _ ⟨_, _, _, _, _, _, _, _, _, _, _, _, _, _, _, _, w⟩ => w.elim
section
variable {p : Pg} {B : Bs} {fd : Nat → FuncData} {d : Nat} {cf : CF}
theorem blt_at (Fp : Fs p B fd) {g : Sc} {X : Cx} {n m : Str} (h : Gd B d g X) (q : blt1 p g n m = true) : n = m ∧ g.gl m = true ∧ Gl X m ∧ B.mg m = none ∧ X.mg m = none := by
  simp only [blt1, Bool.and_eq_true, decide_eq_true_eq] at q
  obtain ⟨⟨q1, q2⟩, q3⟩ := q
  exact ⟨q1, q2, (h.gl q2).1, Fp.fre m q3, by rw [h.mg]; exact Fp.fre m q3⟩
theorem evs_len (T : Tab) (cf : CF) : ∀ (es : List Ex) (r : En) (st : Sto) (ws : List W) (st' : Sto), evs T cf es r st = .ok ws st' → ws.length = es.length
  | [], r, st, ws, st', h => by cases (show RR.ok [] st = .ok ws st' from h); rfl
  | e :: es, r, st, ws, st', h => by
    obtain ⟨x, s1, _, h⟩ := ok_bnd h
    obtain ⟨xs, s2, h2, h⟩ := ok_bnd h
    have := evs_len T cf es r s1 xs s2 h2
    cases (show RR.ok (x :: xs) s2 = .ok ws st' from h)
    rw [List.length_cons, this, List.length_cons]
/-- a comprehension's parts, by what its own parts give -/
theorem sL (Fp : Fs p B fd) (own : List Nat) (t : Tg) (i : Ik) (c e : Ex) (SI : ∀ {g : Sc} {X : Cx} {W' : WX} {tg pe : Expr}, Gd B d g X → L2.Takes X W' → ckI p i g tg pe = true → PI X tg pe (tIk B W' fun r => evI B.T cf i r))
    (SC : ∀ {g : Sc} {X : Cx} {W' : WX} {pe : Expr}, Gd B d g X → L2.Takes X W' → ckE p c g pe = true → PE X pe (tE B W' fun r => ev B.T cf c r) ∧ (tok c pe = true → PT X pe (tT B W' fun r => (ev B.T cf c r).bnd M.truth)))
    (SE : ∀ {g : Sc} {X : Cx} {W' : WX} {pe : Expr}, Gd B d g X → L2.Takes X W' → ckE p e g pe = true → PE X pe (tE B W' fun r => ev B.T cf e r) ∧ (tok e pe = true → PT X pe (tT B W' fun r => (ev B.T cf e r).bnd M.truth)))
    {g : Sc} {X : Cx} {W' : WX} {elt tg iter : Expr} {ifs : List Expr} {scope : Scope} {pos : Pos} (h : Gd B d g X) (tk : L2.Takes X W') (q : ckF p (.lcp own t i c e) g (.ListComp elt [⟨tg, iter, ifs, 0⟩] scope pos) = true) :
    LcP B W' X g elt tg iter ifs scope own t (fun r => evI B.T cf i r) (fun r => (ev B.T cf c r).bnd M.truth) (fun r => ev B.T cf e r) := by
  simp only [ckF, Bool.and_eq_true] at q
  obtain ⟨_, ⟨⟨⟨⟨⟨q1, q2⟩, q3⟩, q4⟩, q5⟩, q6⟩, q7⟩ := q
  refine ⟨SI h tk q4, ⟨own.map fun i => (g.N.getD i Str.empty, i), ?_, by rw [h.N, h.sc]; exact blkOk_by q1⟩, fun s H C cl fp => pg_of (h.blk s H scope C cl fp) q5, fun s H C cl fp => ?_, fun s H C cl fp => (SE (h.blk s H scope C cl fp) takesF q7).1, se_no q3, fun j hj => ?_⟩
  · rw [List.map_map]
    exact List.map_id' own
  · have hb := h.blk s H scope C cl fp
    match ifs, q6 with
    | [], q6 =>
      have q6' : isYes c = true := q6
      have hc : c = .cst (.bl true) := by
        clear q6
        cases c <;> first | exact (Bool.false_ne_true q6').elim | skip
        rename_i w
        cases w <;> first | exact (Bool.false_ne_true q6').elim | skip
        rename_i b
        cases b <;> first | exact (Bool.false_ne_true q6').elim | rfl
      subst hc
      exact ⟨fun pins s σ H Q I ⟨G, r, st, sr, er, hw⟩ => pts_nil.run pins s σ H Q I (Aft.now (rel := rB) hw sr rfl)⟩
    | [x], q6 =>
      simp only [Bool.and_eq_true] at q6
      exact pts_one ((SC hb takesF q6.2).2 q6.1)
    | _ :: _ :: _, q6 => exact (Bool.false_ne_true q6).elim
  · exact of_decide_eq_true (List.all_eq_true.mp q2 j hj)
mutual
theorem sE (Fp : Fs p B fd) (R : Rn p B d cf) : ∀ (e : Ex) {g : Sc} {X : Cx} {W' : WX} {pe : Expr}, Gd B d g X → L2.Takes X W' → ckE p e g pe = true →
    PE X pe (tE B W' fun r => ev B.T cf e r) ∧ (tok e pe = true → PT X pe (tT B W' fun r => (ev B.T cf e r).bnd M.truth))
  | .var i, g, X, W', pe, h, tk, q => by
    cases pe <;> first | exact (Bool.false_ne_true q).elim | skip
    rename_i n pos
    have z := x_var (W' := W') (pos := pos) h (show g.vis i n = true from q)
    exact ⟨z, fun t => y_truth h t z⟩
  | .cst w, g, X, W', pe, h, tk, q => by
    cases pe <;> first | exact (Bool.false_ne_true q).elim | skip
    rename_i c k pos
    have z := x_cst (B := B) (W' := W') (X := X) (k := k) (pos := pos) (show cstB w c = true from q)
    exact ⟨z, fun t => y_truth h t z⟩
  | .glo i, g, X, W', pe, h, tk, q => by
    cases pe <;> first | exact (Bool.false_ne_true q).elim | skip
    simp only [ckE, Bool.and_eq_true, decide_eq_true_eq] at q
    have z := x_glo (W' := W') (pos := by assumption) Fp h q.1 q.2
    exact ⟨z, fun t => y_truth h t z⟩
  | .omit, g, X, W', pe, h, tk, q => by cases pe <;> exact (Bool.false_ne_true q).elim
  | .bin o a b, g, X, W', pe, h, tk, q => by
    cases pe <;> first | exact (Bool.false_ne_true q).elim | skip
    simp only [ckE, Bool.and_eq_true] at q
    obtain ⟨⟨q1, q2⟩, q3⟩ := q
    have z := x_bin (pos := by assumption) h q1 (sE Fp R a h tk q2).1 (sE Fp R b h tk q3).1
    exact ⟨z, fun t => y_truth h t z⟩
  | .neg a, g, X, W', pe, h, tk, q => by
    cases pe <;> first | exact (Bool.false_ne_true q).elim | skip
    rename_i op x pos
    cases op <;> first | exact (Bool.false_ne_true q).elim | skip
    simp only [ckE] at q
    have z := x_neg (pos := pos) (sE Fp R a h tk q).1
    exact ⟨z, fun t => y_truth h t z⟩
  | .nt a, g, X, W', pe, h, tk, q => by
    cases pe <;> first | exact (Bool.false_ne_true q).elim | skip
    rename_i op x pos
    cases op <;> first | exact (Bool.false_ne_true q).elim | skip
    simp only [ckE] at q
    obtain ⟨z1, z2⟩ := sE Fp R a h tk q
    exact ⟨x_not h z1, fun t => y_not (z2 (by simpa [tok] using t))⟩
  | .and a b, g, X, W', pe, h, tk, q => by
    cases pe <;> first | exact (Bool.false_ne_true q).elim | skip
    rename_i op es pos
    cases op <;> first | exact (Bool.false_ne_true q).elim | skip
    match es, q with
    | [x, y], q =>
      simp only [ckE, Bool.and_eq_true] at q
      obtain ⟨a1, a2⟩ := sE Fp R a h tk q.1
      obtain ⟨b1, b2⟩ := sE Fp R b h tk q.2
      refine ⟨x_and h a1 (pe_one b1), fun t => ?_⟩
      simp only [tok, Bool.and_eq_true] at t
      exact y_and (a2 t.1) (pw_and1 (b2 t.2))
    | x :: y :: z :: r, q =>
      simp only [ckE, Bool.and_eq_true] at q
      obtain ⟨a1, a2⟩ := sE Fp R a h tk q.1
      obtain ⟨b1, b2⟩ := sE Fp R b h tk q.2
      refine ⟨x_and h a1 b1, fun t => ?_⟩
      simp only [tok, Bool.and_eq_true] at t
      exact y_and (a2 t.1) (y_whole (b2 t.2))
    | [], q => exact (Bool.false_ne_true q).elim
    | [_], q => exact (Bool.false_ne_true q).elim
  | .or a b, g, X, W', pe, h, tk, q => by
    cases pe <;> first | exact (Bool.false_ne_true q).elim | skip
    rename_i op es pos
    cases op <;> first | exact (Bool.false_ne_true q).elim | skip
    match es, q with
    | [x, y], q =>
      simp only [ckE, Bool.and_eq_true] at q
      obtain ⟨a1, a2⟩ := sE Fp R a h tk q.1
      obtain ⟨b1, b2⟩ := sE Fp R b h tk q.2
      refine ⟨x_or h a1 (pe_one b1), fun t => ?_⟩
      simp only [tok, Bool.and_eq_true] at t
      exact y_or (a2 t.1) (pw_or1 (b2 t.2))
    | x :: y :: z :: r, q =>
      simp only [ckE, Bool.and_eq_true] at q
      obtain ⟨a1, a2⟩ := sE Fp R a h tk q.1
      obtain ⟨b1, b2⟩ := sE Fp R b h tk q.2
      refine ⟨x_or h a1 b1, fun t => ?_⟩
      simp only [tok, Bool.and_eq_true] at t
      exact y_or (a2 t.1) (y_whole (b2 t.2))
    | [], q => exact (Bool.false_ne_true q).elim
    | [_], q => exact (Bool.false_ne_true q).elim
  | .ite c a b, g, X, W', pe, h, tk, q => by
    cases pe <;> first | exact (Bool.false_ne_true q).elim | skip
    simp only [ckE, Bool.and_eq_true] at q
    obtain ⟨⟨⟨q1, q2⟩, q3⟩, q4⟩ := q
    have z := x_ite (pos := by assumption) ((sE Fp R c h tk q2).2 q1) (sE Fp R a h tk q3).1 (sE Fp R b h tk q4).1
    refine ⟨wkE z fun σ H Q hw => ?_, fun t => by simp [tok, ntr] at t⟩
    obtain ⟨G, r, st, sr, er, hw⟩ := hw
    refine ⟨G, r, st, sr, er, ?_⟩
    show Aft B W' (rV B) G H r σ ((((ev B.T cf c r).bnd M.truth).bnd fun k => if k = true then ev B.T cf a r else ev B.T cf b r) st) Q
    rw [M.assoc]
    exact hw
  | .cmp o a b, g, X, W', pe, h, tk, q => by
    cases pe <;> first | exact (Bool.false_ne_true q).elim | skip
    rename_i x ops cs pos
    match ops, cs, q with
    | [op], [y], q =>
      simp only [ckE, Bool.and_eq_true, Bool.not_eq_true'] at q
      obtain ⟨⟨⟨q1, q2⟩, q3⟩, q4⟩ := q
      have z1 := (sE Fp R a h tk q3).1
      have z2 := (sE Fp R b h tk q4).1
      exact ⟨x_cmp h q1 q2 z1 z2, fun _ => y_cmp h q1 q2 z1 z2⟩
    | [], _, q => exact (Bool.false_ne_true q).elim
    | _ :: _ :: _, _, q => exact (Bool.false_ne_true q).elim
    | [_], [], q => exact (Bool.false_ne_true q).elim
    | [_], _ :: _ :: _, q => exact (Bool.false_ne_true q).elim
  | .chn o o' a b c, g, X, W', pe, h, tk, q => by
    cases pe <;> first | exact (Bool.false_ne_true q).elim | skip
    rename_i x ops cs pos
    match ops, cs, q with
    | [op, op'], [y, z], q =>
      simp only [ckE, Bool.and_eq_true, Bool.not_eq_true'] at q
      obtain ⟨⟨⟨⟨⟨q1, q2⟩, q3⟩, q4⟩, q5⟩, q6⟩ := q
      have z1 := (sE Fp R a h tk q4).1
      have z2 := (sE Fp R b h tk q5).1
      have z3 := (sE Fp R c h tk q6).1
      exact ⟨x_chn h q1 q2 q3 z1 z2 z3, fun _ => y_chn h q1 q2 q3 z1 z2 z3⟩
    | [], _, q => exact (Bool.false_ne_true q).elim
    | [_], _, q => exact (Bool.false_ne_true q).elim
    | _ :: _ :: _ :: _, _, q => exact (Bool.false_ne_true q).elim
    | [_, _], [], q => exact (Bool.false_ne_true q).elim
    | [_, _], [_], q => exact (Bool.false_ne_true q).elim
    | [_, _], _ :: _ :: _ :: _, q => exact (Bool.false_ne_true q).elim
  | .call f as, g, X, W', pe, h, tk, q => by
    cases pe <;> first | exact (Bool.false_ne_true q).elim | skip
    rename_i fn es ks pos
    cases fn <;> cases ks <;> first | exact (Bool.false_ne_true q).elim | skip
    rename_i n pp
    simp only [ckE, Bool.and_eq_true] at q
    obtain ⟨⟨⟨q1, q2⟩, q3⟩, q4⟩ := q
    unfold ckCall at q2
    split at q2
    · rename_i D fs hD hf
      simp only [Bool.and_eq_true, decide_eq_true_eq] at q2
      obtain ⟨⟨q5, q6⟩, q7⟩ := q2
      have hm : B.mg n = some (.ref (B.fa f)) := by
        have := Fp.mgF f D hD (by rw [q5])
        rw [q5] at this
        exact this
      have run := R g X W' h tk f as.length D fs hD hf q6 q7
      have kp : PySem.W.keepIn X.K (.ref (B.fa f)) = true := by rw [h.K]; exact (Fp.fun_ f D hD).kp
      have ha := sEs Fp R as h tk q4
      have z : PE X (.Call (.Name n pp) es [] pos) (tE B W' fun r => ev B.T cf (.call f as) r) := by
        cases es with
        | cons e es => exact pe_cl h run q1 (by rw [h.mg]; exact hm) kp ha q3 (evs_len B.T cf as)
        | nil =>
          cases as with
          | nil => exact pe_cl0 h run q1 (by rw [h.mg]; exact hm) kp
          | cons _ _ => simp [ckEs] at q4
      exact ⟨z, fun t => y_truth h t z⟩
    · cases q2
  | .new _ _, g, X, W', pe, h, tk, q => by cases pe <;> exact (Bool.false_ne_true q).elim
  | .meth _ _ _, g, X, W', pe, h, tk, q => by cases pe <;> exact (Bool.false_ne_true q).elim
  | .att _ _, g, X, W', pe, h, tk, q => by cases pe <;> exact (Bool.false_ne_true q).elim
  | .blt b as, g, X, W', pe, h, tk, q => by
    cases pe <;> first | exact (Bool.false_ne_true q).elim | skip
    rename_i fn es ks pos
    cases fn <;> cases es <;> cases ks <;> first | exact (Bool.false_ne_true q).elim | skip
    rename_i n pp e es
    simp only [ckE, Bool.and_eq_true, decide_eq_true_eq] at q
    obtain ⟨⟨⟨⟨q1, q2⟩, q3⟩, q4⟩, q5⟩ := q
    have z := x_blt (pos := pos) (p := pp) h q1 q2 (Fp.fre _ q3) q4 (sEs Fp R as h tk q5)
    exact ⟨z, fun t => y_truth h t z⟩
  | .bm b o as, g, X, W', pe, h, tk, q => by
    cases pe <;> first | exact (Bool.false_ne_true q).elim | skip
    rename_i fn es ks pos
    cases fn <;> first | exact (Bool.false_ne_true q).elim | skip
    rename_i x m apos
    match es, ks, q with
    | [e], [], q =>
      simp only [ckE, Bool.and_eq_true, decide_eq_true_eq] at q
      obtain ⟨⟨⟨⟨⟨⟨q1, q2⟩, q3⟩, q4⟩, q5⟩, q6⟩, q7⟩ := q
      subst q1 q2
      have z := x_app (pos := pos) h q3 q4 q5 (sE Fp R o h tk q6).1 (sEs Fp R as h tk q7)
      exact ⟨z, fun t => y_truth h t z⟩
    | [], _, q => exact (Bool.false_ne_true q).elim
    | [_], _ :: _, q => exact (Bool.false_ne_true q).elim
    | _ :: _ :: _, _, q => exact (Bool.false_ne_true q).elim
  | .isi a ts, g, X, W', pe, h, tk, q => by
    cases pe <;> first | exact (Bool.false_ne_true q).elim | skip
    rename_i fn es ks pos
    cases fn <;> first | exact (Bool.false_ne_true q).elim | skip
    rename_i n pp
    match es, ks, q with
    | [x, c], [], q =>
      simp only [ckE, Bool.and_eq_true] at q
      obtain ⟨⟨⟨q1, q2⟩, q3⟩, q4⟩ := q
      obtain ⟨rfl, g1, _, g3, _⟩ := blt_at Fp h q1
      have z1 := (sE Fp R a h tk q3).1
      have z : PE X (.Call (.Name "isinstance" pp) [x, c] [] pos) (tE B W' fun r => ev B.T cf (.isi a ts) r) := by
        split at q4
        · simp only [Bool.and_eq_true, decide_eq_true_eq] at q4
          exact x_is1 h g1 g3 q4.1.1 q4.1.2 (Fp.fre _ q4.2) q2 z1
        · simp only [Bool.and_eq_true, decide_eq_true_eq, Bool.not_eq_true'] at q4
          exact x_isn h Fp.fre g1 g3 q4.2 (by intro e; rw [e] at q4; simp at q4) q4.1.2 q2 z1
        · cases q4
      exact ⟨z, fun t => y_truth h t z⟩
    | [], _, q => exact (Bool.false_ne_true q).elim
    | [_], _, q => exact (Bool.false_ne_true q).elim
    | [_, _], _ :: _, q => exact (Bool.false_ne_true q).elim
    | _ :: _ :: _ :: _, _, q => exact (Bool.false_ne_true q).elim
  | .idx a i, g, X, W', pe, h, tk, q => by
    cases pe <;> first | exact (Bool.false_ne_true q).elim | skip
    simp only [ckE, Bool.and_eq_true] at q
    obtain ⟨⟨q1, q2⟩, q3⟩ := q
    have z := x_idx (pos := by assumption) h q1 (sE Fp R a h tk q2).1 (sE Fp R i h tk q3).1
    exact ⟨z, fun t => y_truth h t z⟩
  | .sl a lo hi, g, X, W', pe, h, tk, q => by
    cases pe <;> first | exact (Bool.false_ne_true q).elim | skip
    rename_i x s pos
    cases s <;> first | exact (Bool.false_ne_true q).elim | skip
    rename_i l u st pp
    cases st <;> first | exact (Bool.false_ne_true q).elim | skip
    simp only [ckE, Bool.and_eq_true] at q
    obtain ⟨⟨q1, q2⟩, q3⟩ := q
    have z := x_sl (pos := pos) (p2 := pp) h (sE Fp R a h tk q1).1 (lo := l) (hi := u) (ml := fun r => (ev B.T cf lo r).bnd fun w => M.opt (prt lo w)) (mh := fun r => (ev B.T cf hi r).bnd fun w => M.opt (prt hi w))
      (by
        cases l with
        | none => exact x_pn (by cases lo <;> first | rfl | cases q2) (fun r => by cases lo <;> first | rfl | cases q2)
        | some e =>
          simp only [Bool.and_eq_true, Bool.not_eq_true'] at q2
          exact x_ps (by cases lo <;> first | rfl | cases q2.1) (sE Fp R lo h tk q2.2).1)
      (by
        cases u with
        | none => exact x_pn (by cases hi <;> first | rfl | cases q3) (fun r => by cases hi <;> first | rfl | cases q3)
        | some e =>
          simp only [Bool.and_eq_true, Bool.not_eq_true'] at q3
          exact x_ps (by cases hi <;> first | rfl | cases q3.1) (sE Fp R hi h tk q3.2).1)
    exact ⟨z, fun t => y_truth h t z⟩
  | .tup es, g, X, W', pe, h, tk, q => by
    cases pe <;> first | exact (Bool.false_ne_true q).elim | skip
    simp only [ckE] at q
    have z := x_tup (pos := by assumption) (k := by assumption) (sEs Fp R es h tk q)
    exact ⟨z, fun t => y_truth h t z⟩
  | .fz f, g, X, W', pe, h, tk, q => by
    have q' : ckF p f g pe = true := by cases pe <;> simpa [ckE] using q
    have z := x_fz (sF Fp R f h tk q')
    exact ⟨z, fun t => y_truth h (by cases pe <;> simpa [tok] using t) z⟩
  | .ow f, g, X, W', pe, h, tk, q => by
    have q' : ckF p f g pe = true := by cases pe <;> simpa [ckE] using q
    have z := x_ow (sF Fp R f h tk q')
    exact ⟨z, fun t => y_truth h (by cases pe <;> simpa [tok] using t) z⟩
  | .frz a, g, X, W', pe, h, tk, q => by cases pe <;> exact (Bool.false_ne_true q).elim
theorem sEs (Fp : Fs p B fd) (R : Rn p B d cf) : ∀ (as : List Ex) {g : Sc} {X : Cx} {W' : WX} {es : List Expr}, Gd B d g X → L2.Takes X W' → ckEs p as g es = true → PA X es (tAr B W' fun r => evs B.T cf as r)
  | [], g, X, W', [], h, tk, q => x_nil
  | [], g, X, W', _ :: _, h, tk, q => (Bool.false_ne_true q).elim
  | a :: as, g, X, W', [], h, tk, q => (Bool.false_ne_true q).elim
  | a :: as, g, X, W', e :: es, h, tk, q => by
    simp only [ckEs, Bool.and_eq_true] at q
    obtain ⟨⟨q1, q2⟩, q3⟩ := q
    exact x_cons q1 (sE Fp R a h tk q2).1 (sEs Fp R as h tk q3)
theorem sF (Fp : Fs p B fd) (R : Rn p B d cf) : ∀ (f : Fx) {g : Sc} {X : Cx} {W' : WX} {pe : Expr}, Gd B d g X → L2.Takes X W' → ckF p f g pe = true → PE X pe (tFr B W' fun r => evF B.T cf f r)
  | .dis es, g, X, W', pe, h, tk, q => by
    cases pe <;> first | exact (Bool.false_ne_true q).elim | skip
    simp only [ckF] at q
    exact x_dis (sEs Fp R es h tk q)
  | .cop a, g, X, W', pe, h, tk, q => by
    cases pe <;> first | exact (Bool.false_ne_true q).elim | skip
    rename_i fn es ks pos
    cases fn <;> first | exact (Bool.false_ne_true q).elim | skip
    rename_i n pp
    match es, ks, q with
    | [x], [], q =>
      simp only [ckF, Bool.and_eq_true] at q
      obtain ⟨⟨q1, q2⟩, q3⟩ := q
      obtain ⟨rfl, _, g2, _, g4⟩ := blt_at Fp h q1
      exact x_cop h g2 g4 q2 (sE Fp R a h tk q3).1
    | [], _, q => exact (Bool.false_ne_true q).elim
    | [_], _ :: _, q => exact (Bool.false_ne_true q).elim
    | _ :: _ :: _, _, q => exact (Bool.false_ne_true q).elim
  | .cat a b, g, X, W', pe, h, tk, q => by
    cases pe <;> first | exact (Bool.false_ne_true q).elim | skip
    rename_i x op y pos
    cases op <;> first | exact (Bool.false_ne_true q).elim | skip
    simp only [ckF, Bool.and_eq_true] at q
    exact x_cat h (sE Fp R a h tk q.1).1 (sE Fp R b h tk q.2).1
  | .slc a lo hi, g, X, W', pe, h, tk, q => by
    cases pe <;> first | exact (Bool.false_ne_true q).elim | skip
    rename_i x s pos
    cases s <;> first | exact (Bool.false_ne_true q).elim | skip
    rename_i l u st pp
    cases st <;> first | exact (Bool.false_ne_true q).elim | skip
    simp only [ckF, Bool.and_eq_true] at q
    obtain ⟨⟨q1, q2⟩, q3⟩ := q
    exact x_slc (pos := pos) (p2 := pp) h (sE Fp R a h tk q1).1 (lo := l) (hi := u) (ml := fun r => (ev B.T cf lo r).bnd fun w => M.opt (prt lo w)) (mh := fun r => (ev B.T cf hi r).bnd fun w => M.opt (prt hi w))
      (by
        cases l with
        | none => exact x_pn (by cases lo <;> first | rfl | cases q2) (fun r => by cases lo <;> first | rfl | cases q2)
        | some e =>
          simp only [Bool.and_eq_true, Bool.not_eq_true'] at q2
          exact x_ps (by cases lo <;> first | rfl | cases q2.1) (sE Fp R lo h tk q2.2).1)
      (by
        cases u with
        | none => exact x_pn (by cases hi <;> first | rfl | cases q3) (fun r => by cases hi <;> first | rfl | cases q3)
        | some e =>
          simp only [Bool.and_eq_true, Bool.not_eq_true'] at q3
          exact x_ps (by cases hi <;> first | rfl | cases q3.1) (sE Fp R hi h tk q3.2).1)
  | .lcp own t i c e, g, X, W', pe, h, tk, q => by
    cases pe <;> first | exact (Bool.false_ne_true q).elim | skip
    rename_i elt gs scope pos
    match gs, q with
    | [⟨tg, iter, ifs, n⟩], q =>
      have hn : n = 0 := by
        have q2 := q
        simp only [ckF, Bool.and_eq_true, decide_eq_true_eq] at q2
        exact q2.1
      subst hn
      exact x_lcp h (sL Fp own t i c e (sI Fp R i) (sE Fp R c) (sE Fp R e) h tk q)
    | [], q => exact (Bool.false_ne_true q).elim
    | _ :: _ :: _, q => exact (Bool.false_ne_true q).elim
  | .srt _, g, X, W', pe, h, tk, q => by cases pe <;> exact (Bool.false_ne_true q).elim
  | .cod _, g, X, W', pe, h, tk, q => by cases pe <;> exact (Bool.false_ne_true q).elim
theorem sI (Fp : Fs p B fd) (R : Rn p B d cf) : ∀ (i : Ik) {g : Sc} {X : Cx} {W' : WX} {tg pe : Expr}, Gd B d g X → L2.Takes X W' → ckI p i g tg pe = true → PI X tg pe (tIk B W' fun r => evI B.T cf i r)
  | .ex e, g, X, W', tg, pe, h, tk, q => by
    have q' : nse pe = true ∧ ckE p e g pe = true := by cases pe <;> simpa [ckI] using q
    exact pi_ex h.K (sE Fp R e h tk q'.2).1
  | .r1 e, g, X, W', tg, pe, h, tk, q => by
    cases pe <;> first | exact (Bool.false_ne_true q).elim | skip
    rename_i fn es ks pos
    cases fn <;> first | exact (Bool.false_ne_true q).elim | skip
    match es, ks, q with
    | [x], [], q =>
      simp only [ckI, Bool.and_eq_true] at q
      obtain ⟨⟨q1, q2⟩, q3⟩ := q
      obtain ⟨rfl, _, g2, _, g4⟩ := blt_at Fp h q1
      exact pi_r1 g2 g4 (star_cons q2) (sE Fp R e h tk q3).1
    | [], _, q => exact (Bool.false_ne_true q).elim
    | [_], _ :: _, q => exact (Bool.false_ne_true q).elim
    | _ :: _ :: _, _, q => exact (Bool.false_ne_true q).elim
  | .r2 a b, g, X, W', tg, pe, h, tk, q => by
    cases pe <;> first | exact (Bool.false_ne_true q).elim | skip
    rename_i fn es ks pos
    cases fn <;> first | exact (Bool.false_ne_true q).elim | skip
    match es, ks, q with
    | [x, y], [], q =>
      simp only [ckI, Bool.and_eq_true] at q
      obtain ⟨⟨⟨⟨q1, q2⟩, q3⟩, q4⟩, q5⟩ := q
      obtain ⟨rfl, _, g2, _, g4⟩ := blt_at Fp h q1
      exact pi_r2 g2 g4 (by rw [star_cons q2, star_cons q3]; rfl) (star_cons q3) (sE Fp R a h tk q4).1 (sE Fp R b h tk q5).1
    | [], _, q => exact (Bool.false_ne_true q).elim
    | [_], _, q => exact (Bool.false_ne_true q).elim
    | [_, _], _ :: _, q => exact (Bool.false_ne_true q).elim
    | _ :: _ :: _ :: _, _, q => exact (Bool.false_ne_true q).elim
  | .en e, g, X, W', tg, pe, h, tk, q => by
    cases tg <;> first | exact (Bool.false_ne_true q).elim | skip
    cases pe <;> first | exact (Bool.false_ne_true q).elim | skip
    rename_i fn es ks pos
    cases fn <;> first | exact (Bool.false_ne_true q).elim | skip
    match es, ks, q with
    | [x], [], q =>
      simp only [ckI, Bool.and_eq_true] at q
      obtain ⟨⟨q1, q2⟩, q3⟩ := q
      obtain ⟨rfl, _, g2, _, g4⟩ := blt_at Fp h q1
      exact pi_en h.K g2 g4 (star_cons q2) (sE Fp R e h tk q3).1
    | [], _, q => exact (Bool.false_ne_true q).elim
    | [_], _ :: _, q => exact (Bool.false_ne_true q).elim
    | _ :: _ :: _, _, q => exact (Bool.false_ne_true q).elim
  | .zp a b, g, X, W', tg, pe, h, tk, q => by
    cases tg <;> first | exact (Bool.false_ne_true q).elim | skip
    cases pe <;> first | exact (Bool.false_ne_true q).elim | skip
    rename_i fn es ks pos
    cases fn <;> first | exact (Bool.false_ne_true q).elim | skip
    match es, ks, q with
    | [x, y], [], q =>
      simp only [ckI, Bool.and_eq_true] at q
      obtain ⟨⟨⟨⟨q1, q2⟩, q3⟩, q4⟩, q5⟩ := q
      obtain ⟨rfl, _, g2, _, g4⟩ := blt_at Fp h q1
      exact pi_zp h.K g2 g4 (star_cons q2) (star_cons q3) (sE Fp R a h tk q4).1 (sE Fp R b h tk q5).1
    | [], _, q => exact (Bool.false_ne_true q).elim
    | [_], _, q => exact (Bool.false_ne_true q).elim
    | [_, _], _ :: _, q => exact (Bool.false_ne_true q).elim
    | _ :: _ :: _ :: _, _, q => exact (Bool.false_ne_true q).elim
end
end
end Ip
/-! Ip17: statements; the defs; the law's end. -/
namespace Ip
open PySem L2 PySem.Spec PyProof.Rows
def isFun : ScopeKind → Bool
  | .function => true
  | _ => false
def ntp : Expr → Bool
  | .Tuple .. => false
  | _ => true
theorem sws_no {t e : Expr} {l : Nat} {env : Env} (h : nlc e = true) : swapsWithSole [t] e l env = pure false := sw_no h
theorem swp_no {t e : Expr} {env : Env} (h : ntp e = true) : swappedStores [t] e env = pure none := by
  cases t <;> cases e <;> first | rfl | cases h
theorem swp_tg {t e : Expr} {env : Env} (h : (match t with | .Tuple .. => false | .List .. => false | _ => true) = true) : swappedStores [t] e env = pure none := by
  cases t <;> first | rfl | cases h
theorem as_sub {o i : Expr} {pos : Pos} {env : Env} (h : nsl i = true) : ∀ v, assign (.Subscript o i pos) env v = (do
      let ov ← holding [v] (eval o env)
      let iv ← holding [v, ov] (eval i env)
      standAt pos
      holding [v, ov, iv] (setItem ov iv v)
      release [v, ov, iv] []) := by
  intro v
  cases i <;> first | rfl | cases h
def lcOf : Ex → Option Fx
  | .fz (.lcp o t i c e) => some (.lcp o t i c e)
  | .ow (.lcp o t i c e) => some (.lcp o t i c e)
  | _ => none
mutual
def ckS (p : Pg) : Stm → Sc → Stmt → Bool
  | .set i e, g, .Assign [.Name n py] v pos => g.loc i n && (if nlc v then ckE p e g v else (match lcOf e, v with
    | some f, .ListComp elt gs scope vpos => decide (g.sc.names.lookup n = some .local) && isFun g.sc.kind && (py.line == vpos.line) && !(scope.names.any fun (m, k) => m == n && (k == .local || k == .cell)) && ckF p f g v
    | _, _ => false))
  | .unp t e, g, .Assign [tg] v pos => ckT g t tg && nlc v && ntp v && ckE p e g v
  | .seti o i e, g, .Assign [.Subscript x y _] v pos => nsl y && nlc v && ckE p e g v && ckE p o g x && ckE p i g y
  | .aug i o e, g, .AugAssign (.Name n _) op v _ => g.loc i n && iopOk o op && ckE p e g v
  | .ex e, g, .Expr v _ => nlc v && ckE p e g v
  | .ret e, g, .Return (some v) _ => ckE p e g v
  | .ret0, _, .Return none _ => true
  | .ife c a b, g, .If t x y _ => tok c t && ckE p c g t && ckSs p a g x && ckSs p b g y
  | .for_ t i b, g, .For tg it body [] _ => nse it && ckT g t tg && ckI p i g tg it && ckSs p b g body
  | .whl n c b, g, .While t body [] _ => tok c t && ckE p c g t && ckSs p b g body
  | .pass, _, .Pass _ => true
  | .brk, _, .Break _ => true
  | .cnt, _, .Continue _ => true
  | _, _, _ => false
def ckSs (p : Pg) : List Stm → Sc → List Stmt → Bool
  | [], _, [] => true
  | s :: ss, g, x :: xs => ckS p s g x && ckSs p ss g xs
  | _, _, _ => false
end
section
variable {p : Pg} {B : Bs} {fd : Nat → FuncData} {d : Nat} {cf : CF}
theorem lc_form {e : Ex} {f : Fx} (h : lcOf e = some f) : ∃ o t i c x, f = .lcp o t i c x ∧ (e = .fz f ∨ e = .ow f) := by
  cases e <;> first | (cases h; done) | skip
  all_goals
    rename_i f'
    cases f' <;> first | (cases h; done) | skip
    cases h
  · exact ⟨_, _, _, _, _, rfl, .inl rfl⟩
  · exact ⟨_, _, _, _, _, rfl, .inr rfl⟩
mutual
theorem sS (Fp : Fs p B fd) (R : Rn p B d cf) : ∀ (s : Stm) {g : Sc} {X : Cx} {W' : WX} {ps : Stmt}, Gd B d g X → L2.Takes X W' → PassesOwn (model X.prog X.w) X.A X.env X.xe → ckS p s g ps = true →
    PS X ps (tSt B W' fun r st => exe B.T cf s r st)
  | .set i e, g, X, W', ps, h, tk, po, q => by
    cases ps <;> first | exact (Bool.false_ne_true q).elim | skip
    rename_i tgs v pos
    cases tgs with
    | nil => exact (Bool.false_ne_true q).elim
    | cons tg r =>
      cases tg <;> cases r <;> first | exact (Bool.false_ne_true q).elim | skip
      rename_i n py
      simp only [ckS, Bool.and_eq_true] at q
      obtain ⟨q1, q2⟩ := q
      obtain ⟨l1, l2, l3⟩ := h.loc q1
      have nd : X.N.Nodup := by rw [h.N]; exact h.nd
      by_cases hn : nlc v = true
      · rw [if_pos hn] at q2
        exact wkS (ps_set nd l1 l2 (sE Fp R e h tk q2).1 (sw_no hn) l3) fun D σ H => set_of
      · rw [if_neg hn] at q2
        split at q2
        · rename_i f elt gs scope vpos hf
          simp only [Bool.and_eq_true, decide_eq_true_eq, Bool.not_eq_true'] at q2
          obtain ⟨⟨⟨⟨q3, q4⟩, q5⟩, q6⟩, q7⟩ := q2
          obtain ⟨o, t, i', c, x, rfl, he⟩ := lc_form hf
          match gs, q7 with
          | [⟨tg, iter, ifs, m⟩], q7 =>
            have hm : m = 0 := by
              have q8 := q7
              simp only [ckF, Bool.and_eq_true, decide_eq_true_eq] at q8
              exact q8.1
            subst hm
            have L := sL Fp o t i' c x (sI Fp R i') (sE Fp R c) (sE Fp R x) h tk q7
            have hN : g.N[i]? = some n := by rw [← h.N]; exact l1
            have hk : g.sc.kind = .function := by cases e2 : g.sc.kind <;> rw [e2] at q4 <;> first | rfl | cases q4
            have z := x_setLc (py := py) (pos := vpos) (spos := pos) h L hN q3 hk q5 q6
            refine wkS z fun D σ H hw => ?_
            rcases he with rfl | rfl
            · exact fz_of (set_of hw)
            · exact ow_of (set_of hw)
          | [], q7 => exact (Bool.false_ne_true q7).elim
          | _ :: _ :: _, q7 => exact (Bool.false_ne_true q7).elim
        · cases q2
  | .unp t e, g, X, W', ps, h, tk, po, q => by
    cases ps <;> first | exact (Bool.false_ne_true q).elim | skip
    rename_i tgs v pos
    cases tgs with
    | nil => exact (Bool.false_ne_true q).elim
    | cons tg r =>
      cases r <;> first | exact (Bool.false_ne_true q).elim | skip
      simp only [ckS, Bool.and_eq_true] at q
      obtain ⟨⟨⟨q1, q2⟩, q3⟩, q4⟩ := q
      refine wkS (ps_asg (sE Fp R e h tk q4).1 (pg_of h q1) (sws_no q2) (swp_no q3) ?_) fun D σ H => unp_of rfl
      cases t <;> cases tg <;> first | exact (Bool.false_ne_true q1).elim | rfl
  | .par _ _ _ _, g, X, W', ps, h, tk, po, q => by cases ps <;> exact (Bool.false_ne_true q).elim
  | .seti o i e, g, X, W', ps, h, tk, po, q => by
    cases ps <;> first | exact (Bool.false_ne_true q).elim | skip
    rename_i tgs v pos
    cases tgs with
    | nil => exact (Bool.false_ne_true q).elim
    | cons tg r =>
      cases tg <;> cases r <;> first | exact (Bool.false_ne_true q).elim | skip
      simp only [ckS, Bool.and_eq_true] at q
      obtain ⟨⟨⟨⟨q0, q1⟩, q2⟩, q3⟩, q4⟩ := q
      exact wkS (ps_asg (sE Fp R e h tk q2).1 (pg_sub (sE Fp R o h tk q3).1 (sE Fp R i h tk q4).1 set_list (as_sub q0)) (sws_no q1) (swp_tg rfl)) fun D σ H => seti_of
  | .seta _ _ _, g, X, W', ps, h, tk, po, q => by cases ps <;> exact (Bool.false_ne_true q).elim
  | .aug i o e, g, X, W', ps, h, tk, po, q => by
    cases ps <;> first | exact (Bool.false_ne_true q).elim | skip
    rename_i tg op v pos
    cases tg <;> first | exact (Bool.false_ne_true q).elim | skip
    simp only [ckS, Bool.and_eq_true] at q
    obtain ⟨⟨q1, q2⟩, q3⟩ := q
    obtain ⟨l1, l2, l3⟩ := h.loc q1
    exact wkS (ps_aug (by rw [h.N]; exact h.nd) l1 l2 (sE Fp R e h tk q3).1 (ip_iop q2) l3) fun D σ H => aug_of
  | .ex e, g, X, W', ps, h, tk, po, q => by
    cases ps <;> first | exact (Bool.false_ne_true q).elim | skip
    simp only [ckS, Bool.and_eq_true] at q
    exact wkS (ps_expr (sE Fp R e h tk q.2).1 (sw_no q.1)) fun D σ H => drop_of
  | .ret e, g, X, W', ps, h, tk, po, q => by
    cases ps <;> first | exact (Bool.false_ne_true q).elim | skip
    rename_i v pos
    cases v <;> first | exact (Bool.false_ne_true q).elim | skip
    simp only [ckS] at q
    exact wkS (ps_ret (sE Fp R e h tk q).1) fun D σ H => ret_of
  | .ret0, g, X, W', ps, h, tk, po, q => by
    cases ps <;> first | exact (Bool.false_ne_true q).elim | skip
    rename_i v pos
    cases v <;> first | exact (Bool.false_ne_true q).elim | skip
    exact wkS ps_retN fun D σ H ⟨G, r, st, sr, er, hw⟩ => hw .non G H Lt.rfl sr rfl
  | .ife c a b, g, X, W', ps, h, tk, po, q => by
    cases ps <;> first | exact (Bool.false_ne_true q).elim | skip
    simp only [ckS, Bool.and_eq_true] at q
    obtain ⟨⟨⟨q1, q2⟩, q3⟩, q4⟩ := q
    exact wkS (ps_if ((sE Fp R c h tk q2).2 q1) (sSs Fp R a h tk po q3) (sSs Fp R b h tk po q4)) fun D σ H => ife_of
  | .for_ t i b, g, X, W', ps, h, tk, po, q => by
    cases ps <;> first | exact (Bool.false_ne_true q).elim | skip
    rename_i tg it body els pos
    cases els <;> first | exact (Bool.false_ne_true q).elim | skip
    simp only [ckS, Bool.and_eq_true] at q
    obtain ⟨⟨⟨q1, q2⟩, q3⟩, q4⟩ := q
    exact wkS (ps_for po h.calm (sI Fp R i h tk q3) (pg_of h q2) (sSs Fp R b h tk po q4) (se_no q1)) fun D σ H => for_of rfl
  | .whl n c b, g, X, W', ps, h, tk, po, q => by
    cases ps <;> first | exact (Bool.false_ne_true q).elim | skip
    rename_i tt body els pos
    cases els <;> first | exact (Bool.false_ne_true q).elim | skip
    simp only [ckS, Bool.and_eq_true] at q
    obtain ⟨⟨q1, q2⟩, q3⟩ := q
    exact wkS (ps_while po ((sE Fp R c h tk q2).2 q1) (sSs Fp R b h tk po q3)) fun D σ H => whl_of
  | .rse _ _, g, X, W', ps, h, tk, po, q => by cases ps <;> exact (Bool.false_ne_true q).elim
  | .pass, g, X, W', ps, h, tk, po, q => by
    cases ps <;> first | exact (Bool.false_ne_true q).elim | skip
    exact wkS ps_pass fun D σ H ⟨G, r, st, sr, er, hw⟩ => hw σ G H Lt.rfl sr er
  | .brk, g, X, W', ps, h, tk, po, q => by
    cases ps <;> first | exact (Bool.false_ne_true q).elim | skip
    exact wkS ps_break fun D σ H ⟨G, r, st, sr, er, hw⟩ => hw σ G H Lt.rfl sr er
  | .cnt, g, X, W', ps, h, tk, po, q => by
    cases ps <;> first | exact (Bool.false_ne_true q).elim | skip
    exact wkS ps_continue fun D σ H ⟨G, r, st, sr, er, hw⟩ => hw σ G H Lt.rfl sr er
  | .tr _ _ _ _, g, X, W', ps, h, tk, po, q => by cases ps <;> exact (Bool.false_ne_true q).elim
theorem sSs (Fp : Fs p B fd) (R : Rn p B d cf) : ∀ (ss : List Stm) {g : Sc} {X : Cx} {W' : WX} {pss : List Stmt}, Gd B d g X → L2.Takes X W' → PassesOwn (model X.prog X.w) X.A X.env X.xe → ckSs p ss g pss = true →
    PSs X pss (tSt B W' fun r st => exes B.T cf ss r st)
  | [], g, X, W', [], h, tk, po, q => wkSs pss_nil fun D σ H ⟨G, r, st, sr, er, hw⟩ => hw σ G H Lt.rfl sr er
  | [], _, _, _, _ :: _, _, _, _, q => (Bool.false_ne_true q).elim
  | _ :: _, _, _, _, [], _, _, _, q => (Bool.false_ne_true q).elim
  | s :: ss, g, X, W', x :: xs, h, tk, po, q => by
    simp only [ckSs, Bool.and_eq_true] at q
    exact wkSs (pss_cons (sS Fp R s h tk po q.1) (sSs Fp R ss h tk po q.2)) fun D σ H hw => seq_of hw
end
end
end Ip
/-! Ip18: the defs; the law's end. -/
namespace Ip
open PySem L2 PySem.Spec PyProof.Rows
def fscB (N ps : List Str) (sc : Scope) : Bool := isFun sc.kind && !sc.isCoroutine && !sc.isGenerator && decide N.Nodup && decide (N.take ps.length = ps) && ps.all (fun x => decide (sc.names.lookup x = some .local) || decide (sc.names.lookup x = some .cell)) &&
  sc.names.all fun y => match y.2 with
    | .free => false
    | _ => true
theorem fsc_of {N ps : List Str} {sc : Scope} (h : fscB N ps sc = true) : FnScope N ps sc := by
  simp only [fscB, Bool.and_eq_true, Bool.not_eq_true', decide_eq_true_eq, List.all_eq_true, Bool.or_eq_true] at h
  obtain ⟨⟨⟨⟨⟨⟨h1, h2⟩, h3⟩, h4⟩, h5⟩, h6⟩, h7⟩ := h
  refine ⟨?_, h2, h3, h4, h5, h6, fun y hy e => ?_⟩
  · cases q : sc.kind <;> rw [q] at h1 <;> first | rfl | cases h1
  · have z := h7 y hy
    simp only [e] at z
    cases z
def ckD (p : Pg) (D : He.DefD) (fs : Fn) (N : List Str) : Bool := fscB N (psOf D) D.scope && decide (fs.np = (psOf D).length) && decide (fs.ns = N.length) && ckSs p fs.body ⟨N, D.scope, fun _ => true⟩ D.body
def ckAll (p : Pg) : Bool := decide (p.fn.length = p.T.fns.length) && decide (p.nn.length = p.T.fns.length) && (List.range p.T.fns.length).all fun i => match p.fn[i]?, p.T.fns[i]?, p.nn[i]? with
  | some D, some fs, some N => ckD p D fs N
  | _, _, _ => false
theorem ckAll_at {p : Pg} (h : ckAll p = true) {i : Nat} {D : He.DefD} {fs : Fn} (hD : p.fn[i]? = some D) (hf : p.T.fns[i]? = some fs) : ∃ N, ckD p D fs N = true := by
  simp only [ckAll, Bool.and_eq_true, decide_eq_true_eq, List.all_eq_true] at h
  have hi : i < p.T.fns.length := (List.getElem?_eq_some_iff.mp hf).1
  have z := h.2 i (List.mem_range.mpr hi)
  rw [hD, hf] at z
  cases hN : p.nn[i]? with
  | none => rw [hN] at z; cases z
  | some N => rw [hN] at z; exact ⟨N, z⟩
section
variable {p : Pg} {B : Bs} {fd : Nat → FuncData}
theorem start_en {G : Rg} {ws : List W} {vs : List V} {N : List Str} {n : Nat} (h : Rls B G ws vs) (hn : n = N.length) : EnR B G (ws.map some ++ List.replicate (n - ws.length) none) (L2.start N vs) := by
  refine ⟨?_, fun i w e => ?_⟩
  · unfold L2.start
    rw [List.length_append, List.length_append, List.length_map, List.length_map, List.length_replicate, List.length_replicate, h.len, hn]
  · by_cases hi : i < ws.length
    · rw [List.getElem?_append_left (by rw [List.length_map]; exact hi), List.getElem?_map] at e
      obtain ⟨x, e1, e2⟩ := map_some e
      cases e2
      obtain ⟨v, e3, q⟩ := h.get e1
      refine ⟨v, ?_, q⟩
      unfold L2.start
      rw [List.getElem?_append_left (by rw [List.length_map, ← h.len]; exact hi), List.getElem?_map, e3]
      rfl
    · rw [List.getElem?_append_right (by rw [List.length_map]; omega), List.getElem?_replicate] at e
      split at e <;> cases e
theorem end_of {G : Rg} {H : Hp} {E : XK} {Q : VK} {r : En} {σ : L2.St} {T : Tab} {cf : CF} {fn : Fn} {ws : List W} {st : Sto} (h : Aft B (fun c d _ H => E c d H) (rV B) G H r σ (runB T cf fn ws st) Q) :
    AfS B (fun c d _ H => E c d H) G H { nx := fun _ H' => Q .non H', rt := Q } (exes T cf fn.body (ws.map some ++ List.replicate (fn.ns - ws.length) none) st) := by
  unfold runB at h
  cases hm : exes T cf fn.body (ws.map some ++ List.replicate (fn.ns - ws.length) none) st with
  | nx r' s' => rw [hm] at h; exact fun σ' G' H' l s q => h .non G' H' l s rfl
  | rt w s' => rw [hm] at h; exact fun v G' H' l s q => h v G' H' l s q
  | exc c pw r' s' => rw [hm] at h; exact fun cls dd σ' G' H' l s _ x => h cls dd G' H' l s x
  | bk _ _ => rw [hm] at h; exact h.elim
  | ct _ _ => rw [hm] at h; exact h.elim
  | stuck => rw [hm] at h; exact h.elim
theorem rn0 : Rn p B 0 (runF B.T 0) := fun g X W' h tk i n D fs _ _ _ _ pins s σ H us vs Q G r ws st _ _ _ _ _ _ hq => hq.elim
/-- THE DEFS: each does what the interpreter's run does -/
theorem call_ok (Fp : Fs p B fd) (hc : ckAll p = true) : ∀ d : Nat, CallOk B p fd (2 * d + 1) (fun fn ws => runB B.T (runF B.T d) fn ws) := by
  have body : ∀ d : Nat, Rn p B d (runF B.T d) → CallOk B p fd (2 * d + 1) (fun fn ws => runB B.T (runF B.T d) fn ws) := fun d R => by
    intro i D fs A outer s H args us vs Q E G ws st r σ hD hfs hr hg e0 hb rv hl sr rw0 hq
    obtain ⟨N, hk⟩ := ckAll_at hc hD (by rw [← Fp.hT]; exact hfs)
    simp only [ckD, Bool.and_eq_true, decide_eq_true_eq] at hk
    obtain ⟨⟨⟨k1, k2⟩, k3⟩, k4⟩ := hk
    have S := fsc_of k1
    refine run_body (N := N) (Fp.fun_ i D hD) S hr hg e0 hb rv (by rw [← rw0.len]; exact hl) fun cd hr2 hg2 => ?_
    have gd : Gd B d ⟨N, D.scope, fun _ => true⟩ (bcx B N D (B.fa i) cd A outer s H E) := ⟨rfl, rfl, rfl, rfl, rfl, rfl, rfl, S.nd, hr2, hg2, rfl, fun _ _ => rfl⟩
    have tk : L2.Takes (bcx B N D (B.fa i) cd A outer s H E) (fun c d _ H => E c d H) := takes_of rfl rfl rfl rfl
    exact ⟨_, sSs Fp R fs.body gd tk (passes_of rfl) k4, G, _, st, sr, start_en rw0 k3, end_of hq⟩
  intro d
  induction d with
  | zero => exact body 0 rn0
  | succ d ih =>
    refine body (d + 1) fun g X W' h tk i n D fs hD hf hd hb => ?_
    rw [runF_eq]
    exact run_of Fp ih h (by omega) tk hD (by rw [Fp.hT]; exact hf) hd hb
end

/-! ### the law -/
theorem runs_law {P : Program} {w : World} {K : PySem.W.Frag} {mg mb : Str → Option Value} {fa a : Addr} {s1 : Shared} {vs : List Value} {ns : List Int}
    (KX : K.In s1.heap) (hns : s1.heap.Ns mainGlobals mg) (hb : s1.heap.Ns builtinsNs mb) (hbb : ∀ x : Str, x ≠ "__name__" → mb x = bootBuiltins x) (hlim : s1.heap.NoLimit) (hg : s1.gens = #[])
    (ha : s1.heap.get? a = some { cls := .type "list", data := .seq vs.toArray }) (hi : IntsAre vs ns) (hl : ns.length ≤ sizeLine)
    (F : ∀ (base : Heap) (H : Hp), K.In base → base.Ns mainGlobals mg → Only H → SqL K H a (ns.map V.int) → Env0 P w K mg base callerA [] s1 H →
      codeAny (model P w) callerA (.call (.ref fa) ⟨[.ref a], []⟩) (CR (L2.CX P w) [] P w H s1 (fun v _ => v = .bl true) fun _ _ _ => False) s1) :
    codeAny (model P w) callerA (.call (.ref fa) ⟨[.ref a], []⟩) (fun r s' => r = .ok (.ret (.bool true)) ∧ OldK s1.heap s'.heap ∧ s'.os = s1.os ∧ AllBare s'.gens) s1 := by
  have rv := vals_ints hi
  have lenV := hi.length
  have main : ∀ H : Hp, Only H → SqL K H a (ns.map V.int) → HOk P w H s1.heap → (∀ b, H b ≠ none → b = a) → (H a ≠ none → K.lookup a = none) →
      codeAny (model P w) callerA (.call (.ref fa) ⟨[.ref a], []⟩) (fun r s' => r = .ok (.ret (.bool true)) ∧ OldK s1.heap s'.heap ∧ s'.os = s1.os ∧ AllBare s'.gens) s1 := by
    intro H hO hS hok hA hK
    have free_of : ∀ {b : Addr} {o : Obj}, s1.heap.get? b = some o → (b ≠ a ∨ (K.lookup a).isSome = true) → H b = none := fun {b o} e z => by
      cases q : H b with
      | none => rfl
      | some u =>
        exfalso
        have e' : b = a := hA b (fun y => by rw [q] at y; cases y)
        rcases z with z | z
        · exact z e'
        · subst e'
          rw [hK (fun y => by rw [q] at y; cases y)] at z
          cases z
    have dict_ne : ∀ {b : Addr} {o : Obj} {es : Array DictEntry} {ep : Nat}, s1.heap.get? b = some o → o.data = .dict es ep → b ≠ a := fun {b o es ep} e d z => by
      rw [z, ha] at e
      cases e
      cases (show Data.seq vs.toArray _ = Data.dict es ep from d)
    have ns_of : ∀ {b : Addr} {m : Str → Option Value}, s1.heap.Ns b m → (hidT s1.heap H).Ns b m := fun ⟨o, es, ep, e, dd, r⟩ => ⟨o, es, ep, hidT_get e (free_of e (.inl (dict_ne e dd))), dd, r⟩
    have KB : K.In (hidT s1.heap H) := fun b o e => hidT_get (KX b o e) (free_of (KX b o e) (by
      by_cases z : b = a
      · right; rw [← z, e]; rfl
      · exact .inl z))
    have MD : Mod K mg (hidT s1.heap H) := ⟨KB, ns_of hns, ⟨mb, ns_of hb, hbb⟩, by obtain ⟨mc, h1, h2⟩ := hlim; exact ⟨mc, ns_of h1, h2⟩⟩
    have e0 : Env0 P w K mg (hidT s1.heap H) callerA [] s1 H := ⟨rfl, MD, fun b o e => of_hidT e, Nat.le_of_eq (hidT_size _ _), trivial, fun b z => (List.not_mem_nil (show b ∈ ([] : List Addr) from z)).elim, hok, .of_eq hg⟩
    refine codeAny_mono (F _ H KB (ns_of hns) hO hS e0) ?_
    intro r s' h
    match r, h with
    | .ok (.ret u), ⟨v, H', os, bare, un, hok', r', q⟩ =>
      cases (show v = .bl true from q)
      obtain rfl : u = Value.bool true := r'
      refine ⟨rfl, OldK.of_keep (fun b o e => ?_), os, bare⟩
      cases q : H b with
      | none => exact un.keep b o e q (fun z => (List.not_mem_nil (show b ∈ ([] : List Addr) from z)).elim) List.not_mem_nil
      | some u =>
        rcases hO b with z | ⟨ob, xs, z⟩
        · rw [q] at z; cases z
        · obtain ⟨e1, _⟩ := hok b _ z
          obtain ⟨e2, _⟩ := hok' b _ (un.frzs b ob _ z)
          rw [e] at e1; cases e1
          exact e2
    | .error e, ⟨_, _, _, _, _, _, _, _, _, _, _, _, h⟩ => exact h.elim
    | .ok .next, h => exact h.elim
    | .ok .brk, h => exact h.elim
    | .ok .cont, h => exact h.elim
  cases hk : K.lookup a with
  | some o =>
    have e := KX a o hk
    rw [ha] at e
    cases e
    exact main (fun _ => none) (fun _ => .inl rfl) (.inr ⟨_, vs.toArray, _, hk, rfl, rfl, rfl, by rw [List.size_toArray, lenV]; exact hl, by simpa using rv⟩) (fun b u z => nomatch (show (none : Option HO) = some u from z)) (fun b z => absurd rfl z) fun z => absurd rfl z
  | none =>
    have at_ : ∀ b, b = a → (if b = a then some (HO.frz { cls := .type "list", data := .seq vs.toArray } (.lst (ns.map V.int))) else none) = some (HO.frz { cls := .type "list", data := .seq vs.toArray } (.lst (ns.map V.int))) := fun b z => if_pos z
    have off : ∀ b, ¬ b = a → (if b = a then some (HO.frz { cls := .type "list", data := .seq vs.toArray } (.lst (ns.map V.int))) else none) = none := fun b z => if_neg z
    refine main (fun b => if b = a then some (.frz { cls := .type "list", data := .seq vs.toArray } (.lst (ns.map V.int))) else none) (fun b => ?_) (.inl (.inr ⟨{ cls := .type "list", data := .seq vs.toArray }, at_ a rfl⟩)) (fun b u z => ?_) (fun b z => ?_) fun _ => hk
    · by_cases z : b = a
      · exact .inr ⟨_, _, at_ b z⟩
      · exact .inl (off b z)
    · by_cases y : b = a
      · have z' := (at_ b y).symm.trans z
        cases z'
        subst y
        exact ⟨ha, by rw [List.length_map]; exact hl, vs, _, rv, ha⟩
      · have z' := (off b y).symm.trans z
        cases z'
    · by_cases y : b = a
      · exact y
      · exact absurd (off b y) z
/-- the interpreter's state at the law's entry -/
def st0 : Sto := ⟨0, fun _ => none⟩
/-- THE LAW's END: the interpreter's run of the law's def gives True at every script -/
theorem walk_ip {l : PySem.W.OpenLaw} {n dep : Nat} {q : Program} {loose : List Str} {XP : (Str → Option Value) → Heap → Prop} {YP : World → Heap → Prop} {d : DefRec} {p : Pg} {li : Nat}
    (hn : l.most = some n) (hn2 : n ≤ sizeLine) (hdf : d.params.defaults = []) (hdp : dep ≤ 110) (hP : p.P = l.prog)
    (F : ∀ (w : World) (mg : Str → Option Value) (fa : Addr) (h : Heap), YP w h → h.Ns mainGlobals mg → mg d.name = some (.ref fa) →
      ∃ (K : PySem.W.Frag), K.In h ∧ ∀ base : Heap, K.In base → base.Ns mainGlobals mg → ∃ (B : Bs) (fd : Nat → FuncData), B.P = l.prog ∧ B.w = w ∧ B.K = K ∧ B.mg = mg ∧ B.base = base ∧ Fs p B fd ∧ B.fa li = fa)
    (hck : ckAll p = true) {D : He.DefD} {fs : Fn} {x : Str} (hD : p.fn[li]? = some D) (hfs : p.T.fns[li]? = some fs) (hx : psOf D = [x]) (hdd : D.dfl = []) (hb : BindQ D 1)
    (run : ∀ ns : List Int, ns.length ≤ n → ∃ st, runB p.T (runF p.T dep) fs [.lst (ns.map W.int)] st0 = .ok (.bl true) st) :
    PySem.W.WalkO q loose XP YP l.row.toRowW d [] (fun f vs => PySem.call f vs) := by
  refine Att.attach_call hn hdf fun w s₀ s₁ mg mb fa o pm cd doc a vs ns G Y ho hd hcd hmg hobj hints hlen hg => ?_
  obtain ⟨K, KX, hF⟩ := F w mg fa _ Y G.T.g hmg
  refine runs_law KX G.T.g G.T.b G.T.builtins G.T.nolimit hg hobj hints (Nat.le_trans hlen hn2) fun base H KB NB hO hS e0 => ?_
  obtain ⟨B, fd, e1, e2, e3, e4, e5, Fp, e6⟩ := hF base KB NB
  subst e2 e3 e4 e5 e6
  rw [← e1] at e0 ⊢
  obtain ⟨st, hr⟩ := run ns hlen
  have C := call_ok Fp hck dep
  have FD := Fp.fun_ li D hD
  have allI : ∀ (G : Rg) (ns : List Int), Rls B G (ns.map W.int) (ns.map V.int) := fun G ns => by
    induction ns with
    | nil => exact Rls.nil
    | cons n ns ih => exact Rls.cons (show V.int n = V.int n from rfl) ih
  refine C li D fs callerA [] s₁ H ⟨[.ref a], []⟩ [.ref a] [.ref a] _ _ ⟨H, fun _ => none⟩ [.lst (ns.map W.int)] st0 [] [] hD (by rw [Fp.hT]; exact hfs) ⟨rfl, by show 1 + claimMargin + 3 * (2 * dep + 1) + 5 < recursionLimit; have : claimMargin = 300 := rfl; have : recursionLimit = 1000 := rfl; omega, by show 4 + 16 * (2 * dep + 1) + 200 < cLine; have : cLine = 9900 := rfl; omega⟩ rfl e0 ?_ (.cons rfl .nil) (by rw [hx]; rfl) ?_ ?_ ?_
  · rcases hb with ⟨z, q⟩ | ⟨z, _⟩
    · have FD' : FunD B.K D.name D.qual D.params D.body D.scope [] (D.kws B.K) (B.fa li) (fd li) := by
        have e : D.dvs B.K = [] := by unfold He.DefD.dvs; rw [hdd]; rfl
        rw [← e]; exact FD
      exact FunD.bindsA FD' q s₁ [.ref a] (by rw [hx]; rfl)
    · exact absurd hdd z
  · refine ⟨fun _ _ h => h, fun k a e => ?_, fun _ _ => rfl, fun k o e => ?_, fun k k' o o' a e => ?_⟩
    · cases (show (none : Option Addr) = some a from e)
    · cases (show (none : Option Ob) = some o from e)
    · cases (show (none : Option Ob) = some o from e)
  · refine Rls.cons ?_ Rls.nil
    show ∃ b us, V.ref a = .ref b ∧ SqL B.K H b us ∧ Rls B ⟨H, fun _ => none⟩ (ns.map W.int) us
    exact ⟨a, _, rfl, hS, allI _ ns⟩
  · show Aft B _ _ _ _ _ _ (runB B.T (runF B.T dep) fs [.lst (ns.map W.int)] st0) _
    rw [Fp.hT, hr]
    exact fun v G' H' l s q => q
end Ip
/-! Ip19: what the top has left, as the walk takes it. -/
namespace Ip
open PySem L2 PySem.Spec PyProof.Rows
mutual
def relW (K : PySem.W.Frag) : W → Value → Bool
  | .non, .none => true
  | .bl b, .bool c => decide (b = c)
  | .int i, .int j _ => decide (i = j)
  | .str x, .str y _ => decide (x = y)
  | .tup ws, .ref a => (match K.lookup a with
    | some o => (match o.cls, o.data with
      | .type c, .seq its _ => decide (c = "tuple") && decide (its.size ≤ sizeLine) && relWs K ws its.toList
      | _, _ => false)
    | none => false)
  | _, _ => false
def relWs (K : PySem.W.Frag) : List W → List Value → Bool
  | [], [] => true
  | w :: ws, u :: us => relW K w u && relWs K ws us
  | _, _ => false
end
mutual
theorem relW_ok {K : PySem.W.Frag} : ∀ {w : W} {u : Value}, relW K w u = true → ∃ v, RelV v u ∧ ∀ (B : Bs) (G : Rg), B.K = K → Rl B G w v
  | .non, u, h => by cases u <;> first | (simp [relW] at h; done) | exact ⟨.non, rfl, fun _ _ _ => rfl⟩
  | .bl b, u, h => by
    cases u <;> first | (simp [relW] at h; done) | skip
    simp only [relW, decide_eq_true_eq] at h
    subst h
    exact ⟨.bl b, rfl, fun _ _ _ => rfl⟩
  | .int b, u, h => by
    cases u <;> first | (simp [relW] at h; done) | skip
    simp only [relW, decide_eq_true_eq] at h
    subst h
    exact ⟨.int b, ⟨_, rfl⟩, fun _ _ _ => rfl⟩
  | .str b, u, h => by
    cases u <;> first | (simp [relW] at h; done) | skip
    simp only [relW, decide_eq_true_eq] at h
    subst h
    exact ⟨.str b, ⟨_, rfl⟩, fun _ _ _ => rfl⟩
  | .tup ws, u, h => by
    cases u <;> first | (simp [relW] at h; done) | skip
    rename_i a
    simp only [relW] at h
    split at h
    · rename_i o ho
      split at h
      · rename_i c its n e1 e2
        simp only [Bool.and_eq_true, decide_eq_true_eq] at h
        obtain ⟨⟨h1, h2⟩, h3⟩ := h
        obtain ⟨vs, r, q⟩ := relWs_ok h3
        subst h1
        refine ⟨.ref a, rfl, fun B G e => ?_⟩
        show ∃ b us, V.ref a = .ref b ∧ SqT B.K G.S b us ∧ Rls B G ws us
        exact ⟨a, vs, rfl, .inr ⟨o, its, n, by rw [e]; exact ho, e1, e2, h2, r⟩, q B G e⟩
      · cases h
    · cases h
  | .lst _, u, h => by cases u <;> simp [relW] at h
  | .dic _ _, u, h => by cases u <;> simp [relW] at h
  | .ins _ _, u, h => by cases u <;> simp [relW] at h
  | .obj _, u, h => by cases u <;> simp [relW] at h
  | .exn _ _, u, h => by cases u <;> simp [relW] at h
theorem relWs_ok {K : PySem.W.Frag} : ∀ {ws : List W} {us : List Value}, relWs K ws us = true → ∃ vs, Vals vs us ∧ ∀ (B : Bs) (G : Rg), B.K = K → Rls B G ws vs
  | [], [], _ => ⟨[], .nil, fun _ _ _ => Rls.nil⟩
  | [], _ :: _, h => by simp [relWs] at h
  | _ :: _, [], h => by simp [relWs] at h
  | w :: ws, u :: us, h => by
    simp only [relWs, Bool.and_eq_true] at h
    obtain ⟨v, r1, q1⟩ := relW_ok h.1
    obtain ⟨vs, r2, q2⟩ := relWs_ok h.2
    exact ⟨v :: vs, .cons r1 r2, fun B G e => Rls.cons (q1 B G e) (q2 B G e)⟩
end
/-- the constants of the top -/
def gloB (K : PySem.W.Frag) : List Str → List W → Bool
  | [], [] => true
  | x :: xs, w :: ws => (match PySem.W.nsIn K mainGlobals x with
    | some (some u) => relW K w u
    | _ => false) && gloB K xs ws
  | _, _ => false
theorem gloB_at {K : PySem.W.Frag} : ∀ {xs : List Str} {ws : List W}, gloB K xs ws = true → ∀ (i : Nat) (x : Str) (w : W), xs[i]? = some x → ws[i]? = some w → ∃ u, PySem.W.nsIn K mainGlobals x = some (some u) ∧ relW K w u = true
  | [], _, _, i, x, w, h1, _ => by simp at h1
  | _ :: _, [], h, _, _, _, _, _ => by simp [gloB] at h
  | x :: xs, w :: ws, h, 0, y, z, h1, h2 => by
    simp only [gloB, Bool.and_eq_true] at h
    simp at h1 h2
    subst h1 h2
    have h3 := h.1
    split at h3
    · rename_i u e; exact ⟨u, e, h3⟩
    · cases h3
  | x :: xs, w :: ws, h, i + 1, y, z, h1, h2 => by
    simp only [gloB, Bool.and_eq_true] at h
    exact gloB_at h.2 i y z (by simpa using h1) (by simpa using h2)
def faOf (p : Pg) : List He.Fa := p.fre.map He.Fa.free ++ p.fn.filterMap fun D => match D.at_.2 with
  | none => some (He.Fa.glo D.at_.1)
  | some _ => none
def exB (p : Pg) (K : PySem.W.Frag) : Bool := gloB K p.gn p.T.glo
def mkB (p : Pg) (w : World) (K : PySem.W.Frag) (mg : Str → Option Value) (base : Heap) : Bs where
  P := p.P
  w := w
  K := K
  mg := mg
  base := base
  T := p.T
  an := p.an
  ca := fun c => He.ga K (p.cn.getD c Str.empty)
  fa := fun i => match p.fn[i]? with
    | some D => He.fAd K D.at_
    | none => 0
  cw := fun c => p.cw.getD c Str.empty
theorem fs_of {p : Pg} {w : World} {K : PySem.W.Frag} {mg : Str → Option Value} {base h : Heap} (c : He.SaysX (faOf p) p.fn [] [] (exB p) w h K) (X : K.In base) (G : base.Ns mainGlobals mg)
    (hb : ∀ q ∈ p.cb, ∀ D, p.fn[q.1]? = some D → BindQ D q.2) : ∃ fd, Fs p (mkB p w K mg base) fd := by
  have sd := c.t.d
  have ex : ∀ i : Nat, ∃ fd : FuncData, ∀ D, p.fn[i]? = some D → FunD K D.name D.qual D.params D.body D.scope (D.dvs K) (D.kws K) (He.fAd K D.at_) fd := fun i => by
    cases hD : p.fn[i]? with
    | none => exact ⟨⟨Str.empty, Str.empty, ⟨[], [], none, [], [], none, []⟩, .stmts [], ⟨.function, [], false, false, []⟩, 0, [], .none, .none, .none, .none, none, .none, .none, 0⟩, fun D e => by cases e⟩
    | some D =>
      obtain ⟨fd, hf⟩ := sd.def_ i (d := D) hD
      exact ⟨fd, fun D' e => by cases e; exact hf⟩
  obtain ⟨fd, hfd⟩ := Classical.axiomOfChoice ex
  refine ⟨fd, rfl, rfl, rfl, fun x hx => ?_, fun i D hD e => ?_, fun i D hD => ?_, hb, fun i x w h1 h2 => ?_⟩
  · exact He.free_ok X G (sd.facts (f := .free x) (List.mem_append_left _ (List.mem_map.mpr ⟨x, hx, rfl⟩)))
  · have hm : He.Fa.glo D.at_.1 ∈ faOf p := List.mem_append_right _ (List.mem_filterMap.mpr ⟨D, List.mem_of_getElem? hD, by rw [e]⟩)
    have z := He.glo_ok X G (sd.facts hm)
    show mg D.at_.1 = some (.ref (match p.fn[i]? with | some D => He.fAd K D.at_ | none => 0))
    rw [hD]
    show mg D.at_.1 = some (.ref (He.fAd K D.at_))
    unfold He.fAd
    rw [e]
    exact z
  · have z := hfd i D hD
    show FunD K D.name D.qual D.params D.body D.scope (D.dvs K) (D.kws K) (match p.fn[i]? with | some D => He.fAd K D.at_ | none => 0) (fd i)
    rw [hD]
    exact z
  · obtain ⟨u, e1, e2⟩ := gloB_at (show gloB K p.gn p.T.glo = true from c.more) i x w h1 h2
    obtain ⟨v, r, q⟩ := relW_ok e2
    exact ⟨u, v, PySem.W.mg_of X G e1, r, fun G' => q _ G' rfl⟩
/-- what the head's Hook tells -/
abbrev hkOf (p : Pg) (n : Nat) : PySem.W.Hook := He.hookX n (faOf p) p.fn [] [] (exB p)
def obOf (p : Pg) (n : Nat) (s : PySem.W.SharedT) : He.AlX := He.obsX n (faOf p) p.fn [] [] (exB p) (HandSHeadRun.getT s)
theorem obOf_eq (p : Pg) (n : Nat) (s : PySem.W.SharedT) : obOf p n s = (hkOf p n).obs s.abs := He.obsX_eq (HandSHeadRun.getT_eq s)
/-- the head's facts to the walk -/
theorem head_ip {l : PySem.W.OpenLaw} {p : Pg} {n li : Nat} {D : He.DefD} {x : Str} (hP : p.P = l.prog) (hD : p.fn[li]? = some D) (ha : D.at_ = (x, none)) (hb : ∀ q ∈ p.cb, ∀ D, p.fn[q.1]? = some D → BindQ D q.2)
    (w : World) (mg : Str → Option Value) (fa : Addr) (h : Heap) (Y : (hkOf p n).says w h) (G : h.Ns mainGlobals mg) (hm : mg x = some (.ref fa)) :
    ∃ (K : PySem.W.Frag), K.In h ∧ ∀ base : Heap, K.In base → base.Ns mainGlobals mg → ∃ (B : Bs) (fd : Nat → FuncData), B.P = l.prog ∧ B.w = w ∧ B.K = K ∧ B.mg = mg ∧ B.base = base ∧ Fs p B fd ∧ B.fa li = fa := by
  obtain ⟨K, hK, c⟩ := Y
  refine ⟨K, hK, fun base X NB => ?_⟩
  obtain ⟨fd, F⟩ := fs_of (mg := mg) c X NB hb
  refine ⟨mkB p w K mg base, fd, hP, rfl, rfl, rfl, rfl, F, ?_⟩
  have z := F.mgF li D hD (by rw [ha])
  rw [ha] at z
  have z2 : mg x = some (.ref ((mkB p w K mg base).fa li)) := z
  rw [hm] at z2
  injection z2 with z3
  injection z3 with z4
  exact z4.symm
end Ip
/-! Ip20: runs of the interpreter, rule by rule. -/
namespace Ip
open PySem L2
section
variable {T : Tab} {cf : CF} {r r' : En} {st s1 s2 s3 : Sto} {a b c e : Ex} {x y z w : W} {k : Bool} {as : List Ex} {xs ys : List W}
theorem bnd_go {α β : Type} {m : M α} {f : α → M β} {x : α} {o : RR β} (h1 : m st = .ok x s1) (h2 : f x s1 = o) : m.bnd f st = o := by
  unfold M.bnd; rw [h1]; exact h2
theorem look_go {α : Type} {f : Sto → Option α} {x : α} (h : f st = some x) : M.look f st = .ok x st := by unfold M.look; rw [h]
theorem opt_go {α : Type} {f : Option α} {x : α} (h : f = some x) : M.opt f st = .ok x st := by rw [h]; rfl
theorem upd_go {α : Type} {f : Sto → Option (α × Sto)} {x : α} (h : f st = some (x, s1)) : M.upd f st = .ok x s1 := by unfold M.upd; rw [h]
theorem tru_go (h : tru st x = some k) : M.truth x st = .ok k st := look_go h
theorem e_var {i : Nat} (h : (r[i]?).bind id = some w) : ev T cf (.var i) r st = .ok w st := opt_go h
theorem e_cst : ev T cf (.cst w) r st = .ok w st := rfl
theorem e_omit : ev T cf .omit r st = .ok .non st := rfl
theorem e_glo {i : Nat} (h : T.glo[i]? = some w) : ev T cf (.glo i) r st = .ok w st := opt_go h
theorem e_bin {o : Bop} (h1 : ev T cf a r st = .ok x s1) (h2 : ev T cf b r s1 = .ok y s2) (h3 : bop o x y s2 = some w) : ev T cf (.bin o a b) r st = .ok w s2 := bnd_go h1 (bnd_go h2 (look_go h3))
theorem e_neg {i : Int} (h1 : ev T cf a r st = .ok (.int i) s1) : ev T cf (.neg a) r st = .ok (.int (-i)) s1 := bnd_go h1 rfl
theorem e_nt (h1 : ev T cf a r st = .ok x s1) (h2 : tru s1 x = some k) : ev T cf (.nt a) r st = .ok (.bl (!k)) s1 := bnd_go h1 (bnd_go (tru_go h2) rfl)
theorem e_andT (h1 : ev T cf a r st = .ok x s1) (h2 : tru s1 x = some true) (h3 : ev T cf b r s1 = .ok y s2) : ev T cf (.and a b) r st = .ok y s2 := bnd_go h1 (bnd_go (tru_go h2) h3)
theorem e_andF (h1 : ev T cf a r st = .ok x s1) (h2 : tru s1 x = some false) : ev T cf (.and a b) r st = .ok x s1 := bnd_go h1 (bnd_go (tru_go h2) rfl)
theorem e_orT (h1 : ev T cf a r st = .ok x s1) (h2 : tru s1 x = some true) : ev T cf (.or a b) r st = .ok x s1 := bnd_go h1 (bnd_go (tru_go h2) rfl)
theorem e_orF (h1 : ev T cf a r st = .ok x s1) (h2 : tru s1 x = some false) (h3 : ev T cf b r s1 = .ok y s2) : ev T cf (.or a b) r st = .ok y s2 := bnd_go h1 (bnd_go (tru_go h2) h3)
theorem e_iteT (h1 : ev T cf c r st = .ok x s1) (h2 : tru s1 x = some true) (h3 : ev T cf a r s1 = .ok y s2) : ev T cf (.ite c a b) r st = .ok y s2 := bnd_go h1 (bnd_go (tru_go h2) h3)
theorem e_iteF (h1 : ev T cf c r st = .ok x s1) (h2 : tru s1 x = some false) (h3 : ev T cf b r s1 = .ok y s2) : ev T cf (.ite c a b) r st = .ok y s2 := bnd_go h1 (bnd_go (tru_go h2) h3)
/-- whichever way -/
theorem e_and (h1 : ev T cf a r st = .ok x s1) (h2 : tru s1 x = some k) (h3 : (if k = true then ev T cf b r s1 else .ok x s1) = .ok y s2) : ev T cf (.and a b) r st = .ok y s2 := by
  cases k
  · exact (e_andF h1 h2).trans h3
  · exact e_andT h1 h2 h3
theorem e_or (h1 : ev T cf a r st = .ok x s1) (h2 : tru s1 x = some k) (h3 : (if k = true then .ok x s1 else ev T cf b r s1) = .ok y s2) : ev T cf (.or a b) r st = .ok y s2 := by
  cases k
  · exact e_orF h1 h2 h3
  · exact (e_orT h1 h2).trans h3
theorem e_ite (h1 : ev T cf c r st = .ok x s1) (h2 : tru s1 x = some k) (h3 : (if k = true then ev T cf a r s1 else ev T cf b r s1) = .ok y s2) : ev T cf (.ite c a b) r st = .ok y s2 := by
  cases k
  · exact e_iteF h1 h2 h3
  · exact e_iteT h1 h2 h3
theorem if_t {α : Type} {p q o : α} (h : p = o) : (if true = true then p else q) = o := by rw [if_pos rfl]; exact h
theorem if_f {α : Type} {p q o : α} (h : q = o) : (if false = true then p else q) = o := by rw [if_neg Bool.false_ne_true]; exact h
theorem if_yes {α : Type} {P : Prop} [Decidable P] {p q o : α} (hp : P) (h : p = o) : (if decide P = true then p else q) = o := by rw [decide_eq_true hp]; exact if_t h
theorem if_no {α : Type} {P : Prop} [Decidable P] {p q o : α} (hp : ¬ P) (h : q = o) : (if decide P = true then p else q) = o := by rw [decide_eq_false hp]; exact if_f h
theorem if_nt {α : Type} {p q o : α} (h : p = o) : (if (!false) = true then p else q) = o := if_t h
theorem if_nf {α : Type} {p q o : α} (h : q = o) : (if (!true) = true then p else q) = o := if_f h
theorem if_nyes {α : Type} {P : Prop} [Decidable P] {p q o : α} (hp : P) (h : q = o) : (if (!decide P) = true then p else q) = o := by rw [decide_eq_true hp]; exact if_f h
theorem if_nno {α : Type} {P : Prop} [Decidable P] {p q o : α} (hp : ¬ P) (h : p = o) : (if (!decide P) = true then p else q) = o := by rw [decide_eq_false hp]; exact if_t h
theorem e_cmp {o : Cop} (h1 : ev T cf a r st = .ok x s1) (h2 : ev T cf b r s1 = .ok y s2) (h3 : cop o x y s2 = some w) : ev T cf (.cmp o a b) r st = .ok w s2 := bnd_go h1 (bnd_go h2 (look_go h3))
theorem e_chn {o o' : Cop} (h1 : ev T cf a r st = .ok x s1) (h2 : ev T cf b r s1 = .ok y s2) (h3 : cop o x y s2 = some (.bl k)) (h4 : (if k = true then (ev T cf c r).bnd (fun z => M.look (cop o' y z)) s2 else .ok (.bl false) s2) = .ok w s3) : ev T cf (.chn o o' a b c) r st = .ok w s3 := by
  refine bnd_go h1 (bnd_go h2 (bnd_go (look_go h3) ?_))
  cases k
  · exact h4
  · exact h4
theorem e_last {o : Cop} (h1 : ev T cf c r st = .ok z s1) (h2 : cop o y z s1 = some w) : (ev T cf c r).bnd (fun z => M.look (cop o y z)) st = .ok w s1 := bnd_go h1 (look_go h2)
theorem e_call {i : Nat} (h1 : evs T cf as r st = .ok xs s1) (h2 : cf i xs s1 = .ok w s2) : ev T cf (.call i as) r st = .ok w s2 := bnd_go h1 h2
theorem e_blt {o : Bf} (h1 : evs T cf as r st = .ok xs s1) (h2 : bfn o xs s1 = some w) : ev T cf (.blt o as) r st = .ok w s1 := bnd_go h1 (look_go h2)
theorem e_bm {o : Bm} (h1 : ev T cf e r st = .ok x s1) (h0 : bmG o x s1 = some ()) (h2 : evs T cf as r s1 = .ok xs s2) (h3 : bmF o x xs s2 = some (w, s3)) : ev T cf (.bm o e as) r st = .ok w s3 := bnd_go h1 (bnd_go (look_go h0) (bnd_go h2 (upd_go h3)))
theorem e_isi {ts : List Ty} (h1 : ev T cf a r st = .ok x s1) (h2 : isTys s1 x ts = some k) : ev T cf (.isi a ts) r st = .ok (.bl k) s1 := bnd_go h1 (look_go (by rw [h2]; rfl))
theorem e_idx (h1 : ev T cf a r st = .ok x s1) (h2 : ev T cf b r s1 = .ok y s2) (h3 : idxW x y s2 = some w) : ev T cf (.idx a b) r st = .ok w s2 := bnd_go h1 (bnd_go h2 (look_go h3))
theorem e_sl {l h : Option Int} (h1 : ev T cf a r st = .ok x s1) (h2 : ev T cf b r s1 = .ok y s2) (h4 : prt b y = some l) (h3 : ev T cf c r s2 = .ok z s3) (h5 : prt c z = some h) (h6 : slW x l h s3 = some w) : ev T cf (.sl a b c) r st = .ok w s3 :=
  bnd_go h1 (bnd_go (bnd_go h2 (opt_go h4)) (bnd_go (bnd_go h3 (opt_go h5)) (look_go h6)))
theorem e_tup (h1 : evs T cf as r st = .ok xs s1) (h2 : xs.length ≤ sizeLine) : ev T cf (.tup as) r st = .ok (.tup xs) s1 := bnd_go h1 (look_go (if_pos h2))
theorem e_fz {f : Fx} (h1 : evF T cf f r st = .ok xs s1) : ev T cf (.fz f) r st = .ok (.lst xs) s1 := bnd_go h1 rfl
theorem e_ow {f : Fx} (h1 : evF T cf f r st = .ok xs s1) : ev T cf (.ow f) r st = .ok (.obj s1.n) (s1.new (.lst xs)) := bnd_go h1 rfl
theorem es_nil : evs T cf [] r st = .ok [] st := rfl
theorem es_cons (h1 : ev T cf e r st = .ok x s1) (h2 : evs T cf as r s1 = .ok xs s2) : evs T cf (e :: as) r st = .ok (x :: xs) s2 := bnd_go h1 (bnd_go h2 rfl)
theorem f_dis (h1 : evs T cf as r st = .ok xs s1) (h2 : xs.length ≤ sizeLine) : evF T cf (.dis as) r st = .ok xs s1 := bnd_go h1 (look_go (if_pos h2))
theorem f_cop (h1 : ev T cf a r st = .ok x s1) (h2 : seqOf s1 x = some xs) : evF T cf (.cop a) r st = .ok xs s1 := bnd_go h1 (look_go h2)
theorem f_cat (h1 : ev T cf a r st = .ok x s1) (h2 : ev T cf b r s1 = .ok y s2) (h3 : lstOf s2 x = some xs) (h4 : lstOf s2 y = some ys) (h5 : xs.length + ys.length ≤ sizeLine) : evF T cf (.cat a b) r st = .ok (xs ++ ys) s2 :=
  bnd_go h1 (bnd_go h2 (look_go (by rw [h3, h4]; exact if_pos h5)))
/-- a comprehension's turn -/
noncomputable def tnf (T : Tab) (cf : CF) (own : List Nat) (t : Tg) (c e : Ex) (r : En) : W → M (Option W) := fun x => (M.opt (bindT t x (wipeE r own))).bnd fun r' => (((ev T cf c r').bnd M.truth).bnd fun b => if b then (ev T cf e r').bnd fun y => M.ret (some y) else M.ret none).calm
theorem f_lcp {own : List Nat} {t : Tg} {i : Ik} {kk : Wk} (h1 : evI T cf i r st = .ok kk s1) (h2 : lcRun kk.gd (tnf T cf own t c e r) kk.xs [] s1 = .ok xs s2) :
    evF T cf (.lcp own t i c e) r st = .ok xs s2 := bnd_go h1 h2
theorem i_ex {kk : Wk} (h1 : ev T cf e r st = .ok x s1) (h2 : walkEx x s1 = some kk) : evI T cf (.ex e) r st = .ok kk s1 := bnd_go h1 (look_go h2)
theorem i_r1 {n : Int} {kk : Wk} (h1 : ev T cf e r st = .ok (.int n) s1) (h2 : rngW 0 n = some kk) : evI T cf (.r1 e) r st = .ok kk s1 := bnd_go h1 (look_go h2)
theorem i_r2 {n m : Int} {kk : Wk} (h1 : ev T cf a r st = .ok (.int n) s1) (h3 : ev T cf b r s1 = .ok (.int m) s2) (h2 : rngW n m = some kk) : evI T cf (.r2 a b) r st = .ok kk s2 := bnd_go h1 (bnd_go h3 (look_go h2))
theorem i_en {kk : Wk} (h1 : ev T cf e r st = .ok x s1) (h2 : enW x s1 = some kk) : evI T cf (.en e) r st = .ok kk s1 := bnd_go h1 (look_go h2)
theorem i_zp {kk : Wk} (h1 : ev T cf a r st = .ok x s1) (h3 : ev T cf b r s1 = .ok y s2) (h2 : zpW x y s2 = some kk) : evI T cf (.zp a b) r st = .ok kk s2 := bnd_go h1 (bnd_go h3 (look_go h2))

/-! ### statements -/
variable {ss p q : List Stm} {s : Stm} {o : RS} {i : Nat}
theorem of_go {α : Type} {m : RR α} {f : α → Sto → RS} {x : α} (h1 : m = .ok x s1) (h2 : f x s1 = o) : RS.of m r f = o := by rw [h1]; exact h2
theorem s_nil : exes T cf [] r st = .nx r st := rfl
theorem s_nx (h1 : exe T cf s r st = .nx r' s1) (h2 : exes T cf ss r' s1 = o) : exes T cf (s :: ss) r st = o := by
  show (match exe T cf s r st with
    | .nx r' st' => exes T cf ss r' st'
    | o => o) = o
  rw [h1]; exact h2
theorem s_rt (h1 : exe T cf s r st = .rt w s1) : exes T cf (s :: ss) r st = .rt w s1 := by
  show (match exe T cf s r st with
    | .nx r' st' => exes T cf ss r' st'
    | o => o) = _
  rw [h1]
theorem s_set (h1 : ev T cf e r st = .ok w s1) : exe T cf (.set i e) r st = .nx (r.set i (some w)) s1 := of_go h1 rfl
theorem s_unp {t : Tg} (h1 : ev T cf e r st = .ok w s1) (h2 : bindT t w r = some r') : exe T cf (.unp t e) r st = .nx r' s1 := of_go h1 (by simp only [h2])
theorem s_seti (h1 : ev T cf e r st = .ok y s1) (h2 : ev T cf a r s1 = .ok x s2) (h3 : ev T cf b r s2 = .ok z s3) {s4 : Sto} (h4 : setI x z y s3 = some s4) : exe T cf (.seti a b e) r st = .nx r s4 :=
  of_go (bnd_go h1 (bnd_go h2 (bnd_go h3 (upd_go (x := ()) (by rw [h4]; rfl))))) rfl
theorem s_aug {o : Bop} (h0 : (r[i]?).bind id = some x) (h1 : ev T cf e r st = .ok y s1) (h2 : iop o x y s1 = some w) : exe T cf (.aug i o e) r st = .nx (r.set i (some w)) s1 := of_go (bnd_go (opt_go h0) (bnd_go h1 (look_go h2))) rfl
theorem s_ex (h1 : ev T cf e r st = .ok w s1) : exe T cf (.ex e) r st = .nx r s1 := of_go h1 rfl
theorem s_ret (h1 : ev T cf e r st = .ok w s1) : exe T cf (.ret e) r st = .rt w s1 := of_go h1 rfl
theorem s_ife (h1 : ev T cf c r st = .ok x s1) (h2 : tru s1 x = some k) (h3 : (if k = true then exes T cf p r s1 else exes T cf q r s1) = o) : exe T cf (.ife c p q) r st = o := of_go (bnd_go h1 (tru_go h2)) h3
theorem exes_app (T : Tab) (cf : CF) : ∀ (p ss : List Stm) (r : En) (st : Sto), exes T cf (p ++ ss) r st = (match exes T cf p r st with
    | .nx r' st' => exes T cf ss r' st'
    | o => o)
  | [], _, _, _ => rfl
  | s :: p, ss, r, st => by
    show (match exe T cf s r st with
      | .nx r' st' => exes T cf (p ++ ss) r' st'
      | o => o) = (match (match exe T cf s r st with
      | .nx r' st' => exes T cf p r' st'
      | o => o) with
      | .nx r' st' => exes T cf ss r' st'
      | o => o)
    cases exe T cf s r st <;> first | exact exes_app T cf p ss _ _ | rfl
theorem s_if (h1 : ev T cf c r st = .ok x s1) (h2 : tru s1 x = some k) (h3 : (if k = true then exes T cf (p ++ ss) r s1 else exes T cf (q ++ ss) r s1) = o) : exes T cf (.ife c p q :: ss) r st = o := by
  have e : exe T cf (.ife c p q) r st = (if k = true then exes T cf p r s1 else exes T cf q r s1) := s_ife h1 h2 rfl
  show (match exe T cf (.ife c p q) r st with
    | .nx r' st' => exes T cf ss r' st'
    | o => o) = o
  rw [e, ← h3]
  cases k
  · exact (exes_app T cf q ss r s1).symm
  · exact (exes_app T cf p ss r s1).symm
theorem ap_c (h : exes T cf (s :: (p ++ ss)) r st = o) : exes T cf ((s :: p) ++ ss) r st = o := h
theorem ap_n (h : exes T cf ss r st = o) : exes T cf ([] ++ ss) r st = o := h
theorem s_for {t : Tg} {ik : Ik} {kk : Wk} (h1 : evI T cf ik r st = .ok kk s1) (h2 : forRun kk.gd (fun x r st => match bindT t x r with | some r' => exes T cf p r' st | none => .stuck) kk.xs r s1 = o) : exe T cf (.for_ t ik p) r st = o := of_go h1 h2

/-! ### defs -/
theorem run_rt {fn : Fn} {ws : List W} (h : exes T cf fn.body (ws.map some ++ List.replicate (fn.ns - ws.length) none) st = .rt w s1) : runB T cf fn ws st = .ok w s1 := by unfold runB; rw [h]
theorem run_nx {fn : Fn} {ws : List W} (h : exes T cf fn.body (ws.map some ++ List.replicate (fn.ns - ws.length) none) st = .nx r' s1) : runB T cf fn ws st = .ok .non s1 := by unfold runB; rw [h]

theorem runs_of {T : Tab} {d i : Nat} {fn : Fn} {ws as : List W} {st s1 : Sto} {w : W} (hf : T.fns[i]? = some fn) (hl : fn.fill as = some ws) (h : runB T (runF T d) fn ws st = .ok w s1) : runF T (d + 1) i as st = .ok w s1 := by
  rw [runF_eq]
  unfold cfOf
  simp only [hf, hl]
  exact h
/-! ### values -/
theorem t_bl : tru st (.bl k) = some k := rfl
theorem t_yes {P : Prop} [Decidable P] (h : P) : tru st (.bl (decide P)) = some true := congrArg some (decide_eq_true h)
theorem t_no {P : Prop} [Decidable P] (h : ¬ P) : tru st (.bl (decide P)) = some false := congrArg some (decide_eq_false h)
theorem t_nyes {P : Prop} [Decidable P] (h : P) : tru st (.bl (!decide P)) = some false := by rw [decide_eq_true h]; rfl
theorem t_nno {P : Prop} [Decidable P] (h : ¬ P) : tru st (.bl (!decide P)) = some true := by rw [decide_eq_false h]; rfl
theorem v_eqI {i j : Int} : cop .eq (.int i) (.int j) st = some (.bl (decide (i = j))) := by
  show ((toPy (view st (W.int i))).bind fun d => (toPy (view st (W.int j))).bind fun e => if SeqAt.shaped d = true ∧ SeqAt.shaped e = true then some (PyData.eqv d e) else none).map W.bl = _
  simp [view, toPy, SeqAt.shaped, PyData.canLay0, PyData.depth, PyData.eqv]
  rfl
theorem v_neI {i j : Int} : cop .ne (.int i) (.int j) st = some (.bl (!decide (i = j))) := by
  show ((toPy (view st (W.int i))).bind fun d => (toPy (view st (W.int j))).bind fun e => if SeqAt.shaped d = true ∧ SeqAt.shaped e = true then some (PyData.eqv d e) else none).map (fun b => W.bl (!b)) = _
  simp [view, toPy, SeqAt.shaped, PyData.canLay0, PyData.depth, PyData.eqv]
  rfl
theorem v_lenS {s : Str} (h : s.length ≤ sizeLine) : bfn .len [.str s] st = some (.int s.length) := if_pos h
theorem v_lenT : bfn .len [.tup xs] st = some (.int xs.length) := rfl
theorem v_lenL : bfn .len [.lst xs] st = some (.int xs.length) := rfl
theorem bls_map {α : Type} (g : α → Bool) : ∀ l : List α, wBls (l.map fun x => W.bl (g x)) = some (l.map g)
  | [] => rfl
  | x :: l => by
    show (wBls (l.map fun x => W.bl (g x))).map (g x :: ·) = _
    rw [bls_map g l]; rfl
theorem v_all {α : Type} {g : α → Bool} {l : List α} : bfn .all [.lst (l.map fun x => W.bl (g x))] st = some (.bl ((l.map g).all id)) := by
  show ((lstOf st (.lst (l.map fun x => W.bl (g x)))).bind fun l => (wBls l).map fun bs => W.bl (bs.all id)) = _
  show ((some (l.map fun x => W.bl (g x))).bind fun l => (wBls l).map fun bs => W.bl (bs.all id)) = _
  rw [Option.bind_some, bls_map g l]; rfl
theorem v_addS {s t : Str} (h : s.length + t.length ≤ sizeLine) : bop .add (.str s) (.str t) st = some (.str (s ++ t)) := if_pos h
theorem v_eqS {i j : Str} : cop .eq (.str i) (.str j) st = some (.bl (decide (i = j))) := rfl
theorem v_mod {i j : Int} (h : 0 < j) : bop .mod (.int i) (.int j) st = some (.int (i % j)) := if_pos h
theorem v_fdiv {i j : Int} (h : 0 < j) (h2 : j.natAbs.log2 < 9000) : bop .fdiv (.int i) (.int j) st = some (.int (i / j)) := if_pos ⟨h, h2⟩
theorem v_mul {i j : Int} (h : i.natAbs.log2 + j.natAbs.log2 < 1000000) : bop .mul (.int i) (.int j) st = some (.int (i * j)) := if_pos h
theorem log2_small {n : Nat} (h : n < 2 ^ 1000) : n.log2 < 2000 := by
  by_cases z : n = 0
  · subst z; decide
  · exact Nat.lt_trans ((Nat.log2_lt z).mpr h) (by decide)
theorem v_mulS {i j : Int} (h1 : -(2 ^ 1000) < i ∧ i < 2 ^ 1000) (h2 : -(2 ^ 1000) < j ∧ j < 2 ^ 1000) : bop .mul (.int i) (.int j) st = some (.int (i * j)) := v_mul (by
  have a := log2_small (n := i.natAbs) (by omega)
  have b := log2_small (n := j.natAbs) (by omega)
  omega)
theorem v_fdivS {i j : Int} (h : 0 < j) (h2 : j < 2 ^ 1000) : bop .fdiv (.int i) (.int j) st = some (.int (i / j)) := v_fdiv h (by
  have a := log2_small (n := j.natAbs) (by omega)
  omega)
theorem v_ixI {ns : List Int} {j : Int} {n : Nat} {i : Int} (h : j = (n : Int)) (h2 : ns[n]? = some i) : idxW (.lst (ns.map W.int)) (.int j) st = some (.int i) := by
  show atI (ns.map W.int) j = _
  unfold atI
  have hl : n < ns.length := (List.getElem?_eq_some_iff.mp h2).1
  have e : ixN (ns.map W.int).length j = some n := by
    subst h
    unfold ixN
    rw [List.length_map, if_pos (by omega), if_pos (by omega), Int.toNat_natCast]
  rw [e]
  show (ns.map W.int)[n]? = _
  rw [List.getElem?_map, h2]
  rfl
theorem v_ixo {k : Nat} {j : Int} (h : st.m k = some (.lst xs)) (h2 : atI xs j = some w) : idxW (.obj k) (.int j) st = some w := by
  have e : view st (.obj k) = .lst xs := by simp only [view, h]
  show (match view st (.obj k), W.int j with
    | .lst xs, .int j => atI xs j
    | .tup xs, .int j => atI xs j
    | .str s, .int j => if s.length ≤ sizeLine then (atI s.cps.toList j).map fun c => .str ⟨#[c]⟩ else none
    | _, _ => none) = some w
  rw [e]
  exact h2
theorem v_ixl {j : Int} (h2 : atI xs j = some w) : idxW (.lst xs) (.int j) st = some w := h2
theorem v_ixt {j : Int} (h2 : atI xs j = some w) : idxW (.tup xs) (.int j) st = some w := h2
theorem v_seti {k : Nat} {j : Int} {n : Nat} (h : st.m k = some (.lst xs)) (h2 : ixN xs.length j = some n) : setI (.obj k) (.int j) y st = some (st.put k (.lst (xs.set n y))) := by
  unfold setI
  simp only [h, h2, Option.map_some]
end
/-! ### what isinstance says -/
theorem ty_nI {st : Sto}  : isTys st .non [.int] = some false := rfl
theorem ty_nB {st : Sto}  : isTys st .non [.bool] = some false := rfl
theorem ty_nS {st : Sto}  : isTys st .non [.str] = some false := rfl
theorem ty_nT {st : Sto}  : isTys st .non [.tup] = some false := rfl
theorem ty_nL {st : Sto}  : isTys st .non [.lst] = some false := rfl
theorem ty_bI {st : Sto} {b : Bool} : isTys st (.bl b) [.int] = some true := rfl
theorem ty_bB {st : Sto} {b : Bool} : isTys st (.bl b) [.bool] = some true := rfl
theorem ty_bS {st : Sto} {b : Bool} : isTys st (.bl b) [.str] = some false := rfl
theorem ty_bT {st : Sto} {b : Bool} : isTys st (.bl b) [.tup] = some false := rfl
theorem ty_bL {st : Sto} {b : Bool} : isTys st (.bl b) [.lst] = some false := rfl
theorem ty_iI {st : Sto} {i : Int} : isTys st (.int i) [.int] = some true := rfl
theorem ty_iB {st : Sto} {i : Int} : isTys st (.int i) [.bool] = some false := rfl
theorem ty_iS {st : Sto} {i : Int} : isTys st (.int i) [.str] = some false := rfl
theorem ty_iT {st : Sto} {i : Int} : isTys st (.int i) [.tup] = some false := rfl
theorem ty_iL {st : Sto} {i : Int} : isTys st (.int i) [.lst] = some false := rfl
theorem ty_sI {st : Sto} {s : Str} : isTys st (.str s) [.int] = some false := rfl
theorem ty_sB {st : Sto} {s : Str} : isTys st (.str s) [.bool] = some false := rfl
theorem ty_sS {st : Sto} {s : Str} : isTys st (.str s) [.str] = some true := rfl
theorem ty_sT {st : Sto} {s : Str} : isTys st (.str s) [.tup] = some false := rfl
theorem ty_sL {st : Sto} {s : Str} : isTys st (.str s) [.lst] = some false := rfl
theorem ty_tI {st : Sto} {xs : List W} : isTys st (.tup xs) [.int] = some false := rfl
theorem ty_tB {st : Sto} {xs : List W} : isTys st (.tup xs) [.bool] = some false := rfl
theorem ty_tS {st : Sto} {xs : List W} : isTys st (.tup xs) [.str] = some false := rfl
theorem ty_tT {st : Sto} {xs : List W} : isTys st (.tup xs) [.tup] = some true := rfl
theorem ty_tL {st : Sto} {xs : List W} : isTys st (.tup xs) [.lst] = some false := rfl
theorem ty_lI {st : Sto} {xs : List W} : isTys st (.lst xs) [.int] = some false := rfl
theorem ty_lB {st : Sto} {xs : List W} : isTys st (.lst xs) [.bool] = some false := rfl
theorem ty_lS {st : Sto} {xs : List W} : isTys st (.lst xs) [.str] = some false := rfl
theorem ty_lT {st : Sto} {xs : List W} : isTys st (.lst xs) [.tup] = some false := rfl
theorem ty_lL {st : Sto} {xs : List W} : isTys st (.lst xs) [.lst] = some true := rfl
theorem put_at (st : Sto) (k : Nat) (o : Ob) : (st.put k o).m k = some o := if_pos rfl
theorem put_off (st : Sto) (k j : Nat) (o : Ob) (h : j ≠ k) : (st.put k o).m j = st.m j := if_neg h
theorem put_n (st : Sto) (k : Nat) (o : Ob) : (st.put k o).n = st.n := rfl
theorem new_at (st : Sto) (o : Ob) : (st.new o).m st.n = some o := if_pos rfl
theorem new_off (st : Sto) (j : Nat) (o : Ob) (h : j ≠ st.n) : (st.new o).m j = st.m j := if_neg h
theorem new_n (st : Sto) (o : Ob) : (st.new o).n = st.n + 1 := rfl
theorem put_put (st : Sto) (k : Nat) (o o' : Ob) : (st.put k o).put k o' = st.put k o' := by
  unfold Sto.put
  congr 1
  funext j
  by_cases h : j = k <;> simp [h]
theorem put_at' {st : Sto} {k : Nat} {o : Ob} {a b : W} {xs : List W} : ((st.put k o).m k) = some o := put_at st k o
end Ip
/-! Ip21: the deck of a law: what its draws give; for, comprehensions; _law_is. -/
namespace Ip
open PySem L2
local macro_rules | `(tactic| walk_at "ipE") => `(tactic| with_reducible first
  | apply e_var | apply e_cst | apply e_glo | apply e_bin | apply e_idx | apply e_cmp | apply e_call | apply es_cons | apply es_nil | apply e_blt
  | apply e_and | apply e_or | apply e_ite | apply e_nt | apply e_neg | apply e_chn | apply e_last | apply e_bm | apply e_isi | apply e_sl | apply e_omit
  | apply e_tup | apply e_fz | apply e_ow | apply f_dis | apply f_cop | apply f_cat | apply f_lcp | apply i_ex | apply i_r1 | apply i_r2 | apply i_en | apply i_zp
  | apply s_nil | refine' s_nx (s_set ?_) ?_ | refine' s_nx (s_seti ?_ ?_ ?_ ?_) ?_ | refine' s_nx (s_ex ?_) ?_ | refine' s_nx (s_unp ?_ ?_) ?_ | refine' s_nx (s_aug ?_ ?_ ?_) ?_ | refine' s_rt (s_ret ?_) | apply s_if | apply ap_c | apply ap_n
  | apply if_t | apply if_f | apply if_nt | apply if_nf | refine' if_yes (by first | assumption | omega) ?_ | refine' if_no (by first | assumption | omega) ?_ | refine' if_nyes (by first | assumption | omega) ?_ | refine' if_nno (by first | assumption | omega) ?_)
local macro_rules | `(tactic| walk_at "ipV") => `(tactic| first
  | with_reducible apply v_eqI | with_reducible apply v_neI | with_reducible apply t_bl | with_reducible exact v_ixo (by assumption) rfl | with_reducible exact v_ixo (put_at _ _ _) rfl | with_reducible exact v_seti (by assumption) rfl | with_reducible exact v_seti (put_at _ _ _) rfl
  | with_reducible exact v_mod (by omega) | with_reducible exact v_fdivS (by omega) (by omega) | with_reducible exact v_mulS (by constructor <;> omega) (by constructor <;> omega)
  | with_reducible exact v_ixI rfl (by assumption)
  | with_reducible first | exact v_lenS (by assumption) | exact v_all | exact ty_nI | exact ty_nB | exact ty_nS | exact ty_nT | exact ty_nL | exact ty_bI | exact ty_bB | exact ty_bS | exact ty_bT | exact ty_bL | exact ty_iI | exact ty_iB | exact ty_iS | exact ty_iT | exact ty_iL | exact ty_sI | exact ty_sB | exact ty_sS | exact ty_sT | exact ty_sL | exact ty_tI | exact ty_tB | exact ty_tS | exact ty_tT | exact ty_tL | exact ty_lI | exact ty_lB | exact ty_lS | exact ty_lT | exact ty_lL
  | with_reducible exact Nat.le_of_ble_eq_true rfl
  | rfl)
def deckF : Fn := ⟨1, 3, [], [.set 1 (.cst (.int 7)),
  .for_ (.nm 2) (.ex (.var 0)) [.set 1 (.bin .mod (.blt .int [.bin .add (.bin .mul (.var 1) (.cst (.int 48271))) (.var 2)]) (.cst (.int 2147483647)))],
  .ret (.ow (.dis [.cst (.int 0), .cst (.int 0), .var 1, .fz (.cop (.var 0)), .cst (.int 0)]))]⟩
def drawF : Fn := ⟨2, 4, [], [.ife (.and (.cmp .eq (.idx (.var 0) (.cst (.int 0))) (.cst (.int 0))) (.cmp .lt (.idx (.var 0) (.cst (.int 1))) (.blt .len [.idx (.var 0) (.cst (.int 3))]))) [.seti (.var 0) (.cst (.int 0)) (.blt .abs [.idx (.idx (.var 0) (.cst (.int 3))) (.idx (.var 0) (.cst (.int 1)))]), .seti (.var 0) (.cst (.int 1)) (.bin .add (.idx (.var 0) (.cst (.int 1))) (.cst (.int 1)))] [.ife (.cmp .eq (.idx (.var 0) (.cst (.int 0))) (.cst (.int 0))) [.seti (.var 0) (.cst (.int 4)) (.bin .add (.idx (.var 0) (.cst (.int 4))) (.cst (.int 1))), .set 2 (.bin .mod (.blt .int [.bin .add (.bin .add (.bin .mul (.idx (.var 0) (.cst (.int 2))) (.cst (.int 48271))) (.bin .mul (.idx (.var 0) (.cst (.int 4))) (.cst (.int 69621)))) (.cst (.int 12345))]) (.cst (.int 2147483647))), .set 2 (.bin .mod (.blt .int [.bin .add (.bin .add (.bin .mul (.var 2) (.var 2)) (.bin .mul (.cst (.int 16807)) (.idx (.var 0) (.cst (.int 4))))) (.cst (.int 7))]) (.cst (.int 998244353))), .set 2 (.bin .mod (.blt .int [.bin .add (.bin .add (.bin .mul (.var 2) (.var 2)) (.bin .mul (.cst (.int 48271)) (.idx (.var 0) (.cst (.int 4))))) (.idx (.var 0) (.cst (.int 2)))]) (.cst (.int 2147483629))), .seti (.var 0) (.cst (.int 0)) (.bin .fdiv (.var 2) (.cst (.int 13)))] []],
  .set 3 (.bin .mod (.blt .int [.idx (.var 0) (.cst (.int 0))]) (.var 1)),
  .seti (.var 0) (.cst (.int 0)) (.bin .fdiv (.idx (.var 0) (.cst (.int 0))) (.var 1)),
  .ret (.var 3)]⟩
def sameF : Fn := ⟨2, 2, [], [.ret (.and (.cmp .eq (.var 1) (.var 0)) (.cmp .eq (.blt .repr [.var 0]) (.blt .repr [.var 1])))]⟩
def Dk (k b : Nat) (st : Sto) : Prop := ∃ (c p s q : Int) (ns : List Int), st.m k = some (.lst [.int c, .int p, .int s, .lst (ns.map W.int), .int q]) ∧ 0 ≤ c ∧ 0 ≤ p ∧ 0 ≤ s ∧ s < 2147483647 ∧ 0 ≤ q ∧ q ≤ b
def Keep (k : Nat) (st st' : Sto) : Prop := st'.n = st.n ∧ ∀ j, j ≠ k → st'.m j = st.m j
theorem Keep.put {k : Nat} {st st' : Sto} {o : Ob} (h : Keep k st st') : Keep k st (st'.put k o) := ⟨h.1, fun j hj => (put_off _ _ _ _ hj).trans (h.2 j hj)⟩
theorem Keep.rfl {k : Nat} {st : Sto} : Keep k st st := ⟨Eq.refl _, fun _ _ => Eq.refl _⟩
theorem draw_ok {T : Tab} {i : Nat} (hT : T.fns[i]? = some drawF) {d k b : Nat} {n : Int} {st : Sto} (hD : Dk k b st) (hb : b ≤ 2 ^ 40) (hn : 0 < n) (hn2 : n < 2 ^ 1000) :
    ∃ v st', runF T (d + 1) i [.obj k, .int n] st = .ok (.int v) st' ∧ 0 ≤ v ∧ v < n ∧ Dk k (b + 1) st' ∧ Keep k st st' := by
  obtain ⟨c, p, s, q, ns, h, h1, h2, h3, h4, h5, h6⟩ := hD
  have hb' : (b : Int) ≤ 2 ^ 40 := by exact_mod_cast hb
  by_cases hc : c = 0
  · by_cases hp : p < ns.length
    · obtain ⟨m, rfl⟩ : ∃ m : Nat, p = (m : Int) := ⟨p.toNat, by omega⟩
      have hm : m < ns.length := by omega
      have hi : ns[m]? = some ns[m] := List.getElem?_eq_getElem hm
      generalize ns[m] = cell at hi
      have hl : (((ns.map W.int).length : Nat) : Int) = ns.length := by rw [List.length_map]
      have hlt : (m : Int) < (ns.map W.int).length := by rw [hl]; exact hp
      refine' ⟨_, _, runs_of (fn := drawF) hT rfl (run_rt ?h1), ?h2⟩
      case h1 =>
        show exes T (runF T d) [_, _, _, _] [some (.obj k), some (.int n), none, none] st = _
        repeat' first | walk_at "ipE" | walk_at "ipV"
      case h2 => exact ⟨Int.emod_nonneg _ (by omega), Int.emod_lt_of_pos _ hn, ⟨_, _, _, _, _, put_at _ _ _, Int.ediv_nonneg (by split <;> omega) (by omega), by omega, h3, h4, h5, by push_cast; omega⟩, by repeat' first | exact Keep.rfl | apply Keep.put⟩
    · have hl : (((ns.map W.int).length : Nat) : Int) = ns.length := by rw [List.length_map]
      have hlt : ¬ p < (((ns.map W.int).length : Nat) : Int) := by rw [hl]; exact hp
      refine' ⟨_, _, runs_of (fn := drawF) hT rfl (run_rt ?h1), ?h2⟩
      case h1 =>
        show exes T (runF T d) [_, _, _, _] [some (.obj k), some (.int n), none, none] st = _
        repeat' first | walk_at "ipE" | walk_at "ipV"
      case h2 => exact ⟨Int.emod_nonneg _ (by omega), Int.emod_lt_of_pos _ hn, ⟨_, _, _, _, _, put_at _ _ _, Int.ediv_nonneg (by omega) (by omega), by omega, h3, h4, by omega, by push_cast; omega⟩, by repeat' first | exact Keep.rfl | apply Keep.put⟩
  · refine' ⟨_, _, runs_of (fn := drawF) hT rfl (run_rt ?h1), ?h2⟩
    case h1 =>
      show exes T (runF T d) [_, _, _, _] [some (.obj k), some (.int n), none, none] st = _
      repeat' first | walk_at "ipE" | walk_at "ipV"
    case h2 => exact ⟨Int.emod_nonneg _ (by omega), Int.emod_lt_of_pos _ hn, ⟨_, _, _, _, _, put_at _ _ _, Int.ediv_nonneg (by omega) (by omega), by omega, h3, h4, h5, by push_cast; omega⟩, by repeat' first | exact Keep.rfl | apply Keep.put⟩

theorem Keep.tr {k : Nat} {a b c : Sto} (h : Keep k a b) (g : Keep k b c) : Keep k a c := ⟨g.1.trans h.1, fun j hj => (g.2 j hj).trans (h.2 j hj)⟩
theorem Dk.le {k a b : Nat} {st : Sto} (h : Dk k a st) (l : a ≤ b) : Dk k b st := by
  obtain ⟨c, p, s, q, ns, h1, h2, h3, h4, h5, h6, h7⟩ := h
  have z : (a : Int) ≤ b := by exact_mod_cast l
  exact ⟨c, p, s, q, ns, h1, h2, h3, h4, h5, h6, Int.le_trans h7 z⟩
theorem v_rng {n : Int} (h0 : 0 ≤ n) (h : n < 2 ^ 62) : rngW 0 n = some ⟨(List.range n.toNat).map fun i => .int (i : Nat), []⟩ := by
  unfold rngW
  rw [if_pos ⟨by omega, by omega, by omega, h⟩, Int.sub_zero]
  congr 2
  apply List.map_congr_left
  intro i _
  rw [Int.zero_add]
/-! ### for and comprehensions -/
theorem for_ok {gd : List (Nat × List W)} {body : W → En → Sto → RS} (I : List W → En → Sto → Prop) (hs : ∀ xs r st, I xs r st → stays st gd) (step : ∀ x xs r st, I (x :: xs) r st → ∃ r' st', body x r st = .nx r' st' ∧ I xs r' st') :
    ∀ (xs : List W) (r : En) (st : Sto), I xs r st → ∃ r' st', forRun gd body xs r st = .nx r' st' ∧ I [] r' st'
  | [], r, st, h => ⟨r, st, if_pos (hs _ _ _ h), h⟩
  | x :: xs, r, st, h => by
    obtain ⟨r1, st1, e, h1⟩ := step x xs r st h
    obtain ⟨r2, st2, e2, h2⟩ := for_ok I hs step xs r1 st1 h1
    refine ⟨r2, st2, ?_, h2⟩
    unfold forRun
    rw [if_pos (hs _ _ _ h), e]
    exact e2
theorem lc_ok {gd : List (Nat × List W)} {turn : W → M (Option W)} (I : List W → List W → Sto → Prop) (hs : ∀ xs acc st, I xs acc st → stays st gd) (step : ∀ x xs acc st, I (x :: xs) acc st → ∃ o st', turn x st = .ok o st' ∧ I xs (match o with | some y => acc ++ [y] | none => acc) st') :
    ∀ (xs acc : List W) (st : Sto), acc.length + xs.length ≤ sizeLine → I xs acc st → ∃ ys st', lcRun gd turn xs acc st = .ok ys st' ∧ I [] ys st'
  | [], acc, st, _, h => ⟨acc, st, if_pos (hs _ _ _ h), h⟩
  | x :: xs, acc, st, hl, h => by
    obtain ⟨o, st1, e, h1⟩ := step x xs acc st h
    have hl' : (match o with | some y => acc ++ [y] | none => acc).length + xs.length ≤ sizeLine := by
      cases o <;> simp at hl ⊢ <;> omega
    obtain ⟨ys, st2, e2, h2⟩ := lc_ok I hs step xs _ st1 hl' h1
    refine ⟨ys, st2, ?_, h2⟩
    unfold lcRun
    rw [if_pos ⟨hs _ _ _ h, by simp at hl; omega⟩]
    exact bnd_go e e2
/-- a comprehension that changes nothing -/
theorem lc_map {turn : W → M (Option W)} (f : W → W) (st : Sto) (xs : List W) (h : ∀ x ∈ xs, turn x st = .ok (some (f x)) st) (hl : xs.length ≤ sizeLine) : lcRun [] turn xs [] st = .ok (xs.map f) st := by
  obtain ⟨ys, st', e, h1, h2⟩ := lc_ok (gd := []) (turn := turn) (fun r acc s => s = st ∧ (∀ x ∈ r, x ∈ xs) ∧ acc ++ r.map f = xs.map f) (fun _ _ _ _ => trivial) (fun x r acc s ⟨e1, e2, e3⟩ => by
    subst e1
    exact ⟨some (f x), s, h x (e2 x List.mem_cons_self), rfl, fun y hy => e2 y (List.mem_cons_of_mem _ hy), by simpa using e3⟩) xs [] st (by simpa using hl) ⟨rfl, fun _ h => h, rfl⟩
  subst h1
  rw [e]
  have h3 := h2.2
  rw [List.map_nil, List.append_nil] at h3
  rw [h3]
section
variable {T : Tab} {cf : CF} {r r' : En} {st s1 s2 : Sto} {t : Tg} {own : List Nat} {c e : Ex} {x y z : W}
theorem tn_yes (hb : bindT t x (wipeE r own) = some r') (hc : ev T cf c r' st = .ok z s1) (ht : tru s1 z = some true) (he : ev T cf e r' s1 = .ok y s2) : tnf T cf own t c e r x st = .ok (some y) s2 := by
  refine bnd_go (opt_go hb) ?_
  have h : ((ev T cf c r').bnd M.truth).bnd (fun b => if b then (ev T cf e r').bnd fun y => M.ret (some y) else M.ret none) st = .ok (some y) s2 := bnd_go (bnd_go hc (tru_go ht)) (bnd_go he rfl)
  unfold M.calm
  rw [h]
theorem tn_no (hb : bindT t x (wipeE r own) = some r') (hc : ev T cf c r' st = .ok z s1) (ht : tru s1 z = some false) : tnf T cf own t c e r x st = .ok none s1 := by
  refine bnd_go (opt_go hb) ?_
  have h : ((ev T cf c r').bnd M.truth).bnd (fun b => if b then (ev T cf e r').bnd fun y => M.ret (some y) else M.ret none) st = .ok none s1 := bnd_go (bnd_go hc (tru_go ht)) rfl
  unfold M.calm
  rw [h]
end

/-! ### the deck -/
theorem deck_ok {T : Tab} {i : Nat} (hT : T.fns[i]? = some deckF) {d : Nat} {st : Sto} {ns : List Int} (hl : ns.length ≤ 1000) (hf : st.m st.n = none) : ∃ st', runF T (d + 1) i [.lst (ns.map W.int)] st = .ok (.obj st.n) st' ∧ Dk st.n 0 st' ∧ st'.n = st.n + 1 ∧ ∀ j, j ≠ st.n → st'.m j = st.m j := by
  obtain ⟨r1, st1, e1, s, f, rfl, rfl, h1, h2⟩ := for_ok (gd := []) (body := fun x r st => match bindT (.nm 2) x r with | some r' => exes T (runF T d) [.set 1 (.bin .mod (.blt .int [.bin .add (.bin .mul (.var 1) (.cst (.int 48271))) (.var 2)]) (.cst (.int 2147483647)))] r' st | none => .stuck)
    (fun xs r s => ∃ (seed : Int) (f : Option W), r = [some (.lst (ns.map W.int)), some (.int seed), f] ∧ s = st ∧ 0 ≤ seed ∧ seed < 2147483647 ∧ ∀ x ∈ xs, ∃ i : Int, x = .int i)
    (fun _ _ _ _ => trivial) (fun x xs r s ⟨seed, f, hr, hs, h1, h2, h3⟩ => by
      obtain ⟨c, rfl⟩ := h3 x List.mem_cons_self
      subst hr hs
      refine' ⟨_, _, (show exes T (runF T d) _ [_, _, _] s = _ from ?_), ?_⟩
      rotate_left
      rotate_left
      · repeat' first | walk_at "ipE" | walk_at "ipV"
      · exact ⟨_, _, rfl, rfl, Int.emod_nonneg _ (by omega), Int.emod_lt_of_pos _ (by omega), fun y hy => h3 y (List.mem_cons_of_mem _ hy)⟩)
    (ns.map W.int) [some (.lst (ns.map W.int)), some (.int 7), none] st ⟨7, none, rfl, rfl, by omega, by omega, fun x hx => by
      obtain ⟨i, _, rfl⟩ := List.mem_map.mp hx
      exact ⟨i, rfl⟩⟩
  refine' ⟨_, runs_of (fn := deckF) hT rfl (run_rt ?h1), ?h2⟩
  case h1 =>
    show exes T (runF T d) [_, _, _] [some (.lst (ns.map W.int)), none, none] _ = _
    refine' s_nx (s_set e_cst) (s_nx (s_for (i_ex (e_var rfl) rfl) e1) ?_)
    repeat' first | walk_at "ipE" | walk_at "ipV"
  case h2 => exact ⟨⟨_, _, _, _, _, new_at _ _, by omega, by omega, h1, h2.1, by omega, by omega⟩, rfl, fun j hj => new_off _ _ _ hj⟩
/-- two things that are one datum: _law_is says yes -/
theorem same_ok {T : Tab} {i : Nat} (hT : T.fns[i]? = some sameF) {d : Nat} {st : Sto} {a b : W} {D : PyData} (ha : toPy (view st a) = some D) (hb : toPy (view st b) = some D) (h0 : strs? b a = none) (h1 : D.canLay0 = true) (h2 : D.depth ≤ 64) (h3 : D.showable = true) (h4 : D.shown.length ≤ sizeLine) :
    runF T (d + 1) i [a, b] st = .ok (.bl true) st := by
  have hs : SeqAt.shaped D = true := by
    unfold SeqAt.shaped
    rw [h1, decide_eq_true h2]; rfl
  have e : cop .eq b a st = some (.bl true) := by
    show (eqW b a st).map W.bl = _
    unfold eqW
    rw [h0]
    simp only [hb, ha, Option.bind_some]
    rw [if_pos ⟨hs, hs⟩, PySem.SeqAt.eqv_refl D h1]
    rfl
  have rp : ∀ x : W, toPy (view st x) = some D → bfn .repr [x] st = some (.str D.shown) := fun x hx => by
    show ((toPy (view st x)).bind fun d => if SeqAt.shaped d = true ∧ d.showable = true ∧ d.shown.length ≤ sizeLine then some (W.str d.shown) else none) = _
    rw [hx, Option.bind_some, if_pos ⟨hs, h3, h4⟩]
  refine runs_of (fn := sameF) hT rfl (run_rt (s_rt (s_ret ?_)))
  refine e_andT (e_cmp (e_var rfl) (e_var rfl) e) rfl (e_cmp (e_blt (es_cons (e_var rfl) es_nil) (rp a ha)) (e_blt (es_cons (e_var rfl) es_nil) (rp b hb)) ?_)
  show cop .eq (.str D.shown) (.str D.shown) st = some (.bl true)
  rw [v_eqS, decide_eq_true rfl]
end Ip
/-! The law's text for the interpreter (printed by wip/gen.py out of the linked law). -/
namespace K01
open PySem Ip L2
def top (i : Nat) : Stmt := PySem.Challenge.pw_everymerge_k01_items_and_vectors.main.body.getD i (.Pass ⟨0, 0, 0, 0⟩)
/-- is_count -/
def d0 : He.DefD := ⟨("is_count", none), "is_count", "is_count", defArgs (top 5), defBody (top 5), defScope (top 5), [.int (0), .non], []⟩
def b0 : List Stm := [.ife (.or (.nt (.isi (.var 0) [.int])) (.or (.isi (.var 0) [.bool]) (.cmp .lt (.var 0) (.var 1)))) [.ret (.cst (.bl false))] [],
  .ret (.or (.cmp .is_ (.var 2) (.cst (.non))) (.cmp .le (.var 0) (.var 2)))]
def f0 : Fn := ⟨3, 3, [.int 0, .non], b0⟩
/-- is_word -/
def d1 : He.DefD := ⟨("is_word", none), "is_word", "is_word", defArgs (top 6), defBody (top 6), defScope (top 6), [], []⟩
def b1 : List Stm := [.ife (.or (.nt (.isi (.var 0) [.str])) (.nt (.chn .le .le (.cst (.int 1)) (.blt .len [.var 0]) (.glo 0)))) [.ret (.cst (.bl false))] [],
  .ret (.blt .all [.fz (.lcp [1] (.nm 1) (.ex (.var 0)) (.cst (.bl true)) (.cmp .in_ (.var 1) (.glo 1)))])]
def f1 : Fn := ⟨1, 2, [], b1⟩
/-- is_item -/
def d2 : He.DefD := ⟨("is_item", none), "is_item", "is_item", defArgs (top 7), defBody (top 7), defScope (top 7), [], []⟩
def b2 : List Stm := [.ret (.or (.call 1 [.var 0]) (.call 0 [.var 0, .neg (.glo 2), .glo 2]))]
def f2 : Fn := ⟨1, 1, [], b2⟩
/-- is_vector -/
def d3 : He.DefD := ⟨("is_vector", none), "is_vector", "is_vector", defArgs (top 8), defBody (top 8), defScope (top 8), [], []⟩
def b3 : List Stm := [.ret (.and (.isi (.var 0) [.tup]) (.and (.cmp .eq (.blt .len [.var 0]) (.var 1)) (.blt .all [.fz (.lcp [2] (.nm 2) (.ex (.var 0)) (.cst (.bl true)) (.call 0 [.var 2]))])))]
def f3 : Fn := ⟨2, 3, [], b3⟩
/-- within -/
def d4 : He.DefD := ⟨("within", none), "within", "within", defArgs (top 9), defBody (top 9), defScope (top 9), [], []⟩
def b4 : List Stm := [.ret (.blt .all [.fz (.lcp [2, 3] (.tp [.nm 2, .nm 3]) (.zp (.var 0) (.var 1)) (.cst (.bl true)) (.cmp .le (.var 2) (.var 3)))])]
def f4 : Fn := ⟨2, 4, [], b4⟩
/-- meet -/
def d5 : He.DefD := ⟨("meet", none), "meet", "meet", defArgs (top 10), defBody (top 10), defScope (top 10), [], []⟩
def b5 : List Stm := [.ret (.blt .tuple [.fz (.lcp [2, 3] (.tp [.nm 2, .nm 3]) (.zp (.var 0) (.var 1)) (.cst (.bl true)) (.blt .min2 [.var 2, .var 3]))])]
def f5 : Fn := ⟨2, 4, [], b5⟩
/-- join -/
def d6 : He.DefD := ⟨("join", none), "join", "join", defArgs (top 11), defBody (top 11), defScope (top 11), [], []⟩
def b6 : List Stm := [.ret (.blt .tuple [.fz (.lcp [2, 3] (.tp [.nm 2, .nm 3]) (.zp (.var 0) (.var 1)) (.cst (.bl true)) (.blt .max2 [.var 2, .var 3]))])]
def f6 : Fn := ⟨2, 4, [], b6⟩
/-- _law_deck -/
def d7 : He.DefD := ⟨("_law_deck", none), "_law_deck", "_law_deck", defArgs (top 13), defBody (top 13), defScope (top 13), [], []⟩
def b7 : List Stm := [.set 1 (.cst (.int 7)),
  .for_ (.nm 2) (.ex (.var 0)) [.set 1 (.bin .mod (.blt .int [.bin .add (.bin .mul (.var 1) (.cst (.int 48271))) (.var 2)]) (.cst (.int 2147483647)))],
  .ret (.ow (.dis [.cst (.int 0), .cst (.int 0), .var 1, .fz (.cop (.var 0)), .cst (.int 0)]))]
def f7 : Fn := ⟨1, 3, [], b7⟩
/-- _law_draw -/
def d8 : He.DefD := ⟨("_law_draw", none), "_law_draw", "_law_draw", defArgs (top 14), defBody (top 14), defScope (top 14), [], []⟩
def b8 : List Stm := [.ife (.and (.cmp .eq (.idx (.var 0) (.cst (.int 0))) (.cst (.int 0))) (.cmp .lt (.idx (.var 0) (.cst (.int 1))) (.blt .len [.idx (.var 0) (.cst (.int 3))]))) [.seti (.var 0) (.cst (.int 0)) (.blt .abs [.idx (.idx (.var 0) (.cst (.int 3))) (.idx (.var 0) (.cst (.int 1)))]), .seti (.var 0) (.cst (.int 1)) (.bin .add (.idx (.var 0) (.cst (.int 1))) (.cst (.int 1)))] [.ife (.cmp .eq (.idx (.var 0) (.cst (.int 0))) (.cst (.int 0))) [.seti (.var 0) (.cst (.int 4)) (.bin .add (.idx (.var 0) (.cst (.int 4))) (.cst (.int 1))), .set 2 (.bin .mod (.blt .int [.bin .add (.bin .add (.bin .mul (.idx (.var 0) (.cst (.int 2))) (.cst (.int 48271))) (.bin .mul (.idx (.var 0) (.cst (.int 4))) (.cst (.int 69621)))) (.cst (.int 12345))]) (.cst (.int 2147483647))), .set 2 (.bin .mod (.blt .int [.bin .add (.bin .add (.bin .mul (.var 2) (.var 2)) (.bin .mul (.cst (.int 16807)) (.idx (.var 0) (.cst (.int 4))))) (.cst (.int 7))]) (.cst (.int 998244353))), .set 2 (.bin .mod (.blt .int [.bin .add (.bin .add (.bin .mul (.var 2) (.var 2)) (.bin .mul (.cst (.int 48271)) (.idx (.var 0) (.cst (.int 4))))) (.idx (.var 0) (.cst (.int 2)))]) (.cst (.int 2147483629))), .seti (.var 0) (.cst (.int 0)) (.bin .fdiv (.var 2) (.cst (.int 13)))] []],
  .set 3 (.bin .mod (.blt .int [.idx (.var 0) (.cst (.int 0))]) (.var 1)),
  .seti (.var 0) (.cst (.int 0)) (.bin .fdiv (.idx (.var 0) (.cst (.int 0))) (.var 1)),
  .ret (.var 3)]
def f8 : Fn := ⟨2, 4, [], b8⟩
/-- _law_is -/
def d9 : He.DefD := ⟨("_law_is", none), "_law_is", "_law_is", defArgs (top 15), defBody (top 15), defScope (top 15), [], []⟩
def b9 : List Stm := [.ret (.and (.cmp .eq (.var 1) (.var 0)) (.cmp .eq (.blt .repr [.var 0]) (.blt .repr [.var 1])))]
def f9 : Fn := ⟨2, 2, [], b9⟩
/-- _law_text -/
def d10 : He.DefD := ⟨("_law_text", none), "_law_text", "_law_text", defArgs (top 16), defBody (top 16), defScope (top 16), [], []⟩
def b10 : List Stm := [.set 1 (.fz (.dis [.cst (.str "a"), .cst (.str "z"), .cst (.str "m"), .cst (.str "q"), .cst (.str "e"), .cst (.str "k"), .cst (.str "A"), .cst (.str "0"), .cst (.str "_"), .cst (.str "-"), .cst (.str " "), .cst (.str "b"), .cst (.str "\n")])),
  .set 2 (.idx (.fz (.dis [.cst (.int 6), .cst (.int 6), .cst (.int 13)])) (.call 8 [.var 0, .cst (.int 3)])),
  .set 3 (.cst (.str "")),
  .for_ (.nm 4) (.r1 (.call 8 [.var 0, .cst (.int 10)])) [.set 3 (.bin .add (.var 3) (.idx (.var 1) (.call 8 [.var 0, .var 2])))],
  .ret (.var 3)]
def f10 : Fn := ⟨1, 5, [], b10⟩
/-- _law_value -/
def d11 : He.DefD := ⟨("_law_value", none), "_law_value", "_law_value", defArgs (top 17), defBody (top 17), defScope (top 17), [], []⟩
def b11 : List Stm := [.set 2 (.call 8 [.var 0, .cst (.int 8)]),
  .ife (.cmp .lt (.var 2) (.cst (.int 2))) [.ret (.call 10 [.var 0])] [],
  .ife (.cmp .eq (.var 2) (.cst (.int 2))) [.ret (.idx (.fz (.dis [.cst (.bl true), .cst (.bl false), .cst (.non), .cst (.int 0), .cst (.int 1), .neg (.cst (.int 1))])) (.call 8 [.var 0, .cst (.int 6)]))] [],
  .ife (.cmp .eq (.var 2) (.cst (.int 3))) [.ret (.idx (.fz (.dis [.cst (.int 1000000), .neg (.cst (.int 1000000)), .cst (.int 1000001), .neg (.cst (.int 1000001)), .bin .pow (.cst (.int 10)) (.cst (.int 30))])) (.call 8 [.var 0, .cst (.int 5)]))] [],
  .ife (.or (.cmp .lt (.var 2) (.cst (.int 6))) (.cmp .eq (.var 1) (.cst (.int 0)))) [.ret (.bin .sub (.call 8 [.var 0, .cst (.int 30)]) (.cst (.int 10)))] [],
  .set 3 (.fz (.lcp [4] (.nm 4) (.r1 (.call 8 [.var 0, .cst (.int 5)])) (.cst (.bl true)) (.call 11 [.var 0, .bin .sub (.var 1) (.cst (.int 1))]))),
  .ret (.idx (.fz (.dis [.blt .tuple [.var 3], .var 3])) (.blt .int [.cmp .eq (.var 2) (.cst (.int 7))]))]
def f11 : Fn := ⟨2, 5, [], b11⟩
/-- _law_is_count -/
def d12 : He.DefD := ⟨("_law_is_count", none), "_law_is_count", "_law_is_count", defArgs (top 18), defBody (top 18), defScope (top 18), [], []⟩
def b12 : List Stm := [.ife (.or (.nt (.isi (.var 0) [.int])) (.or (.isi (.var 0) [.bool]) (.cmp .lt (.var 0) (.var 1)))) [.ret (.cst (.bl false))] [],
  .ret (.or (.cmp .is_ (.var 2) (.cst (.non))) (.cmp .le (.var 0) (.var 2)))]
def f12 : Fn := ⟨3, 3, [], b12⟩
/-- _law_is_word -/
def d13 : He.DefD := ⟨("_law_is_word", none), "_law_is_word", "_law_is_word", defArgs (top 19), defBody (top 19), defScope (top 19), [], []⟩
def b13 : List Stm := [.ife (.or (.nt (.isi (.var 0) [.str])) (.or (.cmp .lt (.blt .len [.var 0]) (.cst (.int 1))) (.cmp .gt (.blt .len [.var 0]) (.cst (.int 8))))) [.ret (.cst (.bl false))] [],
  .ret (.blt .all [.fz (.lcp [1] (.nm 1) (.ex (.var 0)) (.cst (.bl true)) (.cmp .in_ (.var 1) (.cst (.str "abcdefghijklmnopqrstuvwxyz"))))])]
def f13 : Fn := ⟨1, 2, [], b13⟩
/-- law -/
def d14 : He.DefD := ⟨("law", none), "law", "law", defArgs (top 20), defBody (top 20), defScope (top 20), [], []⟩
def b14 : List Stm := [.set 1 (.call 7 [.var 0]),
  .ife (.or (.cmp .ne (.glo 3) (.cst (.int 12))) (.cmp .ne (.glo 2) (.cst (.int 1000000)))) [.ret (.cst (.bl false))] [],
  .for_ (.nm 2) (.r1 (.cst (.int 12))) [.set 3 (.call 11 [.var 1, .cst (.int 2)]), .set 4 (.bin .sub (.call 8 [.var 1, .cst (.int 9)]) (.cst (.int 4))), .set 5 (.idx (.fz (.dis [.cst (.non), .bin .sub (.bin .add (.var 4) (.call 8 [.var 1, .cst (.int 9)])) (.cst (.int 1))])) (.call 8 [.var 1, .cst (.int 2)])), .set 6 (.ow (.dis [.call 0 [.var 3], .call 0 [.var 3, .var 4], .call 0 [.var 3, .var 4, .var 5], .call 0 [.var 3, .cst (.int 0), .var 5]])), .set 7 (.ow (.dis [.call 12 [.var 3, .cst (.int 0), .cst (.non)], .call 12 [.var 3, .var 4, .cst (.non)]])), .set 7 (.ow (.cat (.var 7) (.fz (.dis [.call 12 [.var 3, .var 4, .var 5], .call 12 [.var 3, .cst (.int 0), .var 5]])))), .set 6 (.ow (.cat (.var 6) (.fz (.dis [.call 1 [.var 3], .call 2 [.var 3]])))), .set 7 (.ow (.cat (.var 7) (.fz (.dis [.call 13 [.var 3], .or (.call 13 [.var 3]) (.call 12 [.var 3, .neg (.cst (.int 1000000)), .cst (.int 1000000)])])))), .set 8 (.call 8 [.var 1, .cst (.int 6)]), .ex (.bm .append (.var 6) [.call 3 [.var 3, .var 8]]), .set 9 (.and (.isi (.var 3) [.tup]) (.cmp .eq (.blt .len [.var 3]) (.var 8))), .ex (.bm .append (.var 7) [.and (.var 9) (.blt .all [.fz (.lcp [10] (.nm 10) (.ex (.var 3)) (.cst (.bl true)) (.call 12 [.var 10, .cst (.int 0), .cst (.non)]))])]), .ife (.nt (.call 9 [.var 6, .var 7])) [.ret (.cst (.bl false))] []],
  .set 8 (.call 8 [.var 1, .cst (.int 13)]),
  .set 11 (.idx (.fz (.dis [.cst (.int 2), .cst (.int 4), .cst (.int 1000)])) (.call 8 [.var 1, .cst (.int 3)])),
  .set 12 (.blt .tuple [.fz (.lcp [13] (.nm 13) (.r1 (.var 8)) (.cst (.bl true)) (.call 8 [.var 1, .var 11]))]),
  .set 14 (.blt .tuple [.fz (.lcp [13] (.nm 13) (.r1 (.var 8)) (.cst (.bl true)) (.idx (.fz (.dis [.call 8 [.var 1, .var 11], .idx (.var 12) (.var 13)])) (.call 8 [.var 1, .cst (.int 2)])))]),
  .set 15 (.blt .tuple [.fz (.lcp [13] (.nm 13) (.r1 (.var 8)) (.cst (.bl true)) (.blt .min2 [.idx (.var 12) (.var 13), .idx (.var 14) (.var 13)]))]),
  .set 16 (.blt .tuple [.fz (.lcp [13] (.nm 13) (.r1 (.var 8)) (.cst (.bl true)) (.blt .max2 [.idx (.var 12) (.var 13), .idx (.var 14) (.var 13)]))]),
  .set 6 (.ow (.dis [.call 5 [.var 12, .var 14], .call 6 [.var 12, .var 14], .call 4 [.var 12, .var 14], .call 4 [.var 14, .var 12], .call 4 [.var 15, .var 12], .call 4 [.var 14, .var 16]])),
  .ret (.call 9 [.var 6, .fz (.dis [.var 15, .var 16, .cmp .eq (.var 12) (.var 15), .cmp .eq (.var 14) (.var 15), .cst (.bl true), .cst (.bl true)])])]
def f14 : Fn := ⟨1, 17, [], b14⟩
def tab : Tab := ⟨[f0, f1, f2, f3, f4, f5, f6, f7, f8, f9, f10, f11, f12, f13, f14], [], [.int 8, .str "abcdefghijklmnopqrstuvwxyz", .int 1000000, .int 12]⟩
def pg : Pg where
  P := PySem.Challenge.pw_everymerge_k01_items_and_vectors
  fre := ["isinstance", "bool", "int", "len", "str", "all", "tuple", "zip", "min", "max", "list", "abs", "repr", "range"]
  T := tab
  an := []
  cn := []
  gn := ["WORD_MOST", "LETTERS", "ITEM_MOST", "COPIES_MOST"]
  fn := [d0, d1, d2, d3, d4, d5, d6, d7, d8, d9, d10, d11, d12, d13, d14]
  nn := [["value", "least", "most"],
    ["value", "letter"],
    ["value"],
    ["value", "count", "item"],
    ["first", "second", "one", "two"],
    ["first", "second", "one", "two"],
    ["first", "second", "one", "two"],
    ["script", "seed", "cell"],
    ["deck", "bound", "number", "value"],
    ["told", "due"],
    ["deck", "letters", "wide", "text", "k"],
    ["deck", "deep", "kind", "row", "k"],
    ["value", "least", "most"],
    ["value", "letter"],
    ["script", "deck", "turn", "value", "least", "most", "told", "due", "count", "right", "item", "wide", "one", "k", "two", "low", "high"]]
  cb := [(0, 3), (1, 1), (0, 1), (8, 2), (10, 1), (11, 2), (7, 1), (0, 2), (12, 3), (2, 1), (13, 1), (3, 2), (9, 2), (5, 2), (6, 2), (4, 2), (14, 1)]
  cw := []
theorem chk : ckAll pg = true := by decide +kernel
theorem bq0_3 : BindQ d0 3 := .inr ⟨List.cons_ne_nil _ _, 2, rfl, fun _ _ _ _ _ _ _ us its h1 h2 => match us, (show us.length = 3 from h1), its, (show its.length = 2 from h2) with | [_, _, _], _, [_, _], _ => ⟨_, rfl, rfl⟩⟩
theorem bq1_1 : BindQ d1 1 := .inl ⟨rfl, fun _ _ _ _ _ _ us hl => match us, (show us.length = 1 from hl) with | [_], _ => rfl⟩
theorem bq0_1 : BindQ d0 1 := .inr ⟨List.cons_ne_nil _ _, 0, rfl, fun _ _ _ _ _ _ _ us its h1 h2 => match us, (show us.length = 1 from h1), its, (show its.length = 2 from h2) with | [_], _, [_, _], _ => ⟨_, rfl, rfl⟩⟩
theorem bq8_2 : BindQ d8 2 := .inl ⟨rfl, fun _ _ _ _ _ _ us hl => match us, (show us.length = 2 from hl) with | [_, _], _ => rfl⟩
theorem bq10_1 : BindQ d10 1 := .inl ⟨rfl, fun _ _ _ _ _ _ us hl => match us, (show us.length = 1 from hl) with | [_], _ => rfl⟩
theorem bq11_2 : BindQ d11 2 := .inl ⟨rfl, fun _ _ _ _ _ _ us hl => match us, (show us.length = 2 from hl) with | [_, _], _ => rfl⟩
theorem bq7_1 : BindQ d7 1 := .inl ⟨rfl, fun _ _ _ _ _ _ us hl => match us, (show us.length = 1 from hl) with | [_], _ => rfl⟩
theorem bq0_2 : BindQ d0 2 := .inr ⟨List.cons_ne_nil _ _, 1, rfl, fun _ _ _ _ _ _ _ us its h1 h2 => match us, (show us.length = 2 from h1), its, (show its.length = 2 from h2) with | [_, _], _, [_, _], _ => ⟨_, rfl, rfl⟩⟩
theorem bq12_3 : BindQ d12 3 := .inl ⟨rfl, fun _ _ _ _ _ _ us hl => match us, (show us.length = 3 from hl) with | [_, _, _], _ => rfl⟩
theorem bq2_1 : BindQ d2 1 := .inl ⟨rfl, fun _ _ _ _ _ _ us hl => match us, (show us.length = 1 from hl) with | [_], _ => rfl⟩
theorem bq13_1 : BindQ d13 1 := .inl ⟨rfl, fun _ _ _ _ _ _ us hl => match us, (show us.length = 1 from hl) with | [_], _ => rfl⟩
theorem bq3_2 : BindQ d3 2 := .inl ⟨rfl, fun _ _ _ _ _ _ us hl => match us, (show us.length = 2 from hl) with | [_, _], _ => rfl⟩
theorem bq9_2 : BindQ d9 2 := .inl ⟨rfl, fun _ _ _ _ _ _ us hl => match us, (show us.length = 2 from hl) with | [_, _], _ => rfl⟩
theorem bq5_2 : BindQ d5 2 := .inl ⟨rfl, fun _ _ _ _ _ _ us hl => match us, (show us.length = 2 from hl) with | [_, _], _ => rfl⟩
theorem bq6_2 : BindQ d6 2 := .inl ⟨rfl, fun _ _ _ _ _ _ us hl => match us, (show us.length = 2 from hl) with | [_, _], _ => rfl⟩
theorem bq4_2 : BindQ d4 2 := .inl ⟨rfl, fun _ _ _ _ _ _ us hl => match us, (show us.length = 2 from hl) with | [_, _], _ => rfl⟩
theorem bq14_1 : BindQ d14 1 := .inl ⟨rfl, fun _ _ _ _ _ _ us hl => match us, (show us.length = 1 from hl) with | [_], _ => rfl⟩
theorem bnd : ∀ q ∈ pg.cb, ∀ D, pg.fn[q.1]? = some D → BindQ D q.2 := by
  intro q hq D hD
  simp only [pg, List.mem_cons, List.mem_nil_iff, or_false] at hq
  rcases hq with rfl | rfl | rfl | rfl | rfl | rfl | rfl | rfl | rfl | rfl | rfl | rfl | rfl | rfl | rfl | rfl | rfl
  · cases (show some d0 = some D from hD); exact bq0_3
  · cases (show some d1 = some D from hD); exact bq1_1
  · cases (show some d0 = some D from hD); exact bq0_1
  · cases (show some d8 = some D from hD); exact bq8_2
  · cases (show some d10 = some D from hD); exact bq10_1
  · cases (show some d11 = some D from hD); exact bq11_2
  · cases (show some d7 = some D from hD); exact bq7_1
  · cases (show some d0 = some D from hD); exact bq0_2
  · cases (show some d12 = some D from hD); exact bq12_3
  · cases (show some d2 = some D from hD); exact bq2_1
  · cases (show some d13 = some D from hD); exact bq13_1
  · cases (show some d3 = some D from hD); exact bq3_2
  · cases (show some d9 = some D from hD); exact bq9_2
  · cases (show some d5 = some D from hD); exact bq5_2
  · cases (show some d6 = some D from hD); exact bq6_2
  · cases (show some d4 = some D from hD); exact bq4_2
  · cases (show some d14 = some D from hD); exact bq14_1
abbrev Rw : PySem.W.OpenRow := PySem.W.OpenLaw.row PySem.Challenge.rw_everymerge_k01_items_and_vectors
def loose : List Str := ["COPIES_MOST", "ITEM_MOST", "WORD_MOST", "LETTERS", "is_count", "is_word", "is_item", "is_vector", "within", "meet", "join", "_law_deck", "_law_draw", "_law_is", "_law_text", "_law_value", "_law_is_count", "_law_is_word"]
theorem run (w : World) : HandSHeadRun.RunEq Rw (PySem.W.view Rw.prog [20]) (hkOf pg 5) (obOf pg 5) 4000 loose w := by
  intro os
  kernel_rfl
end K01
namespace K01
open PySem Ip L2
local macro_rules | `(tactic| walk_at "ipE") => `(tactic| with_reducible first
  | apply e_var | apply e_cst | apply e_glo | apply e_bin | apply e_idx | apply e_cmp | apply e_call | apply es_cons | apply es_nil | apply e_blt
  | apply e_and | apply e_or | apply e_ite | apply e_nt | apply e_neg | apply e_chn | apply e_last | apply e_bm | apply e_isi | apply e_sl | apply e_omit
  | apply e_tup | apply e_fz | apply e_ow | apply f_dis | apply f_cop | apply f_cat | apply f_lcp | apply i_ex | apply i_r1 | apply i_r2 | apply i_en | apply i_zp
  | apply s_nil | refine' s_nx (s_set ?_) ?_ | refine' s_nx (s_seti ?_ ?_ ?_ ?_) ?_ | refine' s_nx (s_ex ?_) ?_ | refine' s_nx (s_unp ?_ ?_) ?_ | refine' s_nx (s_aug ?_ ?_ ?_) ?_ | refine' s_rt (s_ret ?_) | apply s_if | apply ap_c | apply ap_n
  | apply if_t | apply if_f | apply if_nt | apply if_nf | refine' if_yes (by first | assumption | omega) ?_ | refine' if_no (by first | assumption | omega) ?_ | refine' if_nyes (by first | assumption | omega) ?_ | refine' if_nno (by first | assumption | omega) ?_)
local macro_rules | `(tactic| walk_at "ipV") => `(tactic| first
  | with_reducible apply v_eqI | with_reducible apply v_neI | with_reducible apply t_bl | with_reducible exact v_ixo (by assumption) rfl | with_reducible exact v_ixo (put_at _ _ _) rfl | with_reducible exact v_seti (by assumption) rfl | with_reducible exact v_seti (put_at _ _ _) rfl
  | with_reducible exact v_mod (by omega) | with_reducible exact v_fdivS (by omega) (by omega) | with_reducible exact v_mulS (by constructor <;> omega) (by constructor <;> omega)
  | with_reducible exact v_ixI rfl (by assumption)
  | with_reducible first | exact v_lenS (by assumption) | exact v_all | exact ty_nI | exact ty_nB | exact ty_nS | exact ty_nT | exact ty_nL | exact ty_bI | exact ty_bB | exact ty_bS | exact ty_bT | exact ty_bL | exact ty_iI | exact ty_iB | exact ty_iS | exact ty_iT | exact ty_iL | exact ty_sI | exact ty_sB | exact ty_sS | exact ty_sT | exact ty_sL | exact ty_tI | exact ty_tB | exact ty_tS | exact ty_tT | exact ty_tL | exact ty_lI | exact ty_lB | exact ty_lS | exact ty_lT | exact ty_lL
  | with_reducible exact Nat.le_of_ble_eq_true rfl
  | rfl)
/-! ### what the program's checks say -/
def plain : W → Bool
  | .non => true
  | .bl _ => true
  | .int _ => true
  | .str _ => true
  | .tup _ => true
  | .lst _ => true
  | _ => false
def mW : Option Int → W
  | none => .non
  | some j => .int j
def icount (v : W) (l : Int) (m : Option Int) : Bool := match v with
  | .int i => !decide (i < l) && (match m with | none => true | some j => decide (i ≤ j))
  | _ => false
theorem rt_eq {w w' : W} {st : Sto} (h : w = w') : RS.rt w st = RS.rt w' st := by rw [h]
theorem count_b {cf : CF} {v : W} {l : Int} {m : Option Int} {st : Sto} (hv : plain v = true) : exes tab cf b0 [some v, some (.int l), some (mW m)] st = .rt (.bl (icount v l m)) st := by
  have other : icount v l m = false → (∀ i, v ≠ .int i) → exes tab cf b0 [some v, some (.int l), some (mW m)] st = .rt (.bl (icount v l m)) st := fun h1 h2 => by
    rw [h1]
    refine' Eq.trans (b := RS.rt _ _) ?goA ?goB
    case goA =>
      cases v <;> first | (cases hv; done) | (exact absurd rfl (h2 _)) | skip
      all_goals
        unfold b0
        repeat' first | walk_at "ipE" | walk_at "ipV"
    case goB => rfl
  cases v <;> first | (cases hv; done) | (exact other rfl (fun i z => by cases z)) | skip
  rename_i i
  by_cases hl : i < l
  · refine' Eq.trans (b := RS.rt _ _) ?goA (rt_eq ?goB)
    case goA =>
      unfold b0
      repeat' first | walk_at "ipE" | walk_at "ipV"
    case goB => simp [icount, hl]
  · cases m with
    | none =>
      refine' Eq.trans (b := RS.rt _ _) ?goA (rt_eq ?goB)
      case goA =>
        unfold b0 mW
        repeat' first | walk_at "ipE" | walk_at "ipV"
      case goB => simp [icount, hl]
    | some j =>
      refine' Eq.trans (b := RS.rt _ _) ?goA (rt_eq ?goB)
      case goA =>
        unfold b0 mW
        repeat' first | walk_at "ipE" | walk_at "ipV"
      case goB => simp [icount, hl]
theorem count0_3 {d : Nat} {v : W} {l : Int} {m : Option Int} {st : Sto} (hv : plain v = true) : runF tab (d + 1) 0 [v, .int l, mW m] st = .ok (.bl (icount v l m)) st := runs_of (fn := f0) rfl rfl (run_rt (count_b hv))
theorem count0_2 {d : Nat} {v : W} {l : Int} {st : Sto} (hv : plain v = true) : runF tab (d + 1) 0 [v, .int l] st = .ok (.bl (icount v l none)) st := runs_of (fn := f0) rfl rfl (run_rt (count_b (m := none) hv))
theorem count0_1 {d : Nat} {v : W} {st : Sto} (hv : plain v = true) : runF tab (d + 1) 0 [v] st = .ok (.bl (icount v 0 none)) st := runs_of (fn := f0) rfl rfl (run_rt (count_b (m := none) hv))
theorem count12 {d : Nat} {v : W} {l : Int} {m : Option Int} {st : Sto} (hv : plain v = true) : runF tab (d + 1) 12 [v, .int l, mW m] st = .ok (.bl (icount v l m)) st := runs_of (fn := f12) rfl rfl (run_rt (count_b hv))
def abc : Str := "abcdefghijklmnopqrstuvwxyz"
def letter (c : Nat) : Bool := !(Builtin.Str.occurrences abc ⟨#[c]⟩ 0 abc.length 1).isEmpty
def iword (v : W) : Bool := match v with
  | .str s => decide (1 ≤ (s.length : Int)) && (decide ((s.length : Int) ≤ 8) && (s.cps.toList.map letter).all id)
  | _ => false
theorem words_b {cf : CF} {s : Str} {e : Ex} {st : Sto} (he : ∀ c : Nat, ev tab cf e [some (.str s), some (.str ⟨#[c]⟩)] st = .ok (.bl (letter c)) st) (hl : s.length ≤ sizeLine) :
    lcRun [] (tnf tab cf [1] (.nm 1) (.cst (.bl true)) e [some (.str s), none]) (s.cps.toList.map fun c => .str ⟨#[c]⟩) [] st = .ok (s.cps.toList.map fun c => .bl (letter c)) st := by
  have z := lc_map (turn := tnf tab cf [1] (.nm 1) (.cst (.bl true)) e [some (.str s), none]) (fun w => match w with | .str z => .bl (letter (z.cps.getD 0 0)) | w => w) st (s.cps.toList.map fun c => .str ⟨#[c]⟩) (fun x hx => by
    obtain ⟨c, _, rfl⟩ := List.mem_map.mp hx
    exact tn_yes rfl e_cst rfl (he c)) (by rw [List.length_map, Array.length_toList]; exact hl)
  rw [z, List.map_map]
  rfl
theorem word_b {cf : CF} {v : W} {st : Sto} (hv : plain v = true) (hs : ∀ s, v = .str s → s.length ≤ sizeLine) : exes tab cf b1 [some v, none] st = .rt (.bl (iword v)) st := by
  have other : iword v = false → (∀ i, v ≠ .str i) → exes tab cf b1 [some v, none] st = .rt (.bl (iword v)) st := fun h1 h2 => by
    rw [h1]
    refine' Eq.trans (b := RS.rt _ _) ?goA ?goB
    case goA =>
      cases v <;> first | (cases hv; done) | (exact absurd rfl (h2 _)) | skip
      all_goals
        unfold b1
        repeat' first | walk_at "ipE" | walk_at "ipV"
    case goB => rfl
  cases v <;> first | (cases hv; done) | (exact other rfl (fun i z => by cases z)) | skip
  rename_i s
  have hl := hs s rfl
  have hw := words_b (cf := cf) (s := s) (e := .cmp .in_ (.var 1) (.glo 1)) (st := st) (fun c => by
    refine' Eq.trans (b := RR.ok _ _) ?goC ?goD
    case goC => repeat' first | walk_at "ipE" | walk_at "ipV"
    case goD => rfl) hl
  by_cases h1 : (1 : Int) ≤ s.length
  · by_cases h8 : (s.length : Int) ≤ 8
    · refine' Eq.trans (b := RS.rt _ _) ?goA (rt_eq ?goB)
      case goA =>
        unfold b1
        repeat' first | walk_at "ipE" | exact hw | walk_at "ipV"
      case goB => simp [iword, h1, h8]
    · refine' Eq.trans (b := RS.rt _ _) ?goA (rt_eq ?goB)
      case goA =>
        unfold b1
        repeat' first | walk_at "ipE" | exact hw | walk_at "ipV"
      case goB => simp [iword, h1, h8]
  · refine' Eq.trans (b := RS.rt _ _) ?goA (rt_eq ?goB)
    case goA =>
      unfold b1
      repeat' first | walk_at "ipE" | exact hw | walk_at "ipV"
    case goB => simp [iword, h1]
theorem word1 {d : Nat} {v : W} {st : Sto} (hv : plain v = true) (hs : ∀ s, v = .str s → s.length ≤ sizeLine) : runF tab (d + 1) 1 [v] st = .ok (.bl (iword v)) st := runs_of (fn := f1) rfl rfl (run_rt (word_b hv hs))
theorem lword_b {cf : CF} {v : W} {st : Sto} (hv : plain v = true) (hs : ∀ s, v = .str s → s.length ≤ sizeLine) : exes tab cf b13 [some v, none] st = .rt (.bl (iword v)) st := by
  have other : iword v = false → (∀ i, v ≠ .str i) → exes tab cf b13 [some v, none] st = .rt (.bl (iword v)) st := fun h1 h2 => by
    rw [h1]
    refine' Eq.trans (b := RS.rt _ _) ?goA ?goB
    case goA =>
      cases v <;> first | (cases hv; done) | (exact absurd rfl (h2 _)) | skip
      all_goals
        unfold b13
        repeat' first | walk_at "ipE" | walk_at "ipV"
    case goB => rfl
  cases v <;> first | (cases hv; done) | (exact other rfl (fun i z => by cases z)) | skip
  rename_i s
  have hl := hs s rfl
  have hw := words_b (cf := cf) (s := s) (e := .cmp .in_ (.var 1) (.cst (.str "abcdefghijklmnopqrstuvwxyz"))) (st := st) (fun c => by
    refine' Eq.trans (b := RR.ok _ _) ?goC ?goD
    case goC => repeat' first | walk_at "ipE" | walk_at "ipV"
    case goD => rfl) hl
  by_cases h1 : (s.length : Int) < 1
  · have h1' : ¬ (1 : Int) ≤ s.length := by omega
    refine' Eq.trans (b := RS.rt _ _) ?goA (rt_eq ?goB)
    case goA =>
      unfold b13
      repeat' first | walk_at "ipE" | exact hw | walk_at "ipV"
    case goB => simp [iword, h1']
  · have h1' : (1 : Int) ≤ s.length := by omega
    by_cases h8 : (8 : Int) < s.length
    · have h8' : ¬ (s.length : Int) ≤ 8 := by omega
      refine' Eq.trans (b := RS.rt _ _) ?goA (rt_eq ?goB)
      case goA =>
        unfold b13
        repeat' first | walk_at "ipE" | exact hw | walk_at "ipV"
      case goB => simp [iword, h1', h8']
    · have h8' : (s.length : Int) ≤ 8 := by omega
      refine' Eq.trans (b := RS.rt _ _) ?goA (rt_eq ?goB)
      case goA =>
        unfold b13
        repeat' first | walk_at "ipE" | exact hw | walk_at "ipV"
      case goB => simp [iword, h1', h8']
theorem lword {d : Nat} {v : W} {st : Sto} (hv : plain v = true) (hs : ∀ s, v = .str s → s.length ≤ sizeLine) : runF tab (d + 1) 13 [v] st = .ok (.bl (iword v)) st := runs_of (fn := f13) rfl rfl (run_rt (lword_b hv hs))
def iitem (v : W) : Bool := iword v || icount v (-1000000) (some 1000000)
theorem item_ok {d : Nat} {v : W} {st : Sto} (hv : plain v = true) (hs : ∀ s, v = .str s → s.length ≤ sizeLine) : runF tab (d + 2) 2 [v] st = .ok (.bl (iitem v)) st := by
  refine runs_of (fn := f2) rfl rfl (run_rt ?_)
  have a := word1 (d := d) (st := st) hv hs
  have b := count0_3 (d := d) (st := st) (l := -1000000) (m := some 1000000) hv
  refine s_rt (s_ret (Eq.trans (e_or (e_call (es_cons (e_var rfl) es_nil) a) t_bl (y := .bl (iitem v)) (s2 := st) ?_) rfl))
  unfold iitem
  cases iword v
  · exact e_call (es_cons (e_var rfl) (es_cons (e_neg (i := 1000000) (e_glo rfl)) (es_cons (e_glo rfl) es_nil))) b
  · rfl
/-- a tuple of so many counts -/
def ivec (v : W) (n : Int) : Bool := match v with
  | .tup xs => decide ((xs.length : Int) = n) && (xs.map fun x => icount x 0 none).all id
  | _ => false
theorem counts_b {i d : Nat} {r : En} {own : List Nat} {j : Nat} {e : Ex} {xs : List W} {st : Sto} (hb : ∀ x, plain x = true → ∃ r', bindT (.nm j) x (wipeE r own) = some r' ∧ ev tab (runF tab (d + 1)) e r' st = .ok (.bl (icount x 0 none)) st) (hx : ∀ x ∈ xs, plain x = true) (hl : xs.length ≤ sizeLine) :
    lcRun [] (tnf tab (runF tab (d + 1)) own (.nm j) (.cst (.bl true)) e r) xs [] st = .ok (xs.map fun x => .bl (icount x 0 none)) st :=
  lc_map (fun x => .bl (icount x 0 none)) st xs (fun x h => by
    obtain ⟨r', e1, e2⟩ := hb x (hx x h)
    exact tn_yes e1 e_cst rfl e2) hl
theorem vec_ok {d : Nat} {v : W} {n : Int} {st : Sto} (hv : plain v = true) (ht : ∀ xs, v = .tup xs → xs.length ≤ sizeLine ∧ ∀ x ∈ xs, plain x = true) : runF tab (d + 2) 3 [v, .int n] st = .ok (.bl (ivec v n)) st := by
  refine runs_of (fn := f3) rfl rfl (run_rt ?_)
  show exes tab (runF tab (d + 1)) b3 [some v, some (.int n), none] st = _
  by_cases hh : ∃ xs, v = .tup xs
  · obtain ⟨xs, rfl⟩ := hh
    obtain ⟨hl, hx⟩ := ht xs rfl
    have hc := counts_b (i := 0) (d := d) (r := [some (.tup xs), some (.int n), none]) (own := [2]) (j := 2) (e := .call 0 [.var 2]) (st := st) (fun x hp => ⟨_, rfl, e_call (es_cons (e_var rfl) es_nil) (count0_1 hp)⟩) hx hl
    by_cases hn : (xs.length : Int) = n
    · refine' Eq.trans (b := RS.rt _ _) ?goA (rt_eq ?goB)
      case goA =>
        unfold b3
        repeat' first | walk_at "ipE" | exact hc | walk_at "ipV"
      case goB => simp [ivec, hn]
    · refine' Eq.trans (b := RS.rt _ _) ?goA (rt_eq ?goB)
      case goA =>
        unfold b3
        repeat' first | walk_at "ipE" | exact hc | walk_at "ipV"
      case goB => simp [ivec, hn]
  · have h0 : ivec v n = false := by
      cases v <;> first | rfl | exact absurd ⟨_, rfl⟩ hh
    rw [h0]
    refine' Eq.trans (b := RS.rt _ _) ?goA ?goB
    case goA =>
      cases v <;> first | (cases hv; done) | (exact absurd ⟨_, rfl⟩ hh) | skip
      all_goals
        unfold b3
        repeat' first | walk_at "ipE" | walk_at "ipV"
    case goB => rfl
theorem letters_at {v : Int} (h0 : 0 ≤ v) (h : v < 13) : ∃ t : Str, atI [W.str "a", W.str "z", W.str "m", W.str "q", W.str "e", W.str "k", W.str "A", W.str "0", W.str "_", W.str "-", W.str " ", W.str "b", W.str "\n"] v = some (.str t) ∧ t.length = 1 := by
  have : v = 0 ∨ v = 1 ∨ v = 2 ∨ v = 3 ∨ v = 4 ∨ v = 5 ∨ v = 6 ∨ v = 7 ∨ v = 8 ∨ v = 9 ∨ v = 10 ∨ v = 11 ∨ v = 12 := by omega
  rcases this with rfl | rfl | rfl | rfl | rfl | rfl | rfl | rfl | rfl | rfl | rfl | rfl | rfl <;> exact ⟨_, rfl, rfl⟩
theorem wide_at {v : Int} (h0 : 0 ≤ v) (h : v < 3) : ∃ w : Int, atI [W.int 6, W.int 6, W.int 13] v = some (.int w) ∧ 0 < w ∧ w ≤ 13 := by
  have : v = 0 ∨ v = 1 ∨ v = 2 := by omega
  rcases this with rfl | rfl | rfl <;> exact ⟨_, rfl, by omega, by omega⟩
theorem draw {d k b : Nat} {n : Int} {st : Sto} (hD : Dk k b st) (hb : b ≤ 2 ^ 40) (hn : 0 < n) (hn2 : n < 2 ^ 1000) :
    ∃ v st', runF tab (d + 1) 8 [.obj k, .int n] st = .ok (.int v) st' ∧ 0 ≤ v ∧ v < n ∧ Dk k (b + 1) st' ∧ Keep k st st' := draw_ok (T := tab) (i := 8) rfl hD hb hn hn2
theorem text_ok {d k b : Nat} {st : Sto} (hD : Dk k b st) (hb : b ≤ 2 ^ 30) : ∃ s st', runF tab (d + 2) 10 [.obj k] st = .ok (.str s) st' ∧ s.length ≤ 9 ∧ Dk k (b + 11) st' ∧ Keep k st st' := by
  obtain ⟨v1, s1, e1, a1, a2, D1, K1⟩ := draw (d := d) (n := 3) hD (by omega) (by omega) (by omega)
  obtain ⟨wd, w1, w2, w3⟩ := wide_at a1 a2
  obtain ⟨v2, s2, e2, b1, b2, D2, K2⟩ := draw (d := d) (n := 10) D1 (by omega) (by omega) (by omega)
  obtain ⟨r3, s3, e3, s, b', f, hr, g1, g2, g3, g4⟩ := for_ok (gd := []) (body := fun x r st => match bindT (.nm 4) x r with | some r' => exes tab (runF tab (d + 1)) [.set 3 (.bin .add (.var 3) (.idx (.var 1) (.call 8 [.var 0, .var 2])))] r' st | none => .stuck)
    (fun xs r s3 => ∃ (s : Str) (b' : Nat) (f : Option W), r = [some (.obj k), some (.lst [W.str "a", W.str "z", W.str "m", W.str "q", W.str "e", W.str "k", W.str "A", W.str "0", W.str "_", W.str "-", W.str " ", W.str "b", W.str "\n"]), some (.int wd), some (.str s), f] ∧
      s.length + xs.length ≤ 9 ∧ b' + xs.length ≤ b + 11 ∧ Dk k b' s3 ∧ Keep k s2 s3)
    (fun _ _ _ _ => trivial) (fun x xs r s3 ⟨s, b', f, hr, g1, g2, g3, g4⟩ => by
      simp only [List.length_cons] at g1 g2
      obtain ⟨v, s4, e4, c1, c2, D4, K4⟩ := draw (d := d) (n := wd) g3 (by omega) w2 (by omega)
      obtain ⟨t, t1, t2⟩ := letters_at c1 (by omega)
      subst hr
      refine ⟨_, s4, s_nx (T := tab) (cf := runF tab (d + 1)) (ss := []) (s_set (i := 3) (w := .str (s ++ t)) (e_bin (a := .var 3) (e_var rfl) (e_idx (a := .var 1) (e_var rfl) (e_call (i := 8) (as := [.var 0, .var 2]) (es_cons (e_var rfl) (es_cons (e_var rfl) es_nil)) e4) (v_ixl t1)) (v_addS ?_))) s_nil, s ++ t, b' + 1, _, rfl, ?_, by omega, D4, g4.tr K4⟩
      · rw [t2, sizeLine_eq]; omega
      · rw [Str.length_append, t2]; omega)
    ((List.range v2.toNat).map fun i => .int (i : Nat)) [some (.obj k), some (.lst [W.str "a", W.str "z", W.str "m", W.str "q", W.str "e", W.str "k", W.str "A", W.str "0", W.str "_", W.str "-", W.str " ", W.str "b", W.str "\n"]), some (.int wd), some (.str ""), none] s2
    ⟨"", b + 2, none, rfl, by rw [List.length_map, List.length_range]; show 0 + _ ≤ _; omega, by rw [List.length_map, List.length_range]; omega, D2, Keep.rfl⟩
  subst hr
  have hv := v_rng b1 (by omega)
  refine ⟨s, s3, runs_of (fn := f10) rfl rfl (run_rt ?_), by simpa using g1, g3.le (by simpa using g2), (K1.tr K2).tr g4⟩
  show exes tab (runF tab (d + 1)) b10 [some (.obj k), none, none, none, none] st = _
  refine s_nx (s_set (e_fz (f_dis (es_cons e_cst (es_cons e_cst (es_cons e_cst (es_cons e_cst (es_cons e_cst (es_cons e_cst (es_cons e_cst (es_cons e_cst (es_cons e_cst (es_cons e_cst (es_cons e_cst (es_cons e_cst (es_cons e_cst es_nil))))))))))))) (Nat.le_of_ble_eq_true rfl)))) ?_
  refine s_nx (s_set (e_idx (e_fz (f_dis (es_cons e_cst (es_cons e_cst (es_cons e_cst es_nil))) (Nat.le_of_ble_eq_true rfl))) (e_call (es_cons (e_var rfl) (es_cons e_cst es_nil)) e1) (v_ixl w1))) ?_
  refine s_nx (s_set e_cst) (s_nx (s_for (i_r1 (e_call (es_cons (e_var rfl) (es_cons e_cst es_nil)) e2) hv) e3) (s_rt (s_ret (e_var rfl))))
theorem v_intY {P : Prop} [Decidable P] {st : Sto} (h : P) : bfn .int [.bl (decide P)] st = some (.int 1) := by rw [decide_eq_true h]; rfl
theorem v_intN {P : Prop} [Decidable P] {st : Sto} (h : ¬ P) : bfn .int [.bl (decide P)] st = some (.int 0) := by rw [decide_eq_false h]; rfl
def VG (v : W) : Prop := plain v = true ∧ (∀ s, v = .str s → s.length ≤ 9) ∧ ∀ xs, v = .tup xs → xs.length ≤ 4 ∧ ∀ x ∈ xs, plain x = true
theorem vg_int (i : Int) : VG (.int i) := ⟨rfl, fun _ e => (by cases e), fun _ e => (by cases e)⟩
theorem vg_bl (i : Bool) : VG (.bl i) := ⟨rfl, fun _ e => (by cases e), fun _ e => (by cases e)⟩
theorem vg_non : VG .non := ⟨rfl, fun _ e => (by cases e), fun _ e => (by cases e)⟩
theorem vg_str {s : Str} (h : s.length ≤ 9) : VG (.str s) := ⟨rfl, fun _ e => (by cases e; exact h), fun _ e => (by cases e)⟩
theorem six_at {v : Int} (h0 : 0 ≤ v) (h : v < 6) : ∃ w : W, atI [W.bl true, W.bl false, W.non, W.int 0, W.int 1, W.int (-1)] v = some w ∧ VG w := by
  have : v = 0 ∨ v = 1 ∨ v = 2 ∨ v = 3 ∨ v = 4 ∨ v = 5 := by omega
  rcases this with rfl | rfl | rfl | rfl | rfl | rfl
  · exact ⟨_, rfl, vg_bl _⟩
  · exact ⟨_, rfl, vg_bl _⟩
  · exact ⟨_, rfl, vg_non⟩
  · exact ⟨_, rfl, vg_int _⟩
  · exact ⟨_, rfl, vg_int _⟩
  · exact ⟨_, rfl, vg_int _⟩
theorem five_at {v : Int} (a b c d e : Int) (h0 : 0 ≤ v) (h : v < 5) : ∃ w : Int, atI [W.int a, W.int b, W.int c, W.int d, W.int e] v = some (.int w) := by
  have : v = 0 ∨ v = 1 ∨ v = 2 ∨ v = 3 ∨ v = 4 := by omega
  rcases this with rfl | rfl | rfl | rfl | rfl <;> exact ⟨_, rfl⟩
theorem draw2 {d k b : Nat} {n : Int} {st : Sto} (hD : Dk k b st) (hb : b ≤ 2 ^ 40) (hn : 0 < n) (hn2 : n < 2 ^ 1000) :
    ∃ v st', runF tab (d + 2) 8 [.obj k, .int n] st = .ok (.int v) st' ∧ 0 ≤ v ∧ v < n ∧ Dk k (b + 1) st' ∧ Keep k st st' := draw (d := d + 1) hD hb hn hn2
def C : Nat → Nat
  | 0 => 20
  | m + 1 => 10 + 5 * C m
theorem C_ge : ∀ m, 20 ≤ C m
  | 0 => Nat.le_refl _
  | m + 1 => by have := C_ge m; show 20 ≤ 10 + 5 * C m; omega
/-- the kinds that want no row -/
theorem value_low {d k b : Nat} {deep : Int} {st : Sto} (hD : Dk k b st) (hb : b ≤ 2 ^ 29) : ∃ v1 s1, runF tab (d + 2) 8 [.obj k, .int 8] st = .ok (.int v1) s1 ∧ 0 ≤ v1 ∧ v1 < 8 ∧ Dk k (b + 1) s1 ∧ Keep k st s1 ∧
    ((v1 < 6 ∨ deep = 0) → ∃ v st', exes tab (runF tab (d + 2)) b11 [some (.obj k), some (.int deep), none, none, none] st = .rt v st' ∧ VG v ∧ Dk k (b + 20) st' ∧ Keep k st st') := by
  obtain ⟨v1, s1, e1, a1, a2, D1, K1⟩ := draw2 (d := d) (n := 8) hD (by omega) (by omega) (by omega)
  refine ⟨v1, s1, e1, a1, a2, D1, K1, fun hlow => ?_⟩
  by_cases h2 : v1 < 2
  · obtain ⟨s, s2, e2, l2, D2, K2⟩ := text_ok (d := d) D1 (by omega)
    refine' ⟨_, _, ?goA, vg_str l2, D2.le (by omega), K1.tr K2⟩
    case goA =>
      unfold b11
      repeat' first | walk_at "ipE" | (with_reducible exact (show _ = _ by assumption)) | (with_reducible exact v_ixl (by assumption)) | walk_at "ipV"
  · by_cases h3 : v1 = 2
    · obtain ⟨v2, s2, e2, b1, b2, D2, K2⟩ := draw2 (d := d) (n := 6) D1 (by omega) (by omega) (by omega)
      obtain ⟨w, w1, w2⟩ := six_at b1 b2
      refine' ⟨_, _, ?goA, w2, D2.le (by omega), K1.tr K2⟩
      case goA =>
        unfold b11
        repeat' first | walk_at "ipE" | (with_reducible exact (show _ = _ by assumption)) | (with_reducible exact v_ixl (by assumption)) | walk_at "ipV"
    · by_cases h4 : v1 = 3
      · obtain ⟨v2, s2, e2, b1, b2, D2, K2⟩ := draw2 (d := d) (n := 5) D1 (by omega) (by omega) (by omega)
        obtain ⟨w, w1⟩ := five_at 1000000 (-1000000) 1000001 (-1000001) (10 ^ (30 : Int).toNat) b1 b2
        refine' ⟨_, _, ?goA, vg_int w, D2.le (by omega), K1.tr K2⟩
        case goA =>
          unfold b11
          repeat' first | walk_at "ipE" | (with_reducible exact (show _ = _ by assumption)) | (with_reducible exact v_ixl (by assumption)) | walk_at "ipV"
      · obtain ⟨v2, s2, e2, b1, b2, D2, K2⟩ := draw2 (d := d) (n := 30) D1 (by omega) (by omega) (by omega)
        by_cases h5 : v1 < 6
        · refine' ⟨_, _, ?goA, vg_int (v2 - 10), D2.le (by omega), K1.tr K2⟩
          case goA =>
            unfold b11
            repeat' first | walk_at "ipE" | (with_reducible exact (show _ = _ by assumption)) | (with_reducible exact v_ixl (by assumption)) | walk_at "ipV"
        · have h6 : deep = 0 := by omega
          refine' ⟨_, _, ?goA, vg_int (v2 - 10), D2.le (by omega), K1.tr K2⟩
          case goA =>
            unfold b11
            repeat' first | walk_at "ipE" | (with_reducible exact (show _ = _ by assumption)) | (with_reducible exact v_ixl (by assumption)) | walk_at "ipV"
theorem value_ok : ∀ (m : Nat) {d k b : Nat} {st : Sto}, Dk k b st → b + C m ≤ 2 ^ 29 → ∃ v st', runF tab (d + m + 3) 11 [.obj k, .int (m : Int)] st = .ok v st' ∧ VG v ∧ Dk k (b + C m) st' ∧ Keep k st st' := by
  intro m
  induction m with
  | zero =>
    intro d k b st hD hb
    obtain ⟨v1, s1, e1, a1, a2, D1, K1, low⟩ := value_low (d := d) (deep := 0) hD (by omega)
    obtain ⟨v, st', e, g, D2, K2⟩ := low (.inr rfl)
    exact ⟨v, st', runs_of (fn := f11) rfl rfl (run_rt e), g, D2, K2⟩
  | succ m ih =>
    intro d k b st hD hb
    have hC := C_ge m
    have hb' : b + (10 + 5 * C m) ≤ 2 ^ 29 := hb
    obtain ⟨v1, s1, e1, a1, a2, D1, K1, low⟩ := value_low (d := d + (m + 1)) (deep := ((m + 1 : Nat) : Int)) hD (by omega)
    by_cases h6 : v1 < 6
    · obtain ⟨v, st', e, g, D2, K2⟩ := low (.inl h6)
      exact ⟨v, st', runs_of (fn := f11) rfl rfl (run_rt e), g, D2.le (by show b + 20 ≤ b + (10 + 5 * C m); omega), K2⟩
    · obtain ⟨v2, s2, e2, b1, b2, D2, K2⟩ := draw2 (d := d + (m + 1)) (n := 5) D1 (by omega) (by omega) (by omega)
      have hv := v_rng b1 (by omega)
      have hdeep : ¬ (((m + 1 : Nat) : Int) = 0) := by omega
      obtain ⟨ys, s3, e3, b', g1, g2, g3, g4, g5⟩ := lc_ok (gd := []) (turn := tnf tab (runF tab (d + (m + 1) + 2)) [4] (.nm 4) (.cst (.bl true)) (.call 11 [.var 0, .bin .sub (.var 1) (.cst (.int 1))]) [some (.obj k), some (.int ((m + 1 : Nat) : Int)), some (.int v1), none, none])
        (fun xs acc s => ∃ b' : Nat, b' + xs.length * C m ≤ b + 2 + 4 * C m ∧ Dk k b' s ∧ Keep k s2 s ∧ (∀ y ∈ acc, plain y = true) ∧ acc.length + xs.length ≤ 4)
        (fun _ _ _ _ => trivial) (fun x xs acc s ⟨b', g1, g2, g3, g4, g5⟩ => by
          rw [List.length_cons, Nat.succ_mul] at g1
          obtain ⟨v, s4, e4, G4, D4, K4⟩ := ih (d := d) g2 (by omega)
          have hd : (((m + 1 : Nat) : Int) - 1) = (m : Int) := by omega
          refine ⟨some v, s4, tn_yes rfl e_cst rfl (e_call (es_cons (e_var rfl) (es_cons (e_bin (e_var rfl) e_cst (w := .int (m : Int)) (by show some (W.int (((m + 1 : Nat) : Int) - 1)) = _; rw [hd])) es_nil)) (show runF tab (d + m + 3) 11 _ s = _ from e4)), b' + C m, by omega, D4, g3.tr K4, fun y hy => ?_, ?_⟩
          · rcases List.mem_append.mp hy with hy | hy
            · exact g4 y hy
            · rw [List.mem_singleton.mp hy]; exact G4.1
          · rw [List.length_append]; simp at g5 ⊢; omega)
        ((List.range v2.toNat).map fun i => .int (i : Nat)) [] s2 (by rw [List.length_map, List.length_range, sizeLine_eq]; show 0 + _ ≤ _; omega)
        ⟨b + 1 + 1, by
          rw [List.length_map, List.length_range]
          have : v2.toNat * C m ≤ 4 * C m := Nat.mul_le_mul_right _ (by omega)
          omega, D2, Keep.rfl, fun y hy => (by cases hy), by rw [List.length_map, List.length_range]; show 0 + _ ≤ _; omega⟩
      have hD3 : Dk k (b + C (m + 1)) s3 := g2.le (by show b' ≤ b + (10 + 5 * C m); rw [List.length_nil, Nat.zero_mul] at g1; omega)
      have hK3 := (K1.tr K2).tr g3
      have hl4 : ys.length ≤ 4 := by simpa using g5
      by_cases h7 : v1 = 7
      · refine ⟨.lst ys, s3, runs_of (fn := f11) rfl rfl (run_rt ?goA), ⟨rfl, fun _ e => (by cases e), fun _ e => (by cases e)⟩, hD3, hK3⟩
        case goA =>
          show exes tab (runF tab (d + (m + 1) + 2)) b11 [some (.obj k), some (.int ((m + 1 : Nat) : Int)), none, none, none] st = .rt (.lst ys) s3
          unfold b11
          repeat' first | walk_at "ipE" | (with_reducible exact (show _ = _ by assumption)) | (with_reducible exact v_ixl (by assumption)) | (with_reducible exact v_intY (by assumption)) | (with_reducible exact v_intN (by assumption)) | exact e3 | walk_at "ipV"
      · refine ⟨.tup ys, s3, runs_of (fn := f11) rfl rfl (run_rt ?goD), ⟨rfl, fun _ e => (by cases e), fun _ e => (by cases e; exact ⟨hl4, g4⟩)⟩, hD3, hK3⟩
        case goD =>
          show exes tab (runF tab (d + (m + 1) + 2)) b11 [some (.obj k), some (.int ((m + 1 : Nat) : Int)), none, none, none] st = .rt (.tup ys) s3
          unfold b11
          repeat' first | walk_at "ipE" | (with_reducible exact (show _ = _ by assumption)) | (with_reducible exact v_ixl (by assumption)) | (with_reducible exact v_intY (by assumption)) | (with_reducible exact v_intN (by assumption)) | exact e3 | walk_at "ipV"
/-! ### meet, join, within -/
theorem zip_ints : ∀ A B : List Int, zipW (A.map W.int) (B.map W.int) = (A.zip B).map fun p => .tup [.int p.1, .int p.2]
  | [], _ => rfl
  | _ :: _, [] => rfl
  | a :: A, b :: B => by
    show W.tup [.int a, .int b] :: zipW (A.map W.int) (B.map W.int) = _
    rw [zip_ints A B]; rfl
theorem pairs_b {cf : CF} {e : Ex} {x y : W} {A B : List Int} {st : Sto} (g : Int → Int → W) (he : ∀ a b : Int, ev tab cf e [some x, some y, some (.int a), some (.int b)] st = .ok (g a b) st) (hl : A.length ≤ sizeLine) :
    lcRun [] (tnf tab cf [2, 3] (.tp [.nm 2, .nm 3]) (.cst (.bl true)) e [some x, some y, none, none]) (zipW (A.map W.int) (B.map W.int)) [] st = .ok ((A.zip B).map fun p => g p.1 p.2) st := by
  rw [zip_ints]
  have z := lc_map (turn := tnf tab cf [2, 3] (.tp [.nm 2, .nm 3]) (.cst (.bl true)) e [some x, some y, none, none]) (fun w => match w with | .tup [.int a, .int b] => g a b | w => w) st ((A.zip B).map fun p => .tup [.int p.1, .int p.2]) (fun w hw => by
    obtain ⟨p, _, rfl⟩ := List.mem_map.mp hw
    exact tn_yes rfl e_cst rfl (he p.1 p.2)) (by rw [List.length_map, List.length_zip]; omega)
  rw [z, List.map_map]
  rfl
theorem within_ok {d : Nat} {A B : List Int} {st : Sto} (hl : A.length ≤ sizeLine) : runF tab (d + 1) 4 [.tup (A.map W.int), .tup (B.map W.int)] st = .ok (.bl (((A.zip B).map fun p => decide (p.1 ≤ p.2)).all id)) st := by
  have h := pairs_b (cf := runF tab d) (e := .cmp .le (.var 2) (.var 3)) (x := .tup (A.map W.int)) (y := .tup (B.map W.int)) (A := A) (B := B) (st := st) (fun a b => .bl (decide (a ≤ b))) (fun a b => e_cmp (e_var rfl) (e_var rfl) rfl) hl
  exact runs_of (fn := f4) rfl rfl (run_rt (s_rt (s_ret (e_blt (es_cons (e_fz (f_lcp (i_zp (e_var rfl) (e_var rfl) rfl) h)) es_nil) v_all))))
theorem meet_ok {d : Nat} {A B : List Int} {st : Sto} (hl : A.length ≤ sizeLine) : runF tab (d + 1) 5 [.tup (A.map W.int), .tup (B.map W.int)] st = .ok (.tup ((A.zip B).map fun p => .int (if p.2 < p.1 then p.2 else p.1))) st := by
  have h := pairs_b (cf := runF tab d) (e := .blt .min2 [.var 2, .var 3]) (x := .tup (A.map W.int)) (y := .tup (B.map W.int)) (A := A) (B := B) (st := st) (fun a b => .int (if b < a then b else a)) (fun a b => e_blt (es_cons (e_var rfl) (es_cons (e_var rfl) es_nil)) rfl) hl
  exact runs_of (fn := f5) rfl rfl (run_rt (s_rt (s_ret (e_blt (es_cons (e_fz (f_lcp (i_zp (e_var rfl) (e_var rfl) rfl) h)) es_nil) rfl))))
theorem join_ok {d : Nat} {A B : List Int} {st : Sto} (hl : A.length ≤ sizeLine) : runF tab (d + 1) 6 [.tup (A.map W.int), .tup (B.map W.int)] st = .ok (.tup ((A.zip B).map fun p => .int (if p.2 > p.1 then p.2 else p.1))) st := by
  have h := pairs_b (cf := runF tab d) (e := .blt .max2 [.var 2, .var 3]) (x := .tup (A.map W.int)) (y := .tup (B.map W.int)) (A := A) (B := B) (st := st) (fun a b => .int (if b > a then b else a)) (fun a b => e_blt (es_cons (e_var rfl) (es_cons (e_var rfl) es_nil)) rfl) hl
  exact runs_of (fn := f6) rfl rfl (run_rt (s_rt (s_ret (e_blt (es_cons (e_fz (f_lcp (i_zp (e_var rfl) (e_var rfl) rfl) h)) es_nil) rfl))))
theorem zip_self : ∀ (A B : List Int), A.length = B.length → ∀ f : Int → Int → Int, (A.zip B).map (fun p => f p.1 p.2) = (List.range A.length).map fun k => f (A.getD k 0) (B.getD k 0)
  | [], [], _, _ => rfl
  | a :: A, b :: B, h, f => by
    rw [List.zip_cons_cons, List.map_cons, zip_self A B (by simpa using h) f, List.length_cons, List.range_succ_eq_map, List.map_cons, List.map_map]
    rfl
  | [], _ :: _, h, _ => by simp at h
  | _ :: _, [], h, _ => by simp at h
/-! ### lists of truths -/
theorem toPys_bl : ∀ bs : List Bool, toPys (bs.map W.bl) = some (bs.map PyData.bool)
  | [] => rfl
  | b :: bs => by
    show (toPy (W.bl b)).bind (fun d => (toPys (bs.map W.bl)).map fun ds => d :: ds) = _
    rw [toPys_bl bs]; rfl
theorem lay_bl : ∀ bs : List Bool, PyData.canLayAll0 (bs.map PyData.bool) = true
  | [] => rfl
  | b :: bs => by
    rw [List.map_cons, PyData.canLayAll0, lay_bl bs]; rfl
theorem dep_bl : ∀ bs : List Bool, PyData.depthAll (bs.map PyData.bool) = 0
  | [] => rfl
  | b :: bs => by
    rw [List.map_cons, PyData.depthAll, dep_bl bs]; rfl
theorem show_bl : ∀ bs : List Bool, PyData.showableAll (bs.map PyData.bool) = true
  | [] => rfl
  | b :: bs => by
    rw [List.map_cons, PyData.showableAll, show_bl bs]; rfl
theorem short_bl : ∀ bs : List Bool, PyData.intsShortAll 13 (bs.map PyData.bool) = true
  | [] => rfl
  | b :: bs => by
    rw [List.map_cons, PyData.intsShortAll, short_bl bs]; rfl
theorem wt_bl : ∀ bs : List Bool, PyData.weightAll (bs.map PyData.bool) ≤ 2 * bs.length + 1
  | [] => by simp [PyData.weightAll]
  | b :: bs => by
    have := wt_bl bs
    simp [PyData.weightAll, PyData.weight] at this ⊢
    omega
theorem same_bl {d i j : Nat} {bs : List Bool} {st : Sto} (hi : st.m i = some (.lst (bs.map W.bl))) (hj : st.m j = some (.lst (bs.map W.bl))) (hl : bs.length ≤ 100) : runF tab (d + 1) 9 [.obj i, .obj j] st = .ok (.bl true) st := by
  have t : ∀ k, st.m k = some (.lst (bs.map W.bl)) → toPy (view st (.obj k)) = some (.list (bs.map PyData.bool)) := fun k h => by
    have e : view st (.obj k) = .lst (bs.map W.bl) := by simp only [view, h]
    rw [e]
    show (toPys (bs.map W.bl)).map PyData.list = _
    rw [toPys_bl]; rfl
  have hc : PyData.canLay0 (.list (bs.map PyData.bool)) = true := by rw [PyData.canLay0]; exact lay_bl bs
  have hd : PyData.depth (.list (bs.map PyData.bool)) ≤ 64 := by rw [PyData.depth, dep_bl]; decide
  refine same_ok (T := tab) (i := 9) rfl (t i hi) (t j hj) rfl hc hd (by rw [PyData.showable]; exact show_bl bs) ?_
  have hw : PyData.weight (.list (bs.map PyData.bool)) ≤ 2 ^ 20 := by
    have := wt_bl bs
    rw [PyData.weight]
    omega
  have hy : PyData.layable0 (.list (bs.map PyData.bool)) = true := by
    unfold PyData.layable0
    rw [hc, decide_eq_true hd, decide_eq_true hw]; rfl
  have := PyProof.Rows.shown_le13 hy (by rw [PyData.intsShort]; exact short_bl bs)
  rw [sizeLine_eq]; omega
theorem v_lst {st : Sto} {k : Nat} {xs : List W} (h : st.m k = some (.lst xs)) : lstOf st (.obj k) = some xs := by simp [lstOf, view, h]
theorem v_apd {st : Sto} {k : Nat} {ys : List W} {y : W} (h : st.m k = some (.lst ys)) (hz : ys.length < sizeLine) : bmF .append (.obj k) [y] st = some (.non, st.put k (.lst (ys ++ [y]))) := by
  show (match st.m k with
    | some (.lst ys) => if ys.length < sizeLine then some (W.non, st.put k (.lst (ys ++ [y]))) else none
    | _ => none) = _
  rw [h]
  exact if_pos hz
theorem v_apg {st : Sto} {k : Nat} {ys : List W} (h : st.m k = some (.lst ys)) : bmG .append (.obj k) st = some () := by
  show (lstOf st (.obj k)).map (fun _ => ()) = _
  rw [v_lst h]; rfl
theorem two_at {z t : Int} (h0 : 0 ≤ t) (h : t < 2) : ∃ m : Option Int, atI [W.non, W.int z] t = some (mW m) := by
  have : t = 0 ∨ t = 1 := by omega
  rcases this with rfl | rfl
  · exact ⟨none, rfl⟩
  · exact ⟨some z, rfl⟩
theorem _root_.Ip.Dk.new {k b : Nat} {st : Sto} {o : Ob} (h : Dk k b st) (hk : k < st.n) : Dk k b (st.new o) := by
  obtain ⟨c, p, s, q, ns, h1, h2⟩ := h
  exact ⟨c, p, s, q, ns, (new_off _ _ _ (by omega)).trans h1, h2⟩
theorem _root_.Ip.Dk.put {k j b : Nat} {st : Sto} {o : Ob} (h : Dk k b st) (hk : k ≠ j) : Dk k b (st.put j o) := by
  obtain ⟨c, p, s, q, ns, h1, h2⟩ := h
  exact ⟨c, p, s, q, ns, (put_off _ _ _ _ hk).trans h1, h2⟩
def isT (v : W) (n : Int) : Bool := match v with
  | .tup xs => decide ((xs.length : Int) = n)
  | _ => false
def turnB : List Stm := [.set 3 (.call 11 [.var 1, .cst (.int 2)]), .set 4 (.bin .sub (.call 8 [.var 1, .cst (.int 9)]) (.cst (.int 4))), .set 5 (.idx (.fz (.dis [.cst (.non), .bin .sub (.bin .add (.var 4) (.call 8 [.var 1, .cst (.int 9)])) (.cst (.int 1))])) (.call 8 [.var 1, .cst (.int 2)])), .set 6 (.ow (.dis [.call 0 [.var 3], .call 0 [.var 3, .var 4], .call 0 [.var 3, .var 4, .var 5], .call 0 [.var 3, .cst (.int 0), .var 5]])), .set 7 (.ow (.dis [.call 12 [.var 3, .cst (.int 0), .cst (.non)], .call 12 [.var 3, .var 4, .cst (.non)]])), .set 7 (.ow (.cat (.var 7) (.fz (.dis [.call 12 [.var 3, .var 4, .var 5], .call 12 [.var 3, .cst (.int 0), .var 5]])))), .set 6 (.ow (.cat (.var 6) (.fz (.dis [.call 1 [.var 3], .call 2 [.var 3]])))), .set 7 (.ow (.cat (.var 7) (.fz (.dis [.call 13 [.var 3], .or (.call 13 [.var 3]) (.call 12 [.var 3, .neg (.cst (.int 1000000)), .cst (.int 1000000)])])))), .set 8 (.call 8 [.var 1, .cst (.int 6)]), .ex (.bm .append (.var 6) [.call 3 [.var 3, .var 8]]), .set 9 (.and (.isi (.var 3) [.tup]) (.cmp .eq (.blt .len [.var 3]) (.var 8))), .ex (.bm .append (.var 7) [.and (.var 9) (.blt .all [.fz (.lcp [10] (.nm 10) (.ex (.var 3)) (.cst (.bl true)) (.call 12 [.var 10, .cst (.int 0), .cst (.non)]))])]), .ife (.nt (.call 9 [.var 6, .var 7])) [.ret (.cst (.bl false))] []]
theorem turn_ok {b : Nat} {st : Sto} (hD : Dk 0 b st) (hn : 0 < st.n) (hb : b ≤ 2 ^ 20) (a0 a2 a3 a4 a5 a6 a7 a8 a9 a10 a11 a12 a13 a14 a15 a16 : Option W) :
    ∃ r' st', exes tab (runF tab 8) turnB [a0, some (.obj 0), a2, a3, a4, a5, a6, a7, a8, a9, a10, a11, a12, a13, a14, a15, a16] st = .nx r' st' ∧ (∃ c2 c3 c4 c5 c6 c7 c8 c9 c10 c11 c12 c13 c14 c15 c16 : Option W, r' = [a0, some (.obj 0), c2, c3, c4, c5, c6, c7, c8, c9, c10, c11, c12, c13, c14, c15, c16]) ∧ Dk 0 (b + 600) st' ∧ 0 < st'.n := by
  obtain ⟨v, s1, e1, G, D1, K1⟩ := value_ok 2 (d := 3) hD (by show b + 560 ≤ 2 ^ 29; omega)
  have e1' : runF tab 8 11 [.obj 0, .int 2] st = .ok v s1 := e1
  have D1' : Dk 0 (b + 560) s1 := D1
  obtain ⟨l0, s2, e2, _, _, D2, K2⟩ := draw (d := 7) (n := 9) D1' (by omega) (by omega) (by omega)
  obtain ⟨m0, s3, e3, _, _, D3, K3⟩ := draw (d := 7) (n := 9) D2 (by omega) (by omega) (by omega)
  obtain ⟨t, s4, e4, t1, t2, D4, K4⟩ := draw (d := 7) (n := 2) D3 (by omega) (by omega) (by omega)
  obtain ⟨m, hm⟩ := two_at (z := l0 - 4 + m0 - 1) t1 t2
  obtain ⟨hv, hvs, hvt⟩ := G
  have hs : ∀ s, v = .str s → s.length ≤ sizeLine := fun s e => Nat.le_trans (hvs s e) (by rw [sizeLine_eq]; omega)
  have ht : ∀ xs, v = .tup xs → xs.length ≤ sizeLine ∧ ∀ x ∈ xs, plain x = true := fun xs e => ⟨Nat.le_trans (hvt xs e).1 (by rw [sizeLine_eq]; omega), (hvt xs e).2⟩
  have n4 : 0 < s4.n := by rw [K4.1, K3.1, K2.1, K1.1]; exact hn
  generalize hc1 : icount v 0 none = c1
  generalize hc2 : icount v (l0 - 4) none = c2
  generalize hc3 : icount v (l0 - 4) m = c3
  generalize hc4 : icount v 0 m = c4
  generalize hw : iword v = w
  generalize hi : iitem v = i
  have k1 : ∀ s : Sto, runF tab 8 0 [v] s = .ok (.bl c1) s := fun s => by rw [← hc1]; exact count0_1 (d := 7) hv
  have k2 : ∀ s : Sto, runF tab 8 0 [v, .int (l0 - 4)] s = .ok (.bl c2) s := fun s => by rw [← hc2]; exact count0_2 (d := 7) hv
  have k3 : ∀ s : Sto, runF tab 8 0 [v, .int (l0 - 4), mW m] s = .ok (.bl c3) s := fun s => by rw [← hc3]; exact count0_3 (d := 7) hv
  have k4 : ∀ s : Sto, runF tab 8 0 [v, .int 0, mW m] s = .ok (.bl c4) s := fun s => by rw [← hc4]; exact count0_3 (d := 7) hv
  have j1 : ∀ s : Sto, runF tab 8 12 [v, .int 0, .non] s = .ok (.bl c1) s := fun s => by rw [← hc1]; exact count12 (d := 7) (m := none) hv
  have j2 : ∀ s : Sto, runF tab 8 12 [v, .int (l0 - 4), .non] s = .ok (.bl c2) s := fun s => by rw [← hc2]; exact count12 (d := 7) (m := none) hv
  have j3 : ∀ s : Sto, runF tab 8 12 [v, .int (l0 - 4), mW m] s = .ok (.bl c3) s := fun s => by rw [← hc3]; exact count12 (d := 7) hv
  have j4 : ∀ s : Sto, runF tab 8 12 [v, .int 0, mW m] s = .ok (.bl c4) s := fun s => by rw [← hc4]; exact count12 (d := 7) hv
  have w1 : ∀ s : Sto, runF tab 8 1 [v] s = .ok (.bl w) s := fun s => by rw [← hw]; exact word1 (d := 7) hv hs
  have w2 : ∀ s : Sto, runF tab 8 13 [v] s = .ok (.bl w) s := fun s => by rw [← hw]; exact lword (d := 7) hv hs
  have i1 : ∀ s : Sto, runF tab 8 2 [v] s = .ok (.bl i) s := fun s => by rw [← hi]; exact item_ok (d := 6) hv hs
  have i2 : ∀ (r : En) (s : Sto), (r[3]?).bind id = some v → ev tab (runF tab 8) (.or (.call 13 [.var 3]) (.call 12 [.var 3, .neg (.cst (.int 1000000)), .cst (.int 1000000)])) r s = .ok (.bl i) s := fun r s hr => by
    refine e_or (e_call (es_cons (e_var hr) es_nil) (w2 s)) t_bl ?_
    have z := count12 (d := 7) (st := s) (l := -1000000) (m := some 1000000) hv
    have hi' : i = (w || icount v (-1000000) (some 1000000)) := by rw [← hi, ← hw]; rfl
    cases w
    · rw [if_neg Bool.false_ne_true, hi', Bool.false_or]
      exact e_call (es_cons (e_var hr) (es_cons (e_neg e_cst) (es_cons e_cst es_nil))) z
    · rw [if_pos rfl, hi']; rfl
  -- the lists, one after another
  generalize h5 : s4.new (.lst [.bl c1, .bl c2, .bl c3, .bl c4]) = s5
  generalize h6 : s5.new (.lst [.bl c1, .bl c2]) = s6
  generalize h7 : s6.new (.lst ([.bl c1, .bl c2] ++ [.bl c3, .bl c4])) = s7
  generalize h8 : s7.new (.lst ([.bl c1, .bl c2, .bl c3, .bl c4] ++ [.bl w, .bl i])) = s8
  generalize h9 : s8.new (.lst (([.bl c1, .bl c2] ++ [.bl c3, .bl c4]) ++ [.bl w, .bl i])) = s9
  have n5 : s5.n = s4.n + 1 := by rw [← h5]; rfl
  have n6 : s6.n = s4.n + 2 := by rw [← h6, new_n, n5]
  have n7 : s7.n = s4.n + 3 := by rw [← h7, new_n, n6]
  have n8 : s8.n = s4.n + 4 := by rw [← h8, new_n, n7]
  have n9 : s9.n = s4.n + 5 := by rw [← h9, new_n, n8]
  have q5 : s5.m s4.n = some (.lst [.bl c1, .bl c2, .bl c3, .bl c4]) := by rw [← h5]; exact new_at _ _
  have q6 : s6.m s5.n = some (.lst [.bl c1, .bl c2]) := by rw [← h6]; exact new_at _ _
  have q7 : s7.m s6.n = some (.lst ([.bl c1, .bl c2] ++ [.bl c3, .bl c4])) := by rw [← h7]; exact new_at _ _
  have q7b : s7.m s4.n = some (.lst [.bl c1, .bl c2, .bl c3, .bl c4]) := by
    rw [← h7, new_off _ _ _ (by omega), ← h6, new_off _ _ _ (by omega)]; exact q5
  have q8 : s8.m s7.n = some (.lst ([.bl c1, .bl c2, .bl c3, .bl c4] ++ [.bl w, .bl i])) := by rw [← h8]; exact new_at _ _
  have q8b : s8.m s6.n = some (.lst ([.bl c1, .bl c2] ++ [.bl c3, .bl c4])) := by rw [← h8, new_off _ _ _ (by omega)]; exact q7
  have q9 : s9.m s8.n = some (.lst (([.bl c1, .bl c2] ++ [.bl c3, .bl c4]) ++ [.bl w, .bl i])) := by rw [← h9]; exact new_at _ _
  have q9b : s9.m s7.n = some (.lst ([.bl c1, .bl c2, .bl c3, .bl c4] ++ [.bl w, .bl i])) := by rw [← h9, new_off _ _ _ (by omega)]; exact q8
  have D9 : Dk 0 (b + 563) s9 := by
    rw [← h9, ← h8, ← h7, ← h6, ← h5]
    exact ((((D4.new n4).new (by rw [new_n]; omega)).new (by rw [new_n, new_n]; omega)).new (by rw [new_n, new_n, new_n]; omega)).new (by rw [new_n, new_n, new_n, new_n]; omega)
  obtain ⟨cnt, s10, e10, _, _, D10, K10⟩ := draw (d := 7) (n := 6) D9 (by omega) (by omega) (by omega)
  have q10 : s10.m s8.n = some (.lst (([.bl c1, .bl c2] ++ [.bl c3, .bl c4]) ++ [.bl w, .bl i])) := (K10.2 _ (by omega)).trans q9
  have q10b : s10.m s7.n = some (.lst ([.bl c1, .bl c2, .bl c3, .bl c4] ++ [.bl w, .bl i])) := (K10.2 _ (by omega)).trans q9b
  generalize hx : ivec v cnt = x
  have x1 : ∀ s : Sto, runF tab 8 3 [v, .int cnt] s = .ok (.bl x) s := fun s => by rw [← hx]; exact vec_ok (d := 6) hv ht
  generalize h11 : s10.put s7.n (.lst (([.bl c1, .bl c2, .bl c3, .bl c4] ++ [.bl w, .bl i]) ++ [.bl x])) = s11
  have q11 : s11.m s8.n = some (.lst (([.bl c1, .bl c2] ++ [.bl c3, .bl c4]) ++ [.bl w, .bl i])) := by rw [← h11, put_off _ _ _ _ (by omega)]; exact q10
  have q11b : s11.m s7.n = some (.lst (([.bl c1, .bl c2, .bl c3, .bl c4] ++ [.bl w, .bl i]) ++ [.bl x])) := by rw [← h11]; exact put_at _ _ _
  have x2 : ∀ (r : En), (r[3]?).bind id = some v → (r[8]?).bind id = some (.int cnt) → ev tab (runF tab 8) (.and (.isi (.var 3) [.tup]) (.cmp .eq (.blt .len [.var 3]) (.var 8))) r s11 = .ok (.bl (isT v cnt)) s11 := fun r hr hr8 => by
    cases v <;> first | (cases hv; done) | skip
    case tup xs =>
      refine e_andT (e_isi (e_var hr) ty_tT) t_bl (Eq.trans (e_cmp (e_blt (es_cons (e_var hr) es_nil) v_lenT) (e_var hr8) v_eqI) rfl)
    all_goals (refine e_andF (e_isi (e_var hr) ?_) t_bl; first | exact ty_nT | exact ty_bT | exact ty_iT | exact ty_sT | exact ty_lT)
  have x3 : ∀ (r : En), (r[3]?).bind id = some v → (r[9]?).bind id = some (.bl (isT v cnt)) → 10 < r.length → ev tab (runF tab 8) (.and (.var 9) (.blt .all [.fz (.lcp [10] (.nm 10) (.ex (.var 3)) (.cst (.bl true)) (.call 12 [.var 10, .cst (.int 0), .cst (.non)]))])) r s11 = .ok (.bl x) s11 := fun r hr hr9 hlen => by
    cases hT : isT v cnt with
    | false =>
      have : x = false := by
        rw [← hx]
        cases v <;> first | rfl | skip
        have hT' : decide (((_ : List W).length : Int) = cnt) = false := hT
        show (decide _ && _) = false
        rw [hT']; rfl
      rw [this]
      rw [hT] at hr9
      exact e_andF (e_var hr9) t_bl
    | true =>
      cases v <;> first | (cases hT; done) | skip
      rename_i xs
      obtain ⟨hl, hxs⟩ := ht xs rfl
      rw [hT] at hr9
      have hc := counts_b (i := 0) (d := 7) (r := r) (own := [10]) (j := 10) (e := .call 12 [.var 10, .cst (.int 0), .cst (.non)]) (st := s11) (fun y hp => ⟨_, rfl, e_call (es_cons (e_var (by
        show (((wipeE r [10]).set 10 (some y))[10]?).bind id = some y
        rw [List.getElem?_set_self (by show 10 < (r.set 10 none).length; rw [List.length_set]; exact hlen)]; rfl)) (es_cons e_cst (es_cons e_cst es_nil))) (count12 (d := 7) (m := none) hp)⟩) hxs hl
      refine (e_andT (e_var hr9) t_bl (e_blt (es_cons (e_fz (f_lcp (i_ex (e_var hr) rfl) hc)) es_nil) v_all)).trans ?_
      rw [← hx]
      have hT' : decide ((xs.length : Int) = cnt) = true := hT
      show RR.ok (W.bl _) s11 = RR.ok (W.bl (decide ((xs.length : Int) = cnt) && _)) s11
      rw [hT', Bool.true_and]
  generalize h12 : s11.put s8.n (.lst ((([.bl c1, .bl c2] ++ [.bl c3, .bl c4]) ++ [.bl w, .bl i]) ++ [.bl x])) = s12
  have q12 : s12.m s8.n = some (.lst ([c1, c2, c3, c4, w, i, x].map W.bl)) := by rw [← h12]; exact put_at _ _ _
  have q12b : s12.m s7.n = some (.lst ([c1, c2, c3, c4, w, i, x].map W.bl)) := by rw [← h12, put_off _ _ _ _ (by omega)]; exact q11b
  have same : runF tab 8 9 [.obj s7.n, .obj s8.n] s12 = .ok (.bl true) s12 := same_bl (d := 7) q12b q12 (Nat.le_of_ble_eq_true rfl)
  refine ⟨(((((((((([a0, some (.obj 0), a2, a3, a4, a5, a6, a7, a8, a9, a10, a11, a12, a13, a14, a15, a16].set 3 (some v)).set 4 (some (.int (l0 - 4)))).set 5 (some (mW m))).set 6 (some (.obj s4.n))).set 7 (some (.obj s5.n))).set 7 (some (.obj s6.n))).set 6 (some (.obj s7.n))).set 7 (some (.obj s8.n))).set 8 (some (.int cnt))).set 9 (some (.bl (isT v cnt)))), s12, ?goM, ?goR, ?goD, ?goN⟩
  case goM =>
    unfold turnB
    refine s_nx (s_set (e_call (es_cons (e_var rfl) (es_cons e_cst es_nil)) e1')) ?_
    refine s_nx (s_set (w := .int (l0 - 4)) (e_bin (e_call (es_cons (e_var rfl) (es_cons e_cst es_nil)) e2) e_cst rfl)) ?_
    refine s_nx (s_set (e_idx (e_fz (f_dis (es_cons e_cst (es_cons (e_bin (e_bin (e_var rfl) (e_call (es_cons (e_var rfl) (es_cons e_cst es_nil)) e3) rfl) e_cst rfl) es_nil)) (Nat.le_of_ble_eq_true rfl))) (e_call (es_cons (e_var rfl) (es_cons e_cst es_nil)) e4) (v_ixl hm))) ?_
    refine s_nx (s_set (w := .obj s4.n) (s1 := s5) (Eq.trans (e_ow (f_dis (es_cons (e_call (es_cons (e_var rfl) es_nil) (k1 _)) (es_cons (e_call (es_cons (e_var rfl) (es_cons (e_var rfl) es_nil)) (k2 _)) (es_cons (e_call (es_cons (e_var rfl) (es_cons (e_var rfl) (es_cons (e_var rfl) es_nil))) (k3 _)) (es_cons (e_call (es_cons (e_var rfl) (es_cons e_cst (es_cons (e_var rfl) es_nil))) (k4 _)) es_nil)))) (Nat.le_of_ble_eq_true rfl))) (by rw [h5]))) ?_
    refine s_nx (s_set (w := .obj s5.n) (s1 := s6) (Eq.trans (e_ow (f_dis (es_cons (e_call (es_cons (e_var rfl) (es_cons e_cst (es_cons e_cst es_nil))) (j1 _)) (es_cons (e_call (es_cons (e_var rfl) (es_cons (e_var rfl) (es_cons e_cst es_nil))) (j2 _)) es_nil)) (Nat.le_of_ble_eq_true rfl))) (by rw [h6]))) ?_
    refine s_nx (s_set (w := .obj s6.n) (s1 := s7) (Eq.trans (e_ow (f_cat (e_var rfl) (e_fz (f_dis (es_cons (e_call (es_cons (e_var rfl) (es_cons (e_var rfl) (es_cons (e_var rfl) es_nil))) (j3 _)) (es_cons (e_call (es_cons (e_var rfl) (es_cons e_cst (es_cons (e_var rfl) es_nil))) (j4 _)) es_nil)) (Nat.le_of_ble_eq_true rfl))) (v_lst q6) rfl (Nat.le_of_ble_eq_true rfl))) (by rw [h7]))) ?_
    refine s_nx (s_set (w := .obj s7.n) (s1 := s8) (Eq.trans (e_ow (f_cat (e_var rfl) (e_fz (f_dis (es_cons (e_call (es_cons (e_var rfl) es_nil) (w1 _)) (es_cons (e_call (es_cons (e_var rfl) es_nil) (i1 _)) es_nil)) (Nat.le_of_ble_eq_true rfl))) (v_lst q7b) rfl (Nat.le_of_ble_eq_true rfl))) (by rw [h8]))) ?_
    refine s_nx (s_set (w := .obj s8.n) (s1 := s9) (Eq.trans (e_ow (f_cat (e_var rfl) (e_fz (f_dis (es_cons (e_call (es_cons (e_var rfl) es_nil) (w2 _)) (es_cons (i2 _ _ rfl) es_nil)) (Nat.le_of_ble_eq_true rfl))) (v_lst q8b) rfl (Nat.le_of_ble_eq_true rfl))) (by rw [h9]))) ?_
    refine s_nx (s_set (e_call (es_cons (e_var rfl) (es_cons e_cst es_nil)) e10)) ?_
    refine s_nx (s_ex (s1 := s11) (w := .non) (Eq.trans (e_bm (e_var rfl) (v_apg q10b) (es_cons (e_call (es_cons (e_var rfl) (es_cons (e_var rfl) es_nil)) (x1 _)) es_nil) (v_apd q10b (by rw [sizeLine_eq]; show 6 < _; omega))) (by rw [h11]))) ?_
    refine s_nx (s_set (x2 _ rfl rfl)) ?_
    refine s_nx (s_ex (s1 := s12) (w := .non) (Eq.trans (e_bm (e_var rfl) (v_apg q11) (es_cons (x3 _ rfl rfl (Nat.le_of_ble_eq_true rfl)) es_nil) (v_apd q11 (by rw [sizeLine_eq]; show 6 < _; omega))) (by rw [h12]))) ?_
    refine s_if (k := !true) (e_nt (e_call (es_cons (e_var rfl) (es_cons (e_var rfl) es_nil)) same) t_bl) t_bl (if_nf (ap_n ?_))
    apply s_nil
  case goR => exact ⟨_, _, _, _, _, _, _, _, _, _, _, _, _, _, _, rfl⟩
  case goD =>
    rw [← h12, ← h11]
    exact ((D10.put (by omega)).put (by omega)).le (by omega)
  case goN =>
    rw [← h12, ← h11, put_n, put_n, K10.1]; omega
/-! ### tuples of small ints -/
theorem short1000 : ∀ n, n < 1000 → (PyData.shown (.int (n : Nat))).length ≤ 13 := by decide +kernel
def Sm (A : List Int) : Prop := ∀ a ∈ A, 0 ≤ a ∧ a < 1000
theorem toPys_int : ∀ A : List Int, toPys (A.map W.int) = some (A.map PyData.int)
  | [] => rfl
  | b :: bs => by
    show (toPy (W.int b)).bind (fun d => (toPys (bs.map W.int)).map fun ds => d :: ds) = _
    rw [toPys_int bs]; rfl
theorem lay_int : ∀ A : List Int, PyData.canLayAll0 (A.map PyData.int) = true
  | [] => rfl
  | b :: bs => by
    rw [List.map_cons, PyData.canLayAll0, lay_int bs]; rfl
theorem dep_int : ∀ A : List Int, PyData.depthAll (A.map PyData.int) = 0
  | [] => rfl
  | b :: bs => by
    rw [List.map_cons, PyData.depthAll, dep_int bs]; rfl
theorem log_int {a : Int} (h : 0 ≤ a ∧ a < 1000) : a.natAbs.log2 < 10 := by
  by_cases z : a.natAbs = 0
  · rw [z]; decide
  · exact (Nat.log2_lt z).mpr (by omega)
theorem show_int : ∀ A : List Int, Sm A → PyData.showableAll (A.map PyData.int) = true
  | [], _ => rfl
  | b :: bs, h => by
    rw [List.map_cons, PyData.showableAll, show_int bs fun a ha => h a (List.mem_cons_of_mem _ ha), PyData.showable]
    have := log_int (h b List.mem_cons_self)
    rw [decide_eq_true (by omega)]; rfl
theorem short_int : ∀ A : List Int, Sm A → PyData.intsShortAll 13 (A.map PyData.int) = true
  | [], _ => rfl
  | b :: bs, h => by
    rw [List.map_cons, PyData.intsShortAll, short_int bs fun a ha => h a (List.mem_cons_of_mem _ ha), PyData.intsShort]
    have z := short1000 b.toNat (by have := h b List.mem_cons_self; omega)
    have e : ((b.toNat : Nat) : Int) = b := by have := h b List.mem_cons_self; omega
    rw [e] at z
    rw [decide_eq_true z]; rfl
theorem wt_int : ∀ A : List Int, Sm A → PyData.weightAll (A.map PyData.int) ≤ 12 * A.length
  | [], _ => by simp [PyData.weightAll]
  | b :: bs, h => by
    have := wt_int bs fun a ha => h a (List.mem_cons_of_mem _ ha)
    have l := log_int (h b List.mem_cons_self)
    rw [List.map_cons, PyData.weightAll, PyData.weight, List.length_cons]
    split <;> omega
theorem eqv_int : ∀ A B : List Int, PyData.eqvAll (A.map PyData.int) (B.map PyData.int) = decide (A = B)
  | [], [] => rfl
  | [], _ :: _ => by simp [PyData.eqvAll]
  | _ :: _, [] => by simp [PyData.eqvAll]
  | a :: A, b :: B => by
    rw [List.map_cons, List.map_cons, PyData.eqvAll, eqv_int A B, PyData.eqv]
    by_cases h1 : a = b <;> by_cases h2 : A = B <;> simp [h1, h2]
theorem v_eqT {A B : List Int} {st : Sto} : cop .eq (.tup (A.map W.int)) (.tup (B.map W.int)) st = some (.bl (decide (A = B))) := by
  show (eqW (.tup (A.map W.int)) (.tup (B.map W.int)) st).map W.bl = _
  have sh : ∀ A : List Int, SeqAt.shaped (.tuple (A.map PyData.int)) = true := fun A => by
    unfold SeqAt.shaped
    rw [PyData.canLay0, lay_int, PyData.depth, dep_int]; rfl
  have tp : ∀ A : List Int, toPy (view st (.tup (A.map W.int))) = some (.tuple (A.map PyData.int)) := fun A => by
    show (toPys (A.map W.int)).map PyData.tuple = _
    rw [toPys_int]; rfl
  unfold eqW
  show (((toPy (view st (.tup (A.map W.int)))).bind fun d => (toPy (view st (.tup (B.map W.int)))).bind fun e => if SeqAt.shaped d = true ∧ SeqAt.shaped e = true then some (PyData.eqv d e) else none)).map W.bl = _
  rw [tp, tp, Option.bind_some, Option.bind_some, if_pos ⟨sh A, sh B⟩, PyData.eqv, eqv_int]
  rfl
def low (A B : List Int) : List Int := (A.zip B).map fun p => if p.2 < p.1 then p.2 else p.1
def high (A B : List Int) : List Int := (A.zip B).map fun p => if p.2 > p.1 then p.2 else p.1
def wi (A B : List Int) : Bool := ((A.zip B).map fun p => decide (p.1 ≤ p.2)).all id
theorem wi_cons (a b : Int) (A B : List Int) : wi (a :: A) (b :: B) = (decide (a ≤ b) && wi A B) := rfl
theorem low_cons (a b : Int) (A B : List Int) : low (a :: A) (b :: B) = (if b < a then b else a) :: low A B := rfl
theorem high_cons (a b : Int) (A B : List Int) : high (a :: A) (b :: B) = (if b > a then b else a) :: high A B := rfl
theorem wi_low : ∀ A B : List Int, A.length = B.length → wi A B = decide (A = low A B)
  | [], [], _ => rfl
  | [], _ :: _, h => by simp at h
  | _ :: _, [], h => by simp at h
  | a :: A, b :: B, h => by
    rw [wi_cons, low_cons, wi_low A B (by simpa using h)]
    by_cases h1 : b < a
    · have h2 : ¬ a ≤ b := by omega
      have h3 : ¬ a = b := by omega
      simp [h1, h2, h3]
    · have h2 : a ≤ b := by omega
      simp [h1, h2]
theorem wi_low2 : ∀ A B : List Int, A.length = B.length → wi B A = decide (B = low A B)
  | [], [], _ => rfl
  | [], _ :: _, h => by simp at h
  | _ :: _, [], h => by simp at h
  | a :: A, b :: B, h => by
    rw [wi_cons, low_cons, wi_low2 A B (by simpa using h)]
    by_cases h1 : b < a
    · have h2 : b ≤ a := by omega
      simp [h1, h2]
    · by_cases h3 : b = a
      · subst h3; simp
      · have h2 : ¬ b ≤ a := by omega
        simp [h1, h2, h3]
theorem wi_t1 : ∀ A B : List Int, wi (low A B) A = true
  | [], _ => by simp [low, wi]
  | _ :: _, [] => by simp [low, wi]
  | a :: A, b :: B => by
    rw [low_cons, wi_cons, wi_t1 A B]
    have : (if b < a then b else a) ≤ a := by split <;> omega
    rw [decide_eq_true this]; rfl
theorem wi_t2 : ∀ A B : List Int, wi B (high A B) = true
  | [], _ => by simp [high, wi]
  | _ :: _, [] => by simp [high, wi]
  | a :: A, b :: B => by
    rw [high_cons, wi_cons, wi_t2 A B]
    have : b ≤ (if b > a then b else a) := by split <;> omega
    rw [decide_eq_true this]; rfl
theorem sm_low : ∀ A B : List Int, Sm A → Sm B → Sm (low A B)
  | [], _, _, _ => by intro a h; simp [low] at h
  | _ :: _, [], _, _ => by intro a h; simp [low] at h
  | a :: A, b :: B, h, k => by
    intro c hc
    rw [low_cons] at hc
    rcases List.mem_cons.mp hc with e | hc
    · have := h a List.mem_cons_self
      have := k b List.mem_cons_self
      rw [e]; split <;> omega
    · exact sm_low A B (fun x hx => h x (List.mem_cons_of_mem _ hx)) (fun x hx => k x (List.mem_cons_of_mem _ hx)) c hc
theorem sm_high : ∀ A B : List Int, Sm A → Sm B → Sm (high A B)
  | [], _, _, _ => by intro a h; simp [high] at h
  | _ :: _, [], _, _ => by intro a h; simp [high] at h
  | a :: A, b :: B, h, k => by
    intro c hc
    rw [high_cons] at hc
    rcases List.mem_cons.mp hc with e | hc
    · have := h a List.mem_cons_self
      have := k b List.mem_cons_self
      rw [e]; split <;> omega
    · exact sm_high A B (fun x hx => h x (List.mem_cons_of_mem _ hx)) (fun x hx => k x (List.mem_cons_of_mem _ hx)) c hc
theorem same_end {d i : Nat} {L Hh : List Int} {p q r s : Bool} {st : Sto} (hL : Sm L) (hH : Sm Hh) (lL : L.length ≤ 12) (lH : Hh.length ≤ 12) (hi : st.m i = some (.lst [.tup (L.map W.int), .tup (Hh.map W.int), .bl p, .bl q, .bl r, .bl s])) :
    runF tab (d + 1) 9 [.obj i, .lst [.tup (L.map W.int), .tup (Hh.map W.int), .bl p, .bl q, .bl r, .bl s]] st = .ok (.bl true) st := by
  have tp : toPy (.lst [.tup (L.map W.int), .tup (Hh.map W.int), .bl p, .bl q, .bl r, .bl s]) = some (.list [.tuple (L.map PyData.int), .tuple (Hh.map PyData.int), .bool p, .bool q, .bool r, .bool s]) := by
    simp [toPy, toPys, toPys_int]
  have tv : view st (.obj i) = .lst [.tup (L.map W.int), .tup (Hh.map W.int), .bl p, .bl q, .bl r, .bl s] := by simp only [view, hi]
  have hc : PyData.canLay0 (.list [.tuple (L.map PyData.int), .tuple (Hh.map PyData.int), .bool p, .bool q, .bool r, .bool s]) = true := by simp [PyData.canLay0, PyData.canLayAll0, lay_int]
  have hd : PyData.depth (.list [.tuple (L.map PyData.int), .tuple (Hh.map PyData.int), .bool p, .bool q, .bool r, .bool s]) ≤ 64 := by simp [PyData.depth, PyData.depthAll, dep_int]
  have hw : PyData.weight (.list [.tuple (L.map PyData.int), .tuple (Hh.map PyData.int), .bool p, .bool q, .bool r, .bool s]) ≤ 2 ^ 20 := by
    have a := wt_int L hL
    have b := wt_int Hh hH
    simp [PyData.weight, PyData.weightAll]
    omega
  have hy : PyData.layable0 (.list [.tuple (L.map PyData.int), .tuple (Hh.map PyData.int), .bool p, .bool q, .bool r, .bool s]) = true := by
    unfold PyData.layable0
    rw [hc, decide_eq_true hd, decide_eq_true hw]; rfl
  have hz := PyProof.Rows.shown_le13 hy (by simp [PyData.intsShort, PyData.intsShortAll, short_int L hL, short_int Hh hH])
  exact same_ok (T := tab) (i := 9) rfl (by rw [tv]; exact tp) tp rfl hc hd (by simp [PyData.showable, PyData.showableAll, show_int L hL, show_int Hh hH]) (by rw [sizeLine_eq]; omega)
theorem v_ixT {A : List Int} {j : Nat} {st : Sto} (h : j < A.length) : idxW (.tup (A.map W.int)) (.int (j : Nat)) st = some (.int (A.getD j 0)) := by
  show atI (A.map W.int) ((j : Nat) : Int) = _
  have e : (A.map W.int)[j]? = some (.int (A.getD j 0)) := by
    rw [List.getElem?_map]
    simp [List.getD_eq_getElem?_getD, List.getElem?_eq_getElem h]
  exact atI_nat e
theorem three_at {v : Int} (h0 : 0 ≤ v) (h : v < 3) : ∃ w : Int, atI [W.int 2, W.int 4, W.int 1000] v = some (.int w) ∧ 0 < w ∧ w ≤ 1000 := by
  have : v = 0 ∨ v = 1 ∨ v = 2 := by omega
  rcases this with rfl | rfl | rfl <;> exact ⟨_, rfl, by omega, by omega⟩
theorem two_int {x y t : Int} (h0 : 0 ≤ t) (h : t < 2) : ∃ z : Int, atI [W.int x, W.int y] t = some (.int z) ∧ (z = x ∨ z = y) := by
  have : t = 0 ∨ t = 1 := by omega
  rcases this with rfl | rfl
  · exact ⟨x, rfl, .inl rfl⟩
  · exact ⟨y, rfl, .inr rfl⟩
/-- a comprehension over range(n) that draws ints -/
theorem ints_b {e : Ex} {r : En} {n b : Nat} {st : Sto} (he : ∀ (i b : Nat) (s : Sto), i < n → Dk 0 b s → b ≤ 2 ^ 21 → ∃ (z : Int) (s' : Sto) (r' : En), bindT (.nm 13) (.int (i : Nat)) (wipeE r [13]) = some r' ∧ ev tab (runF tab 8) e r' s = .ok (.int z) s' ∧ 0 ≤ z ∧ z < 1000 ∧ Dk 0 (b + 2) s' ∧ s'.n = s.n)
    (hD : Dk 0 b st) (hb : b ≤ 2 ^ 20) (hn : n ≤ 12) : ∃ (A : List Int) (st' : Sto), lcRun [] (tnf tab (runF tab 8) [13] (.nm 13) (.cst (.bl true)) e r) ((List.range n).map fun i => .int (i : Nat)) [] st = .ok (A.map W.int) st' ∧ A.length = n ∧ Sm A ∧ Dk 0 (b + 24) st' ∧ st'.n = st.n := by
  obtain ⟨ys, st', e1, A, b', m, g1, g2, g3, g4, g5, g6, gm, g7⟩ := lc_ok (gd := []) (turn := tnf tab (runF tab 8) [13] (.nm 13) (.cst (.bl true)) e r)
    (fun xs acc s => ∃ (A : List Int) (b' m : Nat), acc = A.map W.int ∧ A.length = m ∧ xs = ((List.range n).map fun i => W.int (i : Nat)).drop m ∧ Sm A ∧ Dk 0 b' s ∧ b' ≤ b + 2 * m ∧ m ≤ n ∧ s.n = st.n)
    (fun _ _ _ _ => trivial) (fun x xs acc s ⟨A, b', m, g1, g2, g3, g4, g5, g6, gm, g7⟩ => by
      have hm : m < n := by
        by_cases z : m < n
        · exact z
        · rw [List.drop_eq_nil_of_le (by rw [List.length_map, List.length_range]; omega)] at g3; cases g3
      rw [List.drop_eq_getElem_cons (by rw [List.length_map, List.length_range]; exact hm)] at g3
      injection g3 with h1 h2
      rw [List.getElem_map, List.getElem_range] at h1
      subst h1
      obtain ⟨z, s', r', k1, k2, k3, k4, k5, k6⟩ := he m b' s hm g5 (by omega)
      refine ⟨some (.int z), s', tn_yes k1 e_cst rfl k2, A ++ [z], b' + 2, m + 1, ?_, ?_, h2, fun c hc => ?_, k5, by omega, by omega, k6.trans g7⟩
      · show acc ++ [W.int z] = _
        rw [g1, List.map_append]; rfl
      · rw [List.length_append, g2]; rfl
      · rcases List.mem_append.mp hc with hc | hc
        · exact g4 c hc
        · rw [List.mem_singleton.mp hc]; exact ⟨k3, k4⟩)
    ((List.range n).map fun i => .int (i : Nat)) [] st (by rw [List.length_map, List.length_range, sizeLine_eq]; show 0 + _ ≤ _; omega) ⟨[], b, 0, rfl, rfl, rfl, fun c hc => (by cases hc), hD, by omega, by omega, rfl⟩
  have hm : n ≤ m := by
    by_cases z : n ≤ m
    · exact z
    · have := congrArg List.length g3
      rw [List.length_drop, List.length_map, List.length_range] at this
      simp at this
      omega
  exact ⟨A, st', by rw [e1, g1], by omega, g4, g5.le (by omega), g7⟩
theorem law_ok (ns : List Int) (hns : ns.length ≤ 63) : ∃ st, runB tab (runF tab 8) f14 [.lst (ns.map W.int)] st0 = .ok (.bl true) st := by
  obtain ⟨s1, e1, D1, n1, _⟩ := deck_ok (T := tab) (i := 7) rfl (d := 7) (st := st0) (ns := ns) (by omega) rfl
  have D1' : Dk 0 0 s1 := D1
  have n1' : s1.n = 1 := n1
  obtain ⟨r2, s2, e2, b, ⟨a0, a2, a3, a4, a5, a6, a7, a8, a9, a10, a11, a12, a13, a14, a15, a16, hr⟩, D2, hb2, n2⟩ := for_ok (gd := []) (body := fun x r st => match bindT (.nm 2) x r with | some r' => exes tab (runF tab 8) turnB r' st | none => .stuck)
    (fun xs r s => ∃ b : Nat, (∃ a0 a2 a3 a4 a5 a6 a7 a8 a9 a10 a11 a12 a13 a14 a15 a16 : Option W, r = [a0, some (.obj 0), a2, a3, a4, a5, a6, a7, a8, a9, a10, a11, a12, a13, a14, a15, a16]) ∧ Dk 0 b s ∧ b + 600 * xs.length ≤ 7200 ∧ 0 < s.n)
    (fun _ _ _ _ => trivial) (fun x xs r s ⟨b, ⟨a0, a2, a3, a4, a5, a6, a7, a8, a9, a10, a11, a12, a13, a14, a15, a16, hr⟩, g1, g2, g3⟩ => by
      rw [List.length_cons] at g2
      obtain ⟨r', s', h1, h2, h3, h4⟩ := turn_ok g1 g3 (by omega) a0 (some x) a3 a4 a5 a6 a7 a8 a9 a10 a11 a12 a13 a14 a15 a16
      subst hr
      exact ⟨r', s', h1, b + 600, ⟨a0, h2⟩, h3, by omega, h4⟩)
    ((List.range 12).map fun i => .int (i : Nat)) [some (.lst (ns.map W.int)), some (.obj 0), none, none, none, none, none, none, none, none, none, none, none, none, none, none, none] s1 ⟨0, ⟨_, _, _, _, _, _, _, _, _, _, _, _, _, _, _, _, rfl⟩, D1', by rw [List.length_map, List.length_range]; omega, by omega⟩
  subst hr
  obtain ⟨cnt, s3, e3, c1, c2, D3, K3⟩ := draw (d := 7) (n := 13) D2 (by omega) (by omega) (by omega)
  obtain ⟨t3, s4, e4, t1, t2, D4, K4⟩ := draw (d := 7) (n := 3) D3 (by omega) (by omega) (by omega)
  obtain ⟨wd, hw, w1, w2⟩ := three_at t1 t2
  have hv := v_rng c1 (by omega)
  generalize hm : cnt.toNat = m at hv
  have m12 : m ≤ 12 := by omega
  have n4 : 0 < s4.n := by rw [K4.1, K3.1]; exact n2
  generalize hrA : ((([a0, some (.obj 0), a2, a3, a4, a5, a6, a7, a8, a9, a10, a11, a12, a13, a14, a15, a16] : En).set 8 (some (.int cnt))).set 11 (some (.int wd))) = rA
  have vA : (rA[1]?).bind id = some (.obj 0) ∧ (rA[11]?).bind id = some (.int wd) ∧ (rA[8]?).bind id = some (.int cnt) ∧ rA.length = 17 := by subst hrA; exact ⟨rfl, rfl, rfl, rfl⟩
  obtain ⟨A, s5, eA, lA, hA, D5, n5⟩ := ints_b (e := .call 8 [.var 1, .var 11]) (r := rA) (n := m) (fun i b s hi hD hb => by
    obtain ⟨z, s', k1, k2, k3, k4, k5⟩ := draw (d := 7) (n := wd) hD (by omega) w1 (by omega)
    refine ⟨z, s', _, rfl, ?_, k2, by omega, k4.le (by omega), k5.1⟩
    subst hrA
    exact e_call (es_cons (e_var rfl) (es_cons (e_var rfl) es_nil)) k1) D4 (by omega) m12
  generalize hrB : rA.set 12 (some (.tup (A.map W.int))) = rB
  obtain ⟨B, s6, eB, lB, hB, D6, n6⟩ := ints_b (e := .idx (.fz (.dis [.call 8 [.var 1, .var 11], .idx (.var 12) (.var 13)])) (.call 8 [.var 1, .cst (.int 2)])) (r := rB) (n := m) (fun i b s hi hD hb => by
    obtain ⟨z, s', k1, k2, k3, k4, k5⟩ := draw (d := 7) (n := wd) hD (by omega) w1 (by omega)
    obtain ⟨t, s'', l1, l2, l3, l4, l5⟩ := draw (d := 7) (n := 2) k4 (by omega) (by omega) (by omega)
    obtain ⟨y, h1, h2⟩ := two_int (x := z) (y := A.getD i 0) l2 l3
    have hi' : i < A.length := by omega
    have hy : 0 ≤ y ∧ y < 1000 := by
      rcases h2 with rfl | rfl
      · omega
      · apply hA
        rw [List.getD_eq_getElem?_getD, List.getElem?_eq_getElem hi']
        exact List.getElem_mem hi'
    refine ⟨y, s'', _, rfl, ?_, hy.1, hy.2, l4.le (by omega), l5.1.trans k5.1⟩
    subst hrB hrA
    exact e_idx (e_fz (f_dis (es_cons (e_call (es_cons (e_var rfl) (es_cons (e_var rfl) es_nil)) k1) (es_cons (e_idx (e_var rfl) (e_var rfl) (v_ixT hi')) es_nil)) (Nat.le_of_ble_eq_true rfl))) (e_call (es_cons (e_var rfl) (es_cons e_cst es_nil)) l1) (v_ixl h1)) D5 (by omega) m12
  generalize hrL : rB.set 14 (some (.tup (B.map W.int))) = rL
  have hz := zip_self A B (by omega)
  have eL : lcRun [] (tnf tab (runF tab 8) [13] (.nm 13) (.cst (.bl true)) (.blt .min2 [.idx (.var 12) (.var 13), .idx (.var 14) (.var 13)]) rL) ((List.range m).map fun i => .int (i : Nat)) [] s6 = .ok ((low A B).map W.int) s6 := by
    have z := lc_map (turn := tnf tab (runF tab 8) [13] (.nm 13) (.cst (.bl true)) (.blt .min2 [.idx (.var 12) (.var 13), .idx (.var 14) (.var 13)]) rL) (fun w => match w with | .int k => .int (if B.getD k.toNat 0 < A.getD k.toNat 0 then B.getD k.toNat 0 else A.getD k.toNat 0) | w => w) s6 ((List.range m).map fun i => .int (i : Nat)) (fun x hx => by
      obtain ⟨i, hi, rfl⟩ := List.mem_map.mp hx
      have hi := List.mem_range.mp hi
      subst hrL hrB hrA
      exact tn_yes rfl e_cst rfl (e_blt (es_cons (e_idx (e_var rfl) (e_var rfl) (v_ixT (by omega))) (es_cons (e_idx (e_var rfl) (e_var rfl) (v_ixT (by omega))) es_nil)) rfl)) (by rw [List.length_map, List.length_range, sizeLine_eq]; omega)
    rw [z, List.map_map]
    unfold low
    rw [hz fun a b => if b < a then b else a, List.map_map, lA]
    rfl
  generalize hrH : rL.set 15 (some (.tup ((low A B).map W.int))) = rH
  have eH : lcRun [] (tnf tab (runF tab 8) [13] (.nm 13) (.cst (.bl true)) (.blt .max2 [.idx (.var 12) (.var 13), .idx (.var 14) (.var 13)]) rH) ((List.range m).map fun i => .int (i : Nat)) [] s6 = .ok ((high A B).map W.int) s6 := by
    have z := lc_map (turn := tnf tab (runF tab 8) [13] (.nm 13) (.cst (.bl true)) (.blt .max2 [.idx (.var 12) (.var 13), .idx (.var 14) (.var 13)]) rH) (fun w => match w with | .int k => .int (if B.getD k.toNat 0 > A.getD k.toNat 0 then B.getD k.toNat 0 else A.getD k.toNat 0) | w => w) s6 ((List.range m).map fun i => .int (i : Nat)) (fun x hx => by
      obtain ⟨i, hi, rfl⟩ := List.mem_map.mp hx
      have hi := List.mem_range.mp hi
      subst hrH hrL hrB hrA
      exact tn_yes rfl e_cst rfl (e_blt (es_cons (e_idx (e_var rfl) (e_var rfl) (v_ixT (by omega))) (es_cons (e_idx (e_var rfl) (e_var rfl) (v_ixT (by omega))) es_nil)) rfl)) (by rw [List.length_map, List.length_range, sizeLine_eq]; omega)
    rw [z, List.map_map]
    unfold high
    rw [hz fun a b => if b > a then b else a, List.map_map, lA]
    rfl
  have z12 : A.length ≤ sizeLine := by rw [sizeLine_eq]; omega
  have zB : B.length ≤ sizeLine := by rw [sizeLine_eq]; omega
  have lL : (low A B).length = m := by unfold low; rw [List.length_map, List.length_zip]; omega
  have lH : (high A B).length = m := by unfold high; rw [List.length_map, List.length_zip]; omega
  have zL : (low A B).length ≤ sizeLine := by rw [sizeLine_eq]; omega
  have mt : runF tab 8 5 [.tup (A.map W.int), .tup (B.map W.int)] s6 = .ok (.tup ((low A B).map W.int)) s6 := by
    rw [meet_ok (d := 7) z12]; unfold low; rw [List.map_map]; rfl
  have jn : runF tab 8 6 [.tup (A.map W.int), .tup (B.map W.int)] s6 = .ok (.tup ((high A B).map W.int)) s6 := by
    rw [join_ok (d := 7) z12]; unfold high; rw [List.map_map]; rfl
  have v1 : runF tab 8 4 [.tup (A.map W.int), .tup (B.map W.int)] s6 = .ok (.bl (decide (A = low A B))) s6 := (within_ok (d := 7) z12).trans (by rw [← wi_low A B (by omega)]; rfl)
  have v2 : runF tab 8 4 [.tup (B.map W.int), .tup (A.map W.int)] s6 = .ok (.bl (decide (B = low A B))) s6 := (within_ok (d := 7) zB).trans (by rw [← wi_low2 A B (by omega)]; rfl)
  have v3 : runF tab 8 4 [.tup ((low A B).map W.int), .tup (A.map W.int)] s6 = .ok (.bl true) s6 := (within_ok (d := 7) zL).trans (by rw [← wi_t1 A B]; rfl)
  have v4 : runF tab 8 4 [.tup (B.map W.int), .tup ((high A B).map W.int)] s6 = .ok (.bl true) s6 := (within_ok (d := 7) zB).trans (by rw [← wi_t2 A B]; rfl)
  generalize h7 : s6.new (.lst [.tup ((low A B).map W.int), .tup ((high A B).map W.int), .bl (decide (A = low A B)), .bl (decide (B = low A B)), .bl true, .bl true]) = s7
  have q7 : s7.m s6.n = some (.lst [.tup ((low A B).map W.int), .tup ((high A B).map W.int), .bl (decide (A = low A B)), .bl (decide (B = low A B)), .bl true, .bl true]) := by rw [← h7]; exact new_at _ _
  have fin := same_end (d := 7) (sm_low A B hA hB) (sm_high A B hA hB) (by omega) (by omega) q7
  refine ⟨s7, run_rt ?_⟩
  show exes tab (runF tab 8) b14 [some (.lst (ns.map W.int)), none, none, none, none, none, none, none, none, none, none, none, none, none, none, none, none] st0 = _
  unfold b14
  refine s_nx (s_set (e_call (es_cons (e_var rfl) es_nil) e1)) ?_
  refine s_if (e_or (e_cmp (e_glo rfl) e_cst v_neI) t_bl (if_nyes rfl (e_cmp (e_glo rfl) e_cst v_neI))) t_bl (if_nyes rfl (ap_n ?_))
  refine s_nx (s_for (i_r1 e_cst (v_rng (by omega) (by omega))) e2) ?_
  refine s_nx (s_set (e_call (es_cons (e_var rfl) (es_cons e_cst es_nil)) e3)) ?_
  refine s_nx (s_set (e_idx (e_fz (f_dis (es_cons e_cst (es_cons e_cst (es_cons e_cst es_nil))) (Nat.le_of_ble_eq_true rfl))) (e_call (es_cons (e_var rfl) (es_cons e_cst es_nil)) e4) (v_ixl hw))) ?_
  subst hrH hrL hrB hrA
  refine s_nx (s_set (e_blt (es_cons (e_fz (f_lcp (i_r1 (e_var rfl) hv) eA)) es_nil) rfl)) ?_
  refine s_nx (s_set (e_blt (es_cons (e_fz (f_lcp (i_r1 (e_var rfl) hv) eB)) es_nil) rfl)) ?_
  refine s_nx (s_set (e_blt (es_cons (e_fz (f_lcp (i_r1 (e_var rfl) hv) eL)) es_nil) rfl)) ?_
  refine s_nx (s_set (e_blt (es_cons (e_fz (f_lcp (i_r1 (e_var rfl) hv) eH)) es_nil) rfl)) ?_
  refine s_nx (s_set (w := .obj s6.n) (s1 := s7) (Eq.trans (e_ow (f_dis (es_cons (e_call (es_cons (e_var rfl) (es_cons (e_var rfl) es_nil)) mt) (es_cons (e_call (es_cons (e_var rfl) (es_cons (e_var rfl) es_nil)) jn) (es_cons (e_call (es_cons (e_var rfl) (es_cons (e_var rfl) es_nil)) v1) (es_cons (e_call (es_cons (e_var rfl) (es_cons (e_var rfl) es_nil)) v2)
    (es_cons (e_call (es_cons (e_var rfl) (es_cons (e_var rfl) es_nil)) v3) (es_cons (e_call (es_cons (e_var rfl) (es_cons (e_var rfl) es_nil)) v4) es_nil)))))) (Nat.le_of_ble_eq_true rfl))) (by rw [h7]))) ?_
  refine s_rt (s_ret (e_call (es_cons (e_var rfl) (es_cons (e_fz (f_dis (es_cons (e_var rfl) (es_cons (e_var rfl) (es_cons (e_cmp (e_var rfl) (e_var rfl) v_eqT) (es_cons (e_cmp (e_var rfl) (e_var rfl) v_eqT) (es_cons e_cst (es_cons e_cst es_nil)))))) (Nat.le_of_ble_eq_true rfl))) es_nil)) fin))
end K01
open PySem PySem.W PySem.Calls PyProof.Rows
/-- the law, from the interpreter's run of it -/
theorem K01.holds_of (h : ∀ ns : List Int, ns.length ≤ 63 → ∃ st, Ip.runB K01.tab (Ip.runF K01.tab 8) K01.f14 [.lst (ns.map Ip.W.int)] Ip.st0 = .ok (.bl true) st) : PySem.Challenge.rw_everymerge_k01_items_and_vectors.Holds := by
  w_on; o_law
  refine HandSHeadRun.head_any (r := OpenLaw.row PySem.Challenge.rw_everymerge_k01_items_and_vectors) (q := view (OpenLaw.row PySem.Challenge.rw_everymerge_k01_items_and_vectors).prog [20]) (H := Ip.hkOf K01.pg 5) (ob := Ip.obOf K01.pg 5) (M := 4000) (loose := K01.loose)
    (d := HandSHeadRun.topDef (OpenLaw.row PySem.Challenge.rw_everymerge_k01_items_and_vectors).prog 20) (kwd := []) (Ip.obOf_eq _ _)
    (by kernel_rfl) (fun s => by kernel_rfl) K01.run (by kernel_rfl) (by kernel_rfl) (by kernel_rfl) (by rfl) (by first | assumption | decide +kernel) (by decide +kernel) ⟨rfl, rfl, rfl, rfl, rfl, by decide +kernel⟩ ?hw ?hc
  case hw => w_witness2
  case hc =>
    refine Ip.walk_ip (l := PySem.Challenge.rw_everymerge_k01_items_and_vectors) (n := 63) (dep := 8) (p := K01.pg) (li := 14) rfl (by decide) (by kernel_rfl) (by decide) rfl ?F K01.chk (D := K01.d14) (fs := K01.f14) (x := "script") rfl rfl (by kernel_rfl) rfl K01.bq14_1 h
    intro w mg fa hp Y G hmg
    refine Ip.head_ip (l := PySem.Challenge.rw_everymerge_k01_items_and_vectors) (p := K01.pg) (n := 5) (li := 14) (D := K01.d14) (x := "law") rfl rfl rfl K01.bnd w mg fa hp Y G ?_
    have e : (HandSHeadRun.topDef (OpenLaw.row PySem.Challenge.rw_everymerge_k01_items_and_vectors).prog 20).name = ("law" : PySem.Str) := by kernel_rfl
    rw [← e]
    exact hmg
theorem PySem.Challenge.cw_everymerge_k01_items_and_vectors_holds : PySem.Challenge.rw_everymerge_k01_items_and_vectors.Holds := by
  exact K01.holds_of K01.law_ok
