import PyProof.Rows.All
import Wide.All
import OpenK.AllK
import Wide.FinOn
import HandS.ForMost
import HandS.TupAny
import HandS.Exc
import HandS.Star
import HandS.Deep
import HandS.Wide
import HandS.IsInst
import HandS.Conv
import HandS.Zip
import HandS.Comp
import HandS.Small
import HandS.Words
import HandS.WordsExc
import HandS.ExcOwn
import HandS.Ends
import HandS.HeadHook3
import PyProof.StrLawsRepr
import PySem.Challenge.RW_typesunwritten_k01_whole_readings_there
set_option Elab.async false
set_option linter.all false
set_option maxRecDepth 100000
/-! PyA: data by structure, a small syntax, its evaluator. -/
namespace PyEv
open PySem (Str PyData)

/-- data that never changes any more -/
inductive D where
  | non | bl (b : Bool) | int (i : Int) | str (s : Str)
  | tup (xs : List D) | lst (xs : List D) | dct (ks : List Str) (vs : List D)
  | scr (ns : List Int)
  | ins (c : Str) (ns : List Str) (vs : List D)
  | exc (c : Str) (v : D)

/-- what a slot holds: data, or an object that this frame alone may change -/
inductive W where
  | d (x : D) | lst (xs : List D) | dct (ks : List Str) (vs : List D)

def W.frz : W → D
  | .d x => x
  | .lst xs => .lst xs
  | .dct ks vs => .dct ks vs

abbrev Env := List (Option W)

/-- an operand: a slot (read when it is used), or a value -/
inductive Ar where
  | vr (i : Nat) | val (w : W)

inductive Res (α : Type) where
  | ok (a : α) (env : Env) | exc (x : D) (env : Env) | bad

def Res.bind {α β : Type} (r : Res α) (f : α → Env → Res β) : Res β := match r with
  | .ok a env => f a env
  | .exc x env => .exc x env
  | .bad => .bad
/-- where nothing may be raised -/
def Res.noX {α : Type} : Res α → Res α
  | .ok a env => .ok a env
  | _ => .bad
def Res.of {α : Type} (o : Option α) (env : Env) : Res α := match o with
  | some a => .ok a env
  | none => .bad

/-- constants -/
inductive C where
  | non | bl (b : Bool) | int (i : Int) | str (s : Str)
def C.d : C → D
  | .non => .non
  | .bl b => .bl b
  | .int i => .int i
  | .str s => .str s

/-- operators of two operands -/
inductive Bo where
  | add | sub | mul | fdv | mod | pow
/-- comparisons -/
inductive Co where
  | eq | ne | lt | le | gt | ge | isN | notN | isin | notin
/-- built-in functions of one operand -/
inductive Bi where
  | len | tuple | list | all | any | repr | abs | int
/-- built-in types that isinstance asks for -/
inductive Ty where
  | str | int | bool | tuple | list | dict
/-- methods of built-in types that change nothing -/
inductive Bm where
  | join | split | startswith | get1 | get2
/-- methods that change the object in a slot -/
inductive Mm where
  | append | extend | popAt

/-- targets -/
inductive Tg where
  | one (i : Nat) | two (i j : Nat) | three (i j k : Nat)

mutual
inductive E where
  | var (i : Nat)
  | k (c : C)
  | glob (x : Str)
  | tup (es : Es) | lst (es : Es)
  | dct (ks : List Str) (es : Es)
  | bin (o : Bo) (a b : E)
  | neg (a : E)
  | cmp (o : Co) (a b : E)
  | chain (o1 o2 : Co) (a b c : E)
  | and (a b : E) | or (a b : E) | not (a : E)
  | ifx (c a b : E)
  | call (f : Str) (es : Es)
  | bi (f : Bi) (a : E)
  | mm (mx : Bool) (a b : E)
  | isi (a : E) (t : Ty)
  | ix (a i : E)
  | slc (a lo hi : E)
  | rev (a : E)
  | bm (m : Bm) (o : E) (es : Es)
  | mut (m : Mm) (i : Nat) (es : Es)
  | lc (elt : E) (tg : Tg) (it : It) (cond : E) (own : List (Str × Nat))
  | listRange (a : E)
  | none
inductive Es where
  | nil | cons (e : E) (es : Es) | star (e : E) (es : Es)
inductive It where
  | seq (e : E) | range1 (e : E) | range2 (a b : E) | zip (a b : E) | enum (a : E)
end

mutual
inductive S where
  | set (i : Nat) (e : E)
  | par (i j : Nat) (a b : E)
  | unp (tg : Tg) (e : E)
  | setix (i : Nat) (ie e : E)
  | aug (o : Bo) (i : Nat) (e : E)
  | ret (e : E)
  | ife (c : E) (a b : Ss)
  | for (tg : Tg) (it : It) (body : Ss)
  | whl (c : E) (body : Ss)
  | expr (e : E)
  | raise (c : Str) (e : E)
  | pass
  | never
inductive Ss where
  | nil | cons (s : S) (ss : Ss)
end

/-! ### the operators on data -/
mutual
def D.py : D → Option PyData
  | .non => some .none
  | .bl b => some (.bool b)
  | .int i => some (.int i)
  | .str s => some (.str s)
  | .tup xs => (D.pyL xs).map .tuple
  | .lst xs => (D.pyL xs).map .list
  | .dct .. => none
  | .scr .. => none
  | .ins .. => none
  | .exc .. => none
def D.pyL : List D → Option (List PyData)
  | [] => some []
  | x :: xs => match D.py x, D.pyL xs with
    | some a, some b => some (a :: b)
    | _, _ => none
end

def line : Nat := 16777216

def binF : Bo → D → D → Option W
  | .add, .int i, .int j => some (.d (.int (i + j)))
  | .add, .str a, .str b => if a.length + b.length ≤ line then some (.d (.str (a ++ b))) else none
  | .add, .lst a, .lst b => if a.length + b.length ≤ line then some (.lst (a ++ b)) else none
  | .add, .tup a, .tup b => if a.length + b.length ≤ line then some (.d (.tup (a ++ b))) else none
  | .sub, .int i, .int j => some (.d (.int (i - j)))
  | .mul, .int i, .int j => if i.natAbs.log2 + j.natAbs.log2 < 1000000 then some (.d (.int (i * j))) else none
  | .fdv, .int i, .int j => if 0 < j ∧ j.natAbs.log2 < 9000 then some (.d (.int (i / j))) else none
  | .mod, .int i, .int j => if 0 < j then some (.d (.int (i % j))) else none
  | .pow, .int i, .int j => if 0 ≤ j ∧ (PySem.Builtin.Int.intBits i : Int) * j ≤ 2 ^ 27 then some (.d (.int (i ^ j.toNat))) else none
  | _, _, _ => none

/-- == -/
def eqF (a b : D) : Option Bool := match a, b with
  | .str x, .str y => some (decide (x = y))
  | .int i, .int j => some (decide (i = j))
  | a, b => match a.py, b.py with
    | some p, some q => if PySem.SeqAt.shaped p && PySem.SeqAt.shaped q then some (PyData.eqv p q) else none
    | _, _ => none

def isinF (a b : D) : Option Bool := match a, b with
  | .str x, .str y => some (!(PySem.Builtin.Str.occurrences y x 0 y.length 1).isEmpty)
  | .str x, .dct ks _ => some (ks.contains x)
  | a, .tup ys => match a.py, D.pyL ys with
    | some p, some qs => if PySem.SeqAt.shaped p && PySem.SeqAt.shaped (.tuple qs) then some (qs.any fun z => PyData.eqv z p) else none
    | _, _ => none
  | a, .lst ys => match a.py, D.pyL ys with
    | some p, some qs => if PySem.SeqAt.shaped p && PySem.SeqAt.shaped (.list qs) then some (qs.any fun z => PyData.eqv z p) else none
    | _, _ => none
  | _, _ => none

def D.isNon : D → Bool
  | .non => true
  | _ => false

def cmpF : Co → D → D → Option Bool
  | .eq, a, b => eqF a b
  | .ne, a, b => (eqF a b).map (!·)
  | .lt, .int i, .int j => some (decide (i < j))
  | .le, .int i, .int j => some (decide (i ≤ j))
  | .gt, .int i, .int j => some (decide (j < i))
  | .ge, .int i, .int j => some (decide (j ≤ i))
  | .isN, a, .non => some a.isNon
  | .notN, a, .non => some (!a.isNon)
  | .isin, a, b => isinF a b
  | .notin, a, b => (isinF a b).map (!·)
  | _, _, _ => none

def D.isTy : Ty → D → Option Bool
  | .str, .str _ => some true
  | .int, .int _ => some true
  | .int, .bl _ => some true
  | .bool, .bl _ => some true
  | .tuple, .tup _ => some true
  | .list, .lst _ => some true
  | .dict, .dct .. => some true
  | _, .ins .. => none
  | _, .exc .. => none
  | _, .scr .. => none
  | _, _ => some false

def allBl : List D → Option (List Bool)
  | [] => some []
  | .bl b :: r => (allBl r).map (b :: ·)
  | _ :: _ => none

/-- the text that repr gives -/
def reprF (d : D) : Option D := match d.py with
  | some p => if p.showable && decide (p.shown.length ≤ line) && decide (p.depth ≤ 150) && !p.hasDict then some (.str p.shown) else none
  | none => none

def biF : Bi → D → Option W
  | .len, .tup xs => some (.d (.int xs.length))
  | .len, .lst xs => some (.d (.int xs.length))
  | .len, .str s => if s.length ≤ line then some (.d (.int s.length)) else none
  | .len, .scr ns => some (.d (.int ns.length))
  | .tuple, .tup xs => some (.d (.tup xs))
  | .tuple, .lst xs => some (.d (.tup xs))
  | .list, .tup xs => some (.lst xs)
  | .list, .lst xs => some (.lst xs)
  | .all, .lst xs => (allBl xs).map fun bs => .d (.bl (bs.all id))
  | .any, .lst xs => (allBl xs).map fun bs => .d (.bl (bs.any id))
  | .repr, d => (reprF d).map .d
  | .abs, .int i => some (.d (.int (if i < 0 then -i else i)))
  | .int, .int i => some (.d (.int i))
  | .int, .bl b => some (.d (.int (if b then 1 else 0)))
  | _, _ => none

def cutD (xs : List D) (lo hi : Option Int) : List D := (xs.drop (HT.sIx xs.length 0 lo)).take (HT.sIx xs.length xs.length hi - HT.sIx xs.length 0 lo)

def ixF : D → D → Option D
  | .tup xs, .int i => L2.atI xs i
  | .lst xs, .int i => L2.atI xs i
  | .scr ns, .int i => (L2.atI ns i).map .int
  | .str z, .int i => if z.length ≤ line then (L2.atI z.cps.toList i).map fun c => .str ⟨#[c]⟩ else none
  | .dct ks vs, .str k => (ks.zip vs).lookup k
  | _, _ => none

def slcF : D → Option Int → Option Int → Option W
  | .tup xs, lo, hi => some (.d (.tup (cutD xs lo hi)))
  | .lst xs, lo, hi => some (.lst (cutD xs lo hi))
  | .str z, lo, hi => if z.length ≤ line then some (.d (.str (L2.cutS z lo hi))) else none
  | _, _, _ => none

def partF : D → Option (Option Int)
  | .int i => some (some i)
  | _ => none

/-- the items of what is walked -/
def itemsF : D → Option (List D)
  | .tup xs => some xs
  | .lst xs => some xs
  | .str z => some (z.cps.toList.map fun c => .str ⟨#[c]⟩)
  | _ => none

def zipF : D → D → Option (List D)
  | .lst xs, .lst ys => some ((xs.zip ys).map fun p => .tup [p.1, p.2])
  | .tup xs, .tup ys => some ((xs.zip ys).map fun p => .tup [p.1, p.2])
  | _, _ => none
def enumF : D → Option (List D)
  | .lst xs => some (xs.zipIdx.map fun p => .tup [.int (p.2 : Nat), p.1])
  | _ => none

def rangeF (lo hi : Int) : Option (List D) :=
  if -(2 ^ 62) ≤ lo ∧ lo < 2 ^ 62 ∧ -(2 ^ 62) ≤ hi ∧ hi < 2 ^ 62 then some ((List.range (hi - lo).toNat).map fun i => .int (lo + (i : Nat))) else none

def bmF : Bm → D → List D → Option W
  | .get1, .dct ks vs, [.str k] => some (.d (((ks.zip vs).lookup k).getD .non))
  | .get2, .dct ks vs, [.str k, x] => some (.d (((ks.zip vs).lookup k).getD x))
  | _, _, _ => none

/-- what a method that changes gives, and what the object is then -/
def mutF : Mm → W → List D → Option (D × W)
  | .append, .lst xs, [y] => if xs.length < line then some (.non, .lst (xs ++ [y])) else none
  | .extend, .lst xs, [.lst ys] => if xs.length + ys.length ≤ line then some (.non, .lst (xs ++ ys)) else none
  | .popAt, .lst xs, [.int i] => if xs.length ≤ line then (match L2.ixN xs.length i with
    | some j => (xs[j]?).map fun y => (y, .lst (xs.eraseIdx j))
    | none => none) else none
  | _, _, _ => none

/-- a[i] = v -/
def setF : W → D → D → Option W
  | .lst xs, .int i, v => (L2.ixN xs.length i).map fun j => .lst (xs.set j v)
  | .dct ks vs, .str k, v => if ks.length < line then (if ks.contains k then some (.dct ks ((ks.zip vs).map fun p => if p.1 = k then v else p.2)) else some (.dct (ks ++ [k]) (vs ++ [v]))) else none
  | _, _, _ => none

/-! ### the state -/
def slot (env : Env) (i : Nat) : Option W := env.getD i none

/-- what an operand is when it is used -/
def use (env : Env) : Ar → Option D
  | .vr i => (slot env i).map W.frz
  | .val w => some w.frz

/-- an operand as data for good -/
def item : Ar → Env → Res D
  | .vr i, env => match slot env i with
    | some (.d x) => .ok x env
    | some w => .ok w.frz (env.set i (some (.d w.frz)))
    | none => .bad
  | .val w, env => .ok w.frz env

/-- an operand handed on, with what it may still be -/
def take : Ar → Env → Res W
  | .vr i, env => match slot env i with
    | some (.d x) => .ok (.d x) env
    | some w => .ok w (env.set i none)
    | none => .bad
  | .val w, env => .ok w env

/-- a slot is stored -/
def store (keep : List Nat) (i : Nat) (w : W) (env : Env) : Option Env := if keep.contains i ∨ env.length ≤ i then none else some (env.set i (some w))

def assignTg (keep : List Nat) : Tg → D → Env → Option Env
  | .one i, x, env => store keep i (.d x) env
  | .two i j, .tup [x, y], env => (store keep i (.d x) env).bind (store keep j (.d y))
  | .two i j, .str z, env => match z.cps.toList with
    | [c, d] => if c < 128 ∧ d < 128 then (store keep i (.d (.str ⟨#[c]⟩)) env).bind (store keep j (.d (.str ⟨#[d]⟩))) else none
    | _ => none
  | .three i j k, .tup [x, y, z], env => (store keep i (.d x) env).bind fun env => (store keep j (.d y) env).bind (store keep k (.d z))
  | _, _, _ => none

def wipeE (env : Env) : List (Str × Nat) → Env
  | [] => env
  | p :: r => (wipeE env r).set p.2 none

/-! ### calls -/
structure Fn where
  n : Nat
  m : Nat
  keep : List Nat
  body : Ss

inductive CRes where
  | ok (w : W) (outs : Env) | exc (x : D) (outs : Env) | bad

structure Prog where
  fns : List (Str × Fn)
  consts : List (Str × D)

/-- the arguments as they are bound; which slot came to which parameter -/
def bindA (keep : List Nat) : List Ar → Nat → Env → Option (List W × Env × List (Nat × Nat))
  | [], _, env => some ([], env, [])
  | .val w :: r, j, env => (bindA keep r (j + 1) env).map fun (ws, e, l) => (w :: ws, e, l)
  | .vr i :: r, j, env => match slot env i with
    | some (.d x) => (bindA keep r (j + 1) env).map fun (ws, e, l) => (.d x :: ws, e, l)
    | some w => if keep.contains j then (bindA keep r (j + 1) (env.set i none)).map fun (ws, e, l) => (w :: ws, e, (i, j) :: l) else none
    | none => none

/-- what comes back to the slots -/
def backA (outs : Env) (env : Env) : List (Nat × Nat) → Env
  | [] => env
  | (i, j) :: r => (backA outs env r).set i (outs.getD j none)

section
variable (P : Prog) (cf : Str → List W → CRes) (keep : List Nat)

def callA (f : Str) (fn : Fn) (ars : List Ar) (env : Env) : Res Ar := match bindA fn.keep ars 0 env with
  | none => .bad
  | some (ws, env1, l) => match cf f ws with
    | .ok w outs => .ok (.val w) (backA outs env1 l)
    | .exc x outs => .exc x (backA outs env1 l)
    | .bad => .bad

/-- a comprehension's turns -/
def lcL (tg : Tg) (own : List (Str × Nat)) (ct : Env → Res Bool) (ce : Env → Res D) : List D → List D → Env → Res (List D)
  | [], acc, env => .ok acc env
  | x :: xs, acc, env => match assignTg keep tg x (wipeE env own) with
    | none => .bad
    | some env1 => (ct env1).noX.bind fun b env2 => if b = true then (ce env2).noX.bind fun y env3 => if acc.length < line then lcL tg own ct ce xs (acc ++ [y]) (wipeE env3 own) else .bad
      else lcL tg own ct ce xs acc (wipeE env2 own)

def useB (r : Res Ar) : Res Bool := r.bind fun a env => match use env a with
  | some (.bl b) => .ok b env
  | _ => .bad

/-- a part of a slice -/
def partB (a : Ar) (env : Env) : Res (Option Int) := match use env a with
  | some (.int i) => .ok (some i) env
  | _ => .bad
def E.isNone : E → Bool
  | .none => true
  | _ => false
def useAll (env : Env) : List Ar → Option (List D)
  | [] => some []
  | a :: r => match use env a, useAll env r with
    | some x, some xs => some (x :: xs)
    | _, _ => none

mutual
def evE : E → Env → Res Ar
  | .var i, env => match slot env i with
    | some _ => .ok (.vr i) env
    | none => .bad
  | .k c, env => .ok (.val (.d c.d)) env
  | .glob x, env => Res.of ((P.consts.lookup x).map fun d => .val (.d d)) env
  | .tup es, env => (evIts es env).bind fun ds env => if ds.length ≤ line then .ok (.val (.d (.tup ds))) env else .bad
  | .lst es, env => (evIts es env).bind fun ds env => if ds.length ≤ line then .ok (.val (.lst ds)) env else .bad
  | .dct ks es, env => (evIts es env).bind fun ds env => .ok (.val (.dct ks ds)) env
  | .bin o a b, env => (evE a env).bind fun x env => (evE b env).bind fun y env => match use env x, use env y with
    | some dx, some dy => Res.of ((binF o dx dy).map .val) env
    | _, _ => .bad
  | .neg a, env => (evE a env).bind fun x env => match use env x with
    | some (.int i) => .ok (.val (.d (.int (-i)))) env
    | _ => .bad
  | .cmp o a b, env => (evE a env).bind fun x env => (evE b env).bind fun y env => match use env x, use env y with
    | some dx, some dy => Res.of ((cmpF o dx dy).map fun b => .val (.d (.bl b))) env
    | _, _ => .bad
  | .chain o1 o2 a b c, env => (evE a env).bind fun x env => (evE b env).bind fun y env => match use env x, use env y with
    | some dx, some dy => match cmpF o1 dx dy with
      | some true => (evE c env).bind fun z env => match use env y, use env z with
        | some dy, some dz => Res.of ((cmpF o2 dy dz).map fun b => .val (.d (.bl b))) env
        | _, _ => .bad
      | some false => .ok (.val (.d (.bl false))) env
      | none => .bad
    | _, _ => .bad
  | .and a b, env => (useB (evE a env)).bind fun k env => if k = true then evE b env else .ok (.val (.d (.bl false))) env
  | .or a b, env => (useB (evE a env)).bind fun k env => if k = true then .ok (.val (.d (.bl true))) env else evE b env
  | .not a, env => (useB (evE a env)).bind fun k env => .ok (.val (.d (.bl (!k)))) env
  | .ifx c a b, env => (useB (evE c env)).bind fun k env => if k = true then evE a env else evE b env
  | .call f es, env => match P.fns.lookup f with
    | none => .bad
    | some fn => (evAs es env).bind fun ars env => callA cf f fn ars env
  | .bi f a, env => (evE a env).bind fun x env => match use env x with
    | some dx => Res.of ((biF f dx).map .val) env
    | none => .bad
  | .mm mx a b, env => (evE a env).bind fun x env => (evE b env).bind fun y env => match use env x, use env y with
    | some (.int i), some (.int j) => .ok (.val (.d (.int (if mx = true then (if j > i then j else i) else (if j < i then j else i))))) env
    | _, _ => .bad
  | .isi a t, env => (evE a env).bind fun x env => match use env x with
    | some dx => Res.of ((dx.isTy t).map fun b => .val (.d (.bl b))) env
    | none => .bad
  | .ix a i, env => (evE a env).bind fun x env => (evE i env).bind fun y env => match use env x, use env y with
    | some dx, some dy => Res.of ((ixF dx dy).map fun d => .val (.d d)) env
    | _, _ => .bad
  | .slc a lo hi, env => (evE a env).bind fun x env => (if lo.isNone = true then .ok none env else (evE lo env).bind partB).bind fun l env => (if hi.isNone = true then .ok none env else (evE hi env).bind partB).bind fun h env => match use env x with
    | some dx => Res.of ((slcF dx l h).map .val) env
    | none => .bad
  | .rev a, env => (evE a env).bind fun x env => match use env x with
    | some (.tup xs) => .ok (.val (.d (.tup xs.reverse))) env
    | _ => .bad
  | .bm m o es, env => (evE o env).bind fun x env => (evAs es env).bind fun ars env => match use env x, useAll env ars with
    | some dx, some ds => Res.of ((bmF m dx ds).map .val) env
    | _, _ => .bad
  | .mut m i es, env => match slot env i with
    | some (.lst _) => (evIts es env).bind fun ds env => match slot env i with
      | some w => match mutF m w ds with
        | some (y, w') => .ok (.val (.d y)) (env.set i (some w'))
        | none => .bad
      | none => .bad
    | _ => .bad
  | .lc elt tg it cond own, env => (evIt it env).bind fun xs env => (lcL keep tg own (fun env => if cond.isNone = true then .ok true env else useB (evE cond env)) (fun env => (evE elt env).bind item) xs [] env).bind fun ys env => .ok (.val (.lst ys)) (wipeE env own)
  | .listRange a, env => (evE a env).bind fun x env => match use env x with
    | some (.int i) => if i ≤ line then Res.of ((rangeF 0 i).map fun xs => .val (.lst xs)) env else .bad
    | _ => .bad
  | .none, _ => .bad
/-- items of a display, an argument list of a method -/
def evIts : Es → Env → Res (List D)
  | .nil, env => .ok [] env
  | .cons e es, env => (evE e env).bind fun a env => (item a env).bind fun d env => (evIts es env).bind fun ds env => .ok (d :: ds) env
  | .star e es, env => (evE e env).bind fun a env => (item a env).bind fun d env => match d with
    | .lst xs => (evIts es env).bind fun ds env => .ok (xs ++ ds) env
    | .tup xs => (evIts es env).bind fun ds env => .ok (xs ++ ds) env
    | _ => .bad
/-- arguments -/
def evAs : Es → Env → Res (List Ar)
  | .nil, env => .ok [] env
  | .cons e es, env => (evE e env).bind fun a env => (evAs es env).bind fun as env => .ok (a :: as) env
  | .star _ _, _ => .bad
/-- what is walked -/
def evIt : It → Env → Res (List D)
  | .seq e, env => (evE e env).bind fun a env => (item a env).bind fun d env => Res.of (itemsF d) env
  | .range1 e, env => (evE e env).bind fun a env => match use env a with
    | some (.int i) => Res.of (rangeF 0 i) env
    | _ => .bad
  | .range2 a b, env => (evE a env).bind fun x env => (evE b env).bind fun y env => match use env x, use env y with
    | some (.int i), some (.int j) => Res.of (rangeF i j) env
    | _, _ => .bad
  | .zip a b, env => (evE a env).bind fun x env => (item x env).bind fun dx env => (evE b env).bind fun y env => (item y env).bind fun dy env => Res.of (zipF dx dy) env
  | .enum a, env => (evE a env).bind fun x env => (item x env).bind fun dx env => Res.of (enumF dx) env
end

/-- how a statement ends -/
inductive Fl where
  | nx (env : Env) | rt (w : W) (env : Env) | bk (env : Env) | ct (env : Env) | ex (x : D) (env : Env) | bad

def Fl.then (f : Fl) (g : Env → Fl) : Fl := match f with
  | .nx env => g env
  | f => f
def Res.fl {α : Type} (r : Res α) (f : α → Env → Fl) : Fl := match r with
  | .ok a env => f a env
  | .exc x env => .ex x env
  | .bad => .bad
def nxO : Option Env → Fl
  | some env => .nx env
  | none => .bad

def forL (tg : Tg) (body : Env → Fl) : List D → Env → Fl
  | [], env => .nx env
  | x :: xs, env => match assignTg keep tg x env with
    | none => .bad
    | some env1 => match body env1 with
      | .nx env2 => forL tg body xs env2
      | .ct env2 => forL tg body xs env2
      | .bk env2 => .nx env2
      | f => f

def whlL (c : Env → Res Bool) (body : Env → Fl) : Nat → Env → Fl
  | 0, _ => .bad
  | n + 1, env => (c env).fl fun b env1 => if b = true then match body env1 with
      | .nx env2 => whlL c body n env2
      | .ct env2 => whlL c body n env2
      | .bk env2 => .nx env2
      | f => f
    else .nx env1

def loopMost : Nat := 100000

mutual
def evS : S → Env → Fl
  | .set i e, env => (evE P cf keep e env).fl fun a env => (match a with
      | .vr j => (item (.vr j) env).fl fun d env => nxO (store keep i (.d d) env)
      | .val w => nxO (store keep i w env))
  | .par i j a b, env => (evE P cf keep a env).fl fun x env => (evE P cf keep b env).fl fun y env => match x, y with
      | .val w, .val u => nxO ((store keep i w env).bind (store keep j u))
      | x, y => (item x env).fl fun dx env => (item y env).fl fun dy env => nxO ((store keep i (.d dx) env).bind (store keep j (.d dy)))
  | .unp tg e, env => (evE P cf keep e env).fl fun a env => (item a env).fl fun d env => nxO (assignTg keep tg d env)
  | .setix i ie e, env => (evE P cf keep e env).fl fun a env => (item a env).fl fun v env => match slot env i with
    | none => .bad
    | some _ => (evE P cf keep ie env).fl fun b env => match use env b, slot env i with
      | some k, some w => match setF w k v with
        | some w' => .nx (env.set i (some w'))
        | none => .bad
      | _, _ => .bad
  | .aug o i e, env => (evE P cf keep e env).fl fun a env => match slot env i, use env a with
      | some (.d x), some y => match x, binF o x y with
        | .int _, some w => nxO (store keep i w env)
        | .str _, some w => nxO (store keep i w env)
        | _, _ => .bad
      | _, _ => .bad
  | .ret e, env => (evE P cf keep e env).fl fun a env => (take a env).fl fun w env => .rt w env
  | .ife c a b, env => (useB (evE P cf keep c env)).fl fun k env => if k = true then evSs a env else evSs b env
  | .for tg it body, env => (evIt P cf keep it env).fl fun xs env => forL keep tg (fun env => evSs body env) xs env
  | .whl c body, env => whlL (fun env => useB (evE P cf keep c env)) (fun env => evSs body env) loopMost env
  | .expr e, env => (evE P cf keep e env).fl fun _ env => .nx env
  | .raise c e, env => (evE P cf keep e env).fl fun a env => (item a env).fl fun d env => .ex (.exc c d) env
  | .pass, env => .nx env
  | .never, _ => .bad
def evSs : Ss → Env → Fl
  | .nil, env => .nx env
  | .cons s ss, env => (evS s env).then fun env => evSs ss env
end
end

def finC : Fl → CRes
  | .nx env => .ok (.d .non) env
  | .rt w env => .ok w env
  | .ex x env => .exc x env
  | _ => .bad

/-- a def, called with room for n calls one in another -/
def callF (P : Prog) : Nat → Str → List W → CRes
  | 0, _, _ => .bad
  | n + 1, f, ws => match P.fns.lookup f with
    | none => .bad
    | some fn => if ws.length = fn.n then finC (evSs P (callF P n) fn.keep fn.body (ws.map some ++ List.replicate (fn.m - fn.n) none)) else .bad
end PyEv

set_option maxRecDepth 100000
set_option maxHeartbeats 2000000
/-! PyB1: what stands in the heap for data. -/
namespace PyEv
open PySem L2

/-- a dict of the module: its texts and what they lead to -/
structure KD (K : PySem.W.Frag) (w : World) (a : Addr) (ks : List Str) (us : List V) : Prop where
  ex : ∃ es n, KDict K w a es n
  yes : ∀ x v, (ks.zip us).lookup x = some v → ∃ u, PySem.W.nsIn K a x = some (some u) ∧ RelV v u
  no : ∀ x, (ks.zip us).lookup x = none → PySem.W.nsIn K a x = some none
  len : ks.length = us.length

mutual
inductive Den (K : PySem.W.Frag) (w : World) (Hf : Hp) : D → V → Prop
  | non : Den K w Hf .non .non
  | bl (b : Bool) : Den K w Hf (.bl b) (.bl b)
  | int (i : Int) : Den K w Hf (.int i) (.int i)
  | str (s : Str) : Den K w Hf (.str s) (.str s)
  | tup {a : Addr} {ds : List D} {vs : List V} : SqT K Hf a vs → DenL K w Hf ds vs → Den K w Hf (.tup ds) (.ref a)
  | lst {a : Addr} {ds : List D} {vs : List V} : Hf a = some (.lst vs) → DenL K w Hf ds vs → Den K w Hf (.lst ds) (.ref a)
  | dct {a : Addr} {ks : List Str} {ds : List D} {kvs : List (Key × V)} : Hf a = some (.dK kvs) → kvs.map (·.1) = ks.map Sum.inr → DenL K w Hf ds (kvs.map (·.2)) → Den K w Hf (.dct ks ds) (.ref a)
  | kdct {a : Addr} {ks : List Str} {ds : List D} {us : List V} : KD K w a ks us → DenL K w Hf ds us → Den K w Hf (.dct ks ds) (.ref a)
  | scr {a : Addr} {ns : List Int} : SqL K Hf a (ns.map V.int) → Den K w Hf (.scr ns) (.ref a)
inductive DenL (K : PySem.W.Frag) (w : World) (Hf : Hp) : List D → List V → Prop
  | nil : DenL K w Hf [] []
  | cons {d : D} {ds : List D} {v : V} {vs : List V} : Den K w Hf d v → DenL K w Hf ds vs → DenL K w Hf (d :: ds) (v :: vs)
end

section
variable {K : PySem.W.Frag} {w : World} {Hf Hg H H' : Hp}

theorem SqT.same {a : Addr} {xs : List V} (h : Same Hf Hg) (s : SqT K Hf a xs) : SqT K Hg a xs := by
  rcases s with (s | ⟨o, s⟩) | s
  · exact .inl (.inl (h _ _ s))
  · exact .inl (.inr ⟨o, h _ _ s⟩)
  · exact .inr s

mutual
theorem Den.mono (h : Same Hf Hg) : ∀ {d : D} {v : V}, Den K w Hf d v → Den K w Hg d v
  | _, _, .non => .non
  | _, _, .bl b => .bl b
  | _, _, .int i => .int i
  | _, _, .str s => .str s
  | _, _, .tup s l => .tup (SqT.same h s) (DenL.mono h l)
  | _, _, .lst s l => .lst (h _ _ s) (DenL.mono h l)
  | _, _, .dct s e l => .dct (h _ _ s) e (DenL.mono h l)
  | _, _, .kdct k l => .kdct k (DenL.mono h l)
  | _, _, .scr s => .scr (h.seq s)
theorem DenL.mono (h : Same Hf Hg) : ∀ {ds : List D} {vs : List V}, DenL K w Hf ds vs → DenL K w Hg ds vs
  | _, _, .nil => .nil
  | _, _, .cons a b => .cons (Den.mono h a) (DenL.mono h b)
end
theorem DenL.length : ∀ {ds : List D} {vs : List V}, DenL K w Hf ds vs → ds.length = vs.length
  | _, _, .nil => rfl
  | _, _, .cons _ b => by rw [List.length_cons, List.length_cons, DenL.length b]
theorem DenL.append : ∀ {ds es : List D} {vs us : List V}, DenL K w Hf ds vs → DenL K w Hf es us → DenL K w Hf (ds ++ es) (vs ++ us)
  | _, _, _, _, .nil, h => h
  | _, _, _, _, .cons a b, h => .cons a (DenL.append b h)
theorem DenL.get : ∀ {ds : List D} {vs : List V} {i : Nat} {d : D}, DenL K w Hf ds vs → ds[i]? = some d → ∃ v, vs[i]? = some v ∧ Den K w Hf d v
  | _, _, _, _, .nil, e => by simp at e
  | _, _, 0, _, .cons a _, e => by simp at e; subst e; exact ⟨_, rfl, a⟩
  | _, _, i + 1, d, .cons _ b, e => by
    obtain ⟨v, h1, h2⟩ := DenL.get (i := i) (d := d) b (by simpa using e)
    exact ⟨v, by simpa using h1, h2⟩
theorem DenL.take : ∀ {ds : List D} {vs : List V} (n : Nat), DenL K w Hf ds vs → DenL K w Hf (ds.take n) (vs.take n)
  | _, _, 0, _ => .nil
  | _, _, _ + 1, .nil => .nil
  | _, _, n + 1, .cons a b => .cons a (DenL.take n b)
theorem DenL.drop : ∀ {ds : List D} {vs : List V} (n : Nat), DenL K w Hf ds vs → DenL K w Hf (ds.drop n) (vs.drop n)
  | _, _, 0, h => h
  | _, _, _ + 1, .nil => .nil
  | _, _, n + 1, .cons a b => DenL.drop n b
theorem DenL.reverse : ∀ {ds : List D} {vs : List V}, DenL K w Hf ds vs → DenL K w Hf ds.reverse vs.reverse
  | _, _, .nil => .nil
  | _, _, .cons a b => by
    rw [List.reverse_cons, List.reverse_cons]
    exact (DenL.reverse b).append (.cons a .nil)
theorem DenL.set : ∀ {ds : List D} {vs : List V} {d : D} {v : V} (i : Nat), DenL K w Hf ds vs → Den K w Hf d v → DenL K w Hf (ds.set i d) (vs.set i v)
  | _, _, _, _, _, .nil, _ => .nil
  | _, _, _, _, 0, .cons _ b, h => .cons h b
  | _, _, _, _, i + 1, .cons a b, h => .cons a (DenL.set i b h)
theorem DenL.eraseIdx : ∀ {ds : List D} {vs : List V} (i : Nat), DenL K w Hf ds vs → DenL K w Hf (ds.eraseIdx i) (vs.eraseIdx i)
  | _, _, _, .nil => .nil
  | _, _, 0, .cons _ b => b
  | _, _, i + 1, .cons a b => .cons a (DenL.eraseIdx i b)

/-- a slot's content at a value -/
inductive RepW (K : PySem.W.Frag) (w : World) (Hf H : Hp) : W → V → Prop
  | d {x : D} {v : V} : Den K w Hf x v → RepW K w Hf H (.d x) v
  | lst {a : Addr} {ds : List D} {vs : List V} : H a = some (.lst vs) → Hf a = none → DenL K w Hf ds vs → RepW K w Hf H (.lst ds) (.ref a)
  | dct {a : Addr} {ks : List Str} {ds : List D} {kvs : List (Key × V)} : H a = some (.dK kvs) → Hf a = none → kvs.map (·.1) = ks.map Sum.inr → DenL K w Hf ds (kvs.map (·.2)) → RepW K w Hf H (.dct ks ds) (.ref a)

/-- the address that is owned -/
def ad : W → V → List Addr
  | .d _, _ => []
  | .lst _, .ref a => [a]
  | .dct _ _, .ref a => [a]
  | _, _ => []
abbrev WV := W × V
def adp (p : WV) : List Addr := ad p.1 p.2
def Owned (L : List WV) (a : Addr) : Prop := ∃ p ∈ L, a ∈ adp p
def Dj (p q : WV) : Prop := ∀ a, a ∈ adp p → a ∉ adp q
theorem Dj.symm {p q : WV} (h : Dj p q) : Dj q p := fun a h1 h2 => h a h2 h1
structure Fam (K : PySem.W.Frag) (w : World) (Hf H : Hp) (L : List WV) : Prop where
  rep : ∀ p ∈ L, RepW K w Hf H p.1 p.2
  dj : L.Pairwise Dj
theorem Fam.nil : Fam K w Hf H [] := ⟨(fun _ h => by cases h), List.Pairwise.nil⟩
theorem Fam.perm {L M : List WV} (f : Fam K w Hf H L) (p : L.Perm M) : Fam K w Hf H M :=
  ⟨fun q hq => f.rep q (p.mem_iff.mpr hq), (p.pairwise_iff (fun h => Dj.symm h)).mp f.dj⟩
theorem Fam.sub {L M : List WV} (f : Fam K w Hf H L) (s : M.Sublist L) : Fam K w Hf H M :=
  ⟨fun q hq => f.rep q (s.mem hq), f.dj.sublist s⟩
theorem Fam.cons_d {L : List WV} {x : D} {v : V} (f : Fam K w Hf H L) (h : Den K w Hf x v) : Fam K w Hf H ((.d x, v) :: L) := by
  refine ⟨fun q hq => ?_, List.pairwise_cons.mpr ⟨fun q _ a ha => ?_, f.dj⟩⟩
  · rcases List.mem_cons.mp hq with rfl | hq
    · exact .d h
    · exact f.rep q hq
  · simp [adp, ad] at ha
theorem Owned.perm {L M : List WV} (p : L.Perm M) {a : Addr} : Owned L a ↔ Owned M a :=
  ⟨fun ⟨q, h, e⟩ => ⟨q, p.mem_iff.mp h, e⟩, fun ⟨q, h, e⟩ => ⟨q, p.mem_iff.mpr h, e⟩⟩
theorem Owned.append {L M : List WV} {a : Addr} : Owned (L ++ M) a ↔ Owned L a ∨ Owned M a :=
  ⟨fun ⟨q, h, e⟩ => (List.mem_append.mp h).elim (fun h => .inl ⟨q, h, e⟩) fun h => .inr ⟨q, h, e⟩,
   fun h => h.elim (fun ⟨q, h, e⟩ => ⟨q, List.mem_append_left _ h, e⟩) fun ⟨q, h, e⟩ => ⟨q, List.mem_append_right _ h, e⟩⟩
theorem Owned.cons {p : WV} {M : List WV} {a : Addr} : Owned (p :: M) a ↔ a ∈ adp p ∨ Owned M a :=
  ⟨fun ⟨q, h, e⟩ => (List.mem_cons.mp h).elim (fun h => .inl (h ▸ e)) fun h => .inr ⟨q, h, e⟩,
   fun h => h.elim (fun e => ⟨p, List.mem_cons_self, e⟩) fun ⟨q, h, e⟩ => ⟨q, List.mem_cons_of_mem _ h, e⟩⟩
theorem Owned.nil {a : Addr} : ¬ Owned [] a := fun ⟨_, h, _⟩ => by cases h

/-- an owned address: tracked, not frozen -/
theorem RepW.own {x : W} {v : V} {a : Addr} (r : RepW K w Hf H x v) (h : a ∈ ad x v) : v = .ref a ∧ Hf a = none ∧ ∃ o, H a = some o := by
  cases r with
  | d _ => cases h
  | lst e n _ => simp [ad] at h; subst h; exact ⟨rfl, n, _, e⟩
  | dct e n _ _ => simp [ad] at h; subst h; exact ⟨rfl, n, _, e⟩
theorem Fam.own {L : List WV} {a : Addr} (f : Fam K w Hf H L) (h : Owned L a) : Hf a = none ∧ ∃ o, H a = some o := by
  obtain ⟨p, hp, ha⟩ := h
  exact ((f.rep p hp).own ha).2
theorem RepW.mono {x : W} {v : V} (r : RepW K w Hf H x v) (h : Same Hf Hg) (hh : ∀ a ∈ ad x v, ∀ o, H a = some o → H' a = some o) (hn : ∀ a ∈ ad x v, Hg a = none) : RepW K w Hg H' x v := by
  cases r with
  | d r => exact .d (r.mono h)
  | lst e n l => exact .lst (hh _ (by simp [ad]) _ e) (hn _ (by simp [ad])) (l.mono h)
  | dct e n k l => exact .dct (hh _ (by simp [ad]) _ e) (hn _ (by simp [ad])) k (l.mono h)

/-- from one state to a later one: L what was owned, M what is owned then -/
structure Step (Hf H : Hp) (L : List WV) (Hg H' : Hp) (M : List WV) : Prop where
  subf : Same Hf Hg
  sub : Same Hg H'
  keep : ∀ b o, H b = some o → ¬ Owned L b → H' b = some o
  newO : ∀ b, Owned M b → Owned L b ∨ H b = none
  newF : ∀ b o, Hg b = some o → Hf b = some o ∨ Owned L b ∨ H b = none
theorem Step.refl {L : List WV} (s : Same Hf H) : Step Hf H L Hf H L := ⟨Same.refl _, s, fun _ _ e _ => e, fun _ h => .inl h, fun _ _ h => .inl h⟩
theorem Step.there {Hf H Hg H' : Hp} {L M : List WV} (s : Step Hf H L Hg H' M) {b : Addr} (h : H' b = none) : Owned L b ∨ H b = none := by
  cases e : H b with
  | none => exact .inr rfl
  | some o =>
    by_cases q : Owned L b
    · exact .inl q
    · rw [s.keep b o e q] at h; cases h
/-- with things T beside, which the second part does not touch -/
theorem Step.trans {Hf H Hf1 H1 Hf2 H2 : Hp} {L T L1 M : List WV} (a : Step Hf H L Hf1 H1 (T ++ L1)) (b : Step Hf1 H1 L1 Hf2 H2 M) : Step Hf H L Hf2 H2 (T ++ M) where
  subf := a.subf.trans b.subf
  sub := b.sub
  keep := fun c o e n => b.keep c o (a.keep c o e n) fun q => by
    rcases a.newO c (Owned.append.mpr (.inr q)) with z | z
    · exact n z
    · rw [e] at z; cases z
  newO := fun c h => by
    rcases Owned.append.mp h with h | h
    · exact a.newO c (Owned.append.mpr (.inl h))
    · rcases b.newO c h with h | h
      · exact a.newO c (Owned.append.mpr (.inr h))
      · exact a.there h
  newF := fun c o h => by
    rcases b.newF c o h with h | h | h
    · exact a.newF c o h
    · rcases a.newO c (Owned.append.mpr (.inr h)) with z | z
      · exact .inr (.inl z)
      · exact .inr (.inr z)
    · exact .inr (a.there h)
theorem Step.tr {Hf H Hf1 H1 Hf2 H2 : Hp} {L L1 M : List WV} (a : Step Hf H L Hf1 H1 L1) (b : Step Hf1 H1 L1 Hf2 H2 M) : Step Hf H L Hf2 H2 M := Step.trans (T := []) a b
theorem Step.less {Hf H Hf1 H1 : Hp} {L M M' : List WV} (a : Step Hf H L Hf1 H1 M) (h : ∀ b, Owned M' b → Owned M b) : Step Hf H L Hf1 H1 M' := ⟨a.subf, a.sub, a.keep, fun b q => a.newO b (h b q), a.newF⟩
/-- what stood beside still stands -/
theorem Fam.carry {Hf1 H1 Hf2 H2 : Hp} {T L1 M : List WV} (f : Fam K w Hf1 H1 (T ++ L1)) (b : Step Hf1 H1 L1 Hf2 H2 M) (g : Fam K w Hf2 H2 M) : Fam K w Hf2 H2 (T ++ M) := by
  obtain ⟨p1, p2, p3⟩ := List.pairwise_append.mp f.dj
  have nT : ∀ a, Owned T a → ¬ Owned L1 a := fun a ⟨p, hp, ha⟩ ⟨q, hq, hb⟩ => p3 p hp q hq a ha hb
  have tT : ∀ a, Owned T a → Hf1 a = none ∧ ∃ o, H1 a = some o := fun a h => f.own (Owned.append.mpr (.inl h))
  refine ⟨fun p hp => ?_, List.pairwise_append.mpr ⟨p1, g.dj, fun p hp q hq a ha hb => ?_⟩⟩
  · rcases List.mem_append.mp hp with hp | hp
    · refine (f.rep p (List.mem_append_left _ hp)).mono b.subf (fun a ha o e => b.keep a o e (nT a ⟨p, hp, ha⟩)) fun a ha => ?_
      obtain ⟨z1, o, z2⟩ := tT a ⟨p, hp, ha⟩
      cases e : Hf2 a with
      | none => rfl
      | some o' =>
        rcases b.newF a o' e with q | q | q
        · rw [z1] at q; cases q
        · exact absurd q (nT a ⟨p, hp, ha⟩)
        · rw [z2] at q; cases q
    · exact g.rep p hp
  · obtain ⟨_, o, z2⟩ := tT a ⟨p, hp, ha⟩
    rcases b.newO a ⟨q, hq, hb⟩ with z | z
    · exact nT a ⟨p, hp, ha⟩ z
    · rw [z2] at z; cases z

/-- the slots -/
inductive Sl : Env → St → List WV → Prop
  | nil : Sl [] [] []
  | skip {env : Env} {σ : St} {L : List WV} {s : Option V} : Sl env σ L → Sl (none :: env) (s :: σ) L
  | cons {env : Env} {σ : St} {L : List WV} {x : W} {v : V} : Sl env σ L → Sl (some x :: env) (some v :: σ) ((x, v) :: L)
theorem Sl.length : ∀ {env : Env} {σ : St} {L : List WV}, Sl env σ L → env.length = σ.length
  | _, _, _, .nil => rfl
  | _, _, _, .skip h => by rw [List.length_cons, List.length_cons, Sl.length h]
  | _, _, _, .cons h => by rw [List.length_cons, List.length_cons, Sl.length h]
theorem slot_nil {i : Nat} : slot [] i = none := by cases i <;> rfl
theorem slot_zero {o : Option W} {env : Env} : slot (o :: env) 0 = o := rfl
theorem slot_succ {o : Option W} {env : Env} {i : Nat} : slot (o :: env) (i + 1) = slot env i := by unfold slot; simp
/-- a slot taken out -/
theorem Sl.out : ∀ {env : Env} {σ : St} {L : List WV} {i : Nat} {x : W}, Sl env σ L → slot env i = some x → ∃ v M, σ[i]? = some (some v) ∧ Sl (env.set i none) σ M ∧ L.Perm ((x, v) :: M)
  | _, _, _, i, x, .nil, e => by rw [slot_nil] at e; cases e
  | _, _, _, 0, x, .skip h, e => by rw [slot_zero] at e; cases e
  | _, _, _, 0, x, .cons h, e => by
    rw [slot_zero] at e; cases e
    exact ⟨_, _, rfl, .skip h, .refl _⟩
  | _, _, _, i + 1, x, .skip h, e => by
    rw [slot_succ] at e
    obtain ⟨v, M, e1, s, p⟩ := Sl.out h e
    exact ⟨v, M, by simpa using e1, .skip s, p⟩
  | _, _, _, i + 1, x, .cons (x := y) (v := u) h, e => by
    rw [slot_succ] at e
    obtain ⟨v, M, e1, s, p⟩ := Sl.out h e
    exact ⟨v, (y, u) :: M, by simpa using e1, .cons s, (p.cons _).trans (List.Perm.swap _ _ _)⟩
/-- a slot put in, where the value stands already -/
theorem Sl.into : ∀ {env : Env} {σ : St} {M : List WV} {i : Nat} {x : W} {v : V}, Sl (env.set i none) σ M → σ[i]? = some (some v) → ∃ L, Sl (env.set i (some x)) σ L ∧ L.Perm ((x, v) :: M)
  | [], σ, M, i, x, v, h, e => by
    cases h
    simp at e
  | o :: env, s :: σ, M, 0, x, v, h, e => by
    simp at e; subst e
    cases h with
    | skip h => exact ⟨_, .cons h, .refl _⟩
  | none :: env, s :: σ, M, i + 1, x, v, h, e => by
    cases h with
    | skip h =>
      obtain ⟨L, h1, p⟩ := Sl.into (x := x) h (by simpa using e)
      exact ⟨L, .skip h1, p⟩
  | some y :: env, s :: σ, M, i + 1, x, v, h, e => by
    cases h with
    | cons h =>
      obtain ⟨L, h1, p⟩ := Sl.into (x := x) h (by simpa using e)
      exact ⟨_, .cons h1, (p.cons _).trans (List.Perm.swap _ _ _)⟩
  | _ :: _, [], _, _, _, _, h, e => by simp at e
/-- a slot stored: the state's slot too -/
theorem Sl.put : ∀ {env : Env} {σ : St} {M : List WV} {i : Nat} {x : W} {v : V}, Sl (env.set i none) σ M → i < env.length → ∃ L, Sl (env.set i (some x)) (σ.set i (some v)) L ∧ L.Perm ((x, v) :: M)
  | [], σ, M, i, x, v, h, e => by simp at e
  | o :: env, s :: σ, M, 0, x, v, h, e => by
    cases h with
    | skip h => exact ⟨_, .cons h, .refl _⟩
  | none :: env, s :: σ, M, i + 1, x, v, h, e => by
    cases h with
    | skip h =>
      obtain ⟨L, h1, p⟩ := Sl.put (x := x) (v := v) h (by simpa using e)
      exact ⟨L, .skip h1, p⟩
  | some y :: env, s :: σ, M, i + 1, x, v, h, e => by
    cases h with
    | cons h =>
      obtain ⟨L, h1, p⟩ := Sl.put (x := x) (v := v) h (by simpa using e)
      exact ⟨_, .cons h1, (p.cons _).trans (List.Perm.swap _ _ _)⟩
  | o :: env, [], M, i, x, v, h, e => by
    have := h.length
    simp at this
/-- a slot forgotten -/
theorem Sl.drop : ∀ {env : Env} {σ : St} {L : List WV} (i : Nat), Sl env σ L → ∃ M, Sl (env.set i none) σ M ∧ M.Sublist L
  | _, _, _, _, .nil => ⟨[], .nil, List.Sublist.refl _⟩
  | _, _, _, 0, .skip h => ⟨_, .skip h, List.Sublist.refl _⟩
  | _, _, _, 0, .cons h => ⟨_, .skip h, List.sublist_cons_self _ _⟩
  | _, _, _, i + 1, .skip h => by
    obtain ⟨M, a, b⟩ := Sl.drop i h
    exact ⟨M, .skip a, b⟩
  | _, _, _, i + 1, .cons h => by
    obtain ⟨M, a, b⟩ := Sl.drop i h
    exact ⟨_, .cons a, b.cons_cons _⟩
/-- the state's slot of a forgotten one may be anything -/
theorem Sl.any : ∀ {env : Env} {σ : St} {L : List WV} (i : Nat) (s : Option V), Sl (env.set i none) σ L → Sl (env.set i none) (σ.set i s) L
  | [], σ, L, i, s, h => by cases h; exact .nil
  | o :: env, [], L, i, s, h => by
    have := h.length
    simp at this
  | o :: env, t :: σ, L, 0, s, h => by
    cases h with
    | skip h => exact .skip h
  | none :: env, t :: σ, L, i + 1, s, h => by
    cases h with
    | skip h => exact .skip (Sl.any i s h)
  | some x :: env, t :: σ, L, i + 1, s, h => by
    cases h with
    | cons h => exact .cons (Sl.any i s h)
end
end PyEv

set_option maxRecDepth 100000
set_option maxHeartbeats 2000000
/-! PyB2: the transformers of the evaluator. -/
namespace PyEv
open PySem L2

/-- how an exception of data lies: its class and its own dict -/
abbrev XI := Value → Option Addr → D → Hp → Hp → Prop

section
variable {K : PySem.W.Frag} {w : World} {Hf Hg H H' : Hp}

structure St0 (K : PySem.W.Frag) (w : World) (env : Env) (σ : St) (Hf H : Hp) (L : List WV) : Prop where
  sl : Sl env σ L
  fam : Fam K w Hf H L
  sub : Same Hf H

/-- how results stand: at a heap, the result, its value, what it still owns -/
abbrev RR (α β : Type) := St → Hp → α → β → List WV → Prop

/-- what is wanted of the rest of a run that began at (Hf, H, L) -/
def Fin {γ δ : Type} (K : PySem.W.Frag) (w : World) (xi : XI) (X : WX) (R : RR γ δ) (σ : St) (Hf H : Hp) (L : List WV) (res : Res γ) (Q : δ → Hp → Prop) : Prop := match res with
  | .ok c env => ∀ d T Hg H' L', R σ Hg c d T → Sl env σ L' → Step Hf H L Hg H' (T ++ L') → Fam K w Hg H' (T ++ L') → Q d H'
  | .exc x env => ∀ Hg H' L' cls dd, Sl env σ L' → Step Hf H L Hg H' L' → Fam K w Hg H' L' → xi cls dd x Hg H' → X cls dd σ H'
  | .bad => False

def tG {γ δ : Type} (K : PySem.W.Frag) (w : World) (xi : XI) (X : WX) (R : RR γ δ) (r : Env → Res γ) (σ : St) (H : Hp) (Q : δ → Hp → Prop) : Prop :=
  ∃ Hf env L, St0 K w env σ Hf H L ∧ Fin K w xi X R σ Hf H L (r env) Q

/-- one part of a run: base the run's begin, then the state with things T beside the slots -/
theorem bindG {α β γ δ : Type} {xi : XI} {X : WX} {R1 : RR α β} {R2 : RR γ δ} {r : Env → Res α} {f : α → Env → Res γ} {σ : St} {Hf H Hf1 H1 : Hp} {L T L1 : List WV} {env1 : Env} {Q : δ → Hp → Prop} {Q' : β → Hp → Prop}
    (st : Step Hf H L Hf1 H1 (T ++ L1)) (fam : Fam K w Hf1 H1 (T ++ L1)) (sl : Sl env1 σ L1) (fin : Fin K w xi X R2 σ Hf H L ((r env1).bind f) Q)
    (next : ∀ a env2 b T2 Hf2 H2 L2, R1 σ Hf2 a b T2 → Sl env2 σ L2 → Step Hf H L Hf2 H2 (T ++ (T2 ++ L2)) → Fam K w Hf2 H2 (T ++ (T2 ++ L2)) → Step Hf1 H1 L1 Hf2 H2 (T2 ++ L2) → Fin K w xi X R2 σ Hf H L (f a env2) Q → Q' b H2) :
    tG K w xi X R1 r σ H1 Q' := by
  have famL : Fam K w Hf1 H1 L1 := fam.sub (List.sublist_append_right _ _)
  refine ⟨Hf1, env1, L1, ⟨sl, famL, st.sub⟩, ?_⟩
  cases e : r env1 with
  | ok a env2 =>
    intro b T2 Hf2 H2 L2 hR hs hst hf
    rw [e] at fin
    exact next a env2 b T2 Hf2 H2 L2 hR hs (st.trans hst) (fam.carry hst hf) hst fin
  | exc x env2 =>
    intro Hf2 H2 L2 cls dd hs hst hf hx
    rw [e] at fin
    exact fin Hf2 H2 L2 cls dd hs ((st.trans hst).less fun b q => Owned.append.mpr (.inr q)) hf hx
  | bad =>
    rw [e] at fin
    exact fin
/-- the first part -/
theorem bindF {α β γ δ : Type} {xi : XI} {X : WX} {R1 : RR α β} {R2 : RR γ δ} {r : Env → Res α} {f : α → Env → Res γ} {σ : St} {H : Hp} {Q : δ → Hp → Prop} {Q' : β → Hp → Prop}
    (h : tG K w xi X R2 (fun env => (r env).bind f) σ H Q)
    (next : ∀ Hf L, ∀ a env2 b T2 Hf2 H2 L2, R1 σ Hf2 a b T2 → Sl env2 σ L2 → Step Hf H L Hf2 H2 (T2 ++ L2) → Fam K w Hf2 H2 (T2 ++ L2) → Fin K w xi X R2 σ Hf H L (f a env2) Q → Q' b H2) :
    tG K w xi X R1 r σ H Q' := by
  obtain ⟨Hf, env, L, s0, fin⟩ := h
  exact bindG (T := []) (Step.refl s0.sub) s0.fam s0.sl fin fun a env2 b T2 Hf2 H2 L2 h1 h2 h3 h4 _ h5 => next Hf L a env2 b T2 Hf2 H2 L2 h1 h2 h3 h4 h5

/-! ### the kinds of results -/
/-- an operand -/
inductive RAr : RR Ar V
  | vr {σ : St} {Hf : Hp} {i : Nat} {v : V} : σ[i]? = some (some v) → RAr σ Hf (.vr i) v []
  | val {σ : St} {Hf : Hp} {x : W} {v : V} : RAr σ Hf (.val x) v [(x, v)]
def RB : RR Bool Bool := fun _ _ a b T => a = b ∧ T = []
/-- data for good -/
def RD (K : PySem.W.Frag) (w : World) : RR D V := fun _ Hf d v T => Den K w Hf d v ∧ T = []
def RDs (K : PySem.W.Frag) (w : World) : RR (List D) (List V) := fun _ Hf ds vs T => DenL K w Hf ds vs ∧ T = []
inductive RArs : RR (List Ar) (List V)
  | nil {σ : St} {Hf : Hp} : RArs σ Hf [] [] []
  | cons {σ : St} {Hf Hg : Hp} {a : Ar} {v : V} {T : List WV} {as : List Ar} {vs : List V} {Ts : List WV} : RAr σ Hg a v T → RArs σ Hf as vs Ts → RArs σ Hf (a :: as) (v :: vs) (T ++ Ts)

/-! ### reading -/
inductive View (K : PySem.W.Frag) (w : World) (Hf H : Hp) : D → V → Prop
  | den {d : D} {v : V} : Den K w Hf d v → View K w Hf H d v
  | lst {a : Addr} {ds : List D} {vs : List V} : H a = some (.lst vs) → DenL K w Hf ds vs → View K w Hf H (.lst ds) (.ref a)
  | dct {a : Addr} {ks : List Str} {ds : List D} {kvs : List (Key × V)} : H a = some (.dK kvs) → kvs.map (·.1) = ks.map Sum.inr → DenL K w Hf ds (kvs.map (·.2)) → View K w Hf H (.dct ks ds) (.ref a)
theorem RepW.view {x : W} {v : V} (r : RepW K w Hf H x v) : View K w Hf H x.frz v := by
  cases r with
  | d r => exact .den r
  | lst e n l => exact .lst e l
  | dct e n k l => exact .dct e k l
theorem View.mono (r : View K w Hf H d v) (h : Same Hf Hg) (hh : Same H H') : View K w Hg H' d v := by
  cases r with
  | den r => exact .den (r.mono h)
  | lst e l => exact .lst (hh _ _ e) (l.mono h)
  | dct e k l => exact .dct (hh _ _ e) k (l.mono h)
/-- an operand at its use -/
theorem use_view {σ : St} {Hx : Hp} {a : Ar} {v : V} {T T' L : List WV} {env : Env} {d : D} (r : RAr σ Hx a v T) (ht : ∀ p ∈ T, p ∈ T') (sl : Sl env σ L) (fam : Fam K w Hf H (T' ++ L)) (e : use env a = some d) : View K w Hf H d v := by
  cases r with
  | @vr σ Hx i v hi =>
    have e : (slot env i).map W.frz = some d := e
    cases es : slot env i with
    | none => rw [es] at e; cases e
    | some x =>
      rw [es] at e
      have e' : x.frz = d := Option.some.inj e
      obtain ⟨u, M, h1, h2, p⟩ := sl.out es
      rw [hi] at h1; cases h1
      rw [← e']
      exact (fam.rep (x, v) (List.mem_append_right _ (p.mem_iff.mpr List.mem_cons_self))).view
  | @val σ Hx x v =>
    have e' : x.frz = d := Option.some.inj e
    rw [← e']
    exact (fam.rep (x, v) (List.mem_append_left _ (ht _ List.mem_cons_self))).view
theorem View.int {i : Int} {v : V} (h : View K w Hf H (.int i) v) : v = .int i := by
  cases h with
  | den h => cases h; rfl
theorem View.bl {i : Bool} {v : V} (h : View K w Hf H (.bl i) v) : v = .bl i := by
  cases h with
  | den h => cases h; rfl
theorem View.str {i : Str} {v : V} (h : View K w Hf H (.str i) v) : v = .str i := by
  cases h with
  | den h => cases h; rfl
theorem View.non {v : V} (h : View K w Hf H .non v) : v = .non := by
  cases h with
  | den h => cases h; rfl
theorem View.lst' {ds : List D} {v : V} (h : View K w Hf H (.lst ds) v) (s : Same Hf H) : ∃ a vs, v = .ref a ∧ H a = some (.lst vs) ∧ DenL K w Hf ds vs := by
  cases h with
  | den h =>
    cases h with
    | lst e l => exact ⟨_, _, rfl, s _ _ e, l⟩
  | lst e l => exact ⟨_, _, rfl, e, l⟩
theorem View.tup' {ds : List D} {v : V} (h : View K w Hf H (.tup ds) v) (s : Same Hf H) : ∃ a vs, v = .ref a ∧ SqT K H a vs ∧ DenL K w Hf ds vs := by
  cases h with
  | den h =>
    cases h with
    | tup e l => exact ⟨_, _, rfl, SqT.same s e, l⟩
theorem View.scr' {ns : List Int} {v : V} (h : View K w Hf H (.scr ns) v) (s : Same Hf H) : ∃ a, v = .ref a ∧ SqL K H a (ns.map V.int) := by
  cases h with
  | den h =>
    cases h with
    | scr e => exact ⟨_, rfl, s.seq e⟩
/-- what every value of data is by its kind -/
theorem View.seq {ds : List D} {v : V} (h : View K w Hf H (.lst ds) v ∨ View K w Hf H (.tup ds) v) (s : Same Hf H) : ∃ a vs, v = .ref a ∧ (SqL K H a vs ∨ SqT K H a vs) ∧ DenL K w Hf ds vs := by
  rcases h with h | h
  · obtain ⟨a, vs, e, q, l⟩ := h.lst' s
    exact ⟨a, vs, e, .inl (SqL.of q), l⟩
  · obtain ⟨a, vs, e, q, l⟩ := h.tup' s
    exact ⟨a, vs, e, .inr q, l⟩

/-! ### new things -/
theorem same_upd {p : Addr} {o : HO} (h : H p = none) : Same H (upd H p o) := fun b u q => by rw [upd_ne (ne_of_none q h)]; exact q
theorem same_upd2 {p : Addr} {o : HO} (s : Same Hf H) : Same (upd Hf p o) (upd H p o) := fun b u q => by
  by_cases e : b = p
  · subst e; rw [upd_same] at q ⊢; exact q
  · rw [upd_ne e] at q ⊢; exact s _ _ q
theorem none_of (s : Same Hf H) {p : Addr} (h : H p = none) : Hf p = none := by
  cases e : Hf p with
  | none => rfl
  | some o => rw [s _ _ e] at h; cases h
/-- a new thing that never changes -/
theorem new_frz {p : Addr} {o : HO} {L : List WV} (s : Same Hf H) (hp : H p = none) (f : Fam K w Hf H L) : Step Hf H L (upd Hf p o) (upd H p o) L ∧ Fam K w (upd Hf p o) (upd H p o) L := by
  have st : Step Hf H [] (upd Hf p o) (upd H p o) [] := ⟨same_upd (none_of s hp), same_upd2 s, fun b u e _ => same_upd hp b u e, fun b h => (Owned.nil h).elim, fun b u e => by
    by_cases q : b = p
    · subst q; exact .inr (.inr hp)
    · rw [upd_ne q] at e; exact .inl e⟩
  refine ⟨⟨st.subf, st.sub, fun b u e _ => st.keep b u e Owned.nil, fun b h => .inl h, fun b u e => ?_⟩, ?_⟩
  · rcases st.newF b u e with h | h | h
    · exact .inl h
    · exact (Owned.nil h).elim
    · exact .inr (.inr h)
  · have := Fam.carry (T := L) (L1 := []) (M := []) (by rw [List.append_nil]; exact f) st Fam.nil
    rw [List.append_nil] at this
    exact this
/-- a new list or dict that this frame owns -/
theorem new_own {p : Addr} {o : HO} {x : W} {L : List WV} (s : Same Hf H) (hp : H p = none) (f : Fam K w Hf H L) (r : RepW K w Hf (upd H p o) x (.ref p)) :
    Step Hf H L Hf (upd H p o) ((x, .ref p) :: L) ∧ Fam K w Hf (upd H p o) ((x, .ref p) :: L) := by
  have sm := same_upd (o := o) hp
  have hx : ∀ b, b ∈ ad x (.ref p) → b = p := fun b hb => by
    have := (r.own hb).1
    injection this with e
    exact e.symm
  refine ⟨⟨Same.refl _, s.trans sm, fun b u e _ => sm b u e, fun b h => ?_, fun b u e => .inl e⟩, ⟨fun q hq => ?_, List.pairwise_cons.mpr ⟨fun q hq a ha hb => ?_, f.dj⟩⟩⟩
  · rcases Owned.cons.mp h with h | h
    · rw [hx b h]; exact .inr hp
    · exact .inl h
  · rcases List.mem_cons.mp hq with rfl | hq
    · exact r
    · exact (f.rep q hq).mono (Same.refl _) (fun a _ o' e => sm a o' e) fun a ha => ((f.rep q hq).own ha).2.1
  · have e := hx a ha
    obtain ⟨_, _, o', e2⟩ := (f.rep q hq).own hb
    rw [e, hp] at e2; cases e2

/-- an own object written anew: it stays the same one -/
theorem write_own {a : Addr} {o : HO} {x y : W} {L : List WV} (s : Same Hf H) (f : Fam K w Hf H ((x, .ref a) :: L)) (ha : a ∈ ad x (.ref a)) (hy : ∀ b ∈ ad y (.ref a), b = a) (r : RepW K w Hf (upd H a o) y (.ref a)) :
    Step Hf H ((x, .ref a) :: L) Hf (upd H a o) ((y, .ref a) :: L) ∧ Fam K w Hf (upd H a o) ((y, .ref a) :: L) := by
  have own : Owned ((x, .ref a) :: L) a := Owned.cons.mpr (.inl ha)
  obtain ⟨n, _⟩ := f.own own
  obtain ⟨d1, d2⟩ := List.pairwise_cons.mp f.dj
  have nL : ∀ q ∈ L, a ∉ adp q := fun q hq => d1 q hq a ha
  refine ⟨⟨Same.refl _, fun b u e => ?_, fun b u e h => ?_, fun b h => ?_, fun b u e => .inl e⟩, ⟨fun q hq => ?_, List.pairwise_cons.mpr ⟨fun q hq b hb h2 => ?_, d2⟩⟩⟩
  · have : b ≠ a := fun z => by rw [z, n] at e; cases e
    rw [upd_ne this]; exact s _ _ e
  · have : b ≠ a := fun z => h (z ▸ own)
    rw [upd_ne this]; exact e
  · rcases Owned.cons.mp h with h | h
    · rw [hy b h]; exact .inl own
    · exact .inl (Owned.cons.mpr (.inr h))
  · rcases List.mem_cons.mp hq with rfl | hq
    · exact r
    · have fr := f.rep q (List.mem_cons_of_mem _ hq)
      exact fr.mono (Same.refl _) (fun b hb o' e => by
        have : b ≠ a := fun z => nL q hq (z ▸ hb)
        rw [upd_ne this]; exact e) fun b hb => (fr.own hb).2.1
  · rw [hy b hb] at h2
    exact nL q hq h2

/-- frozen: what was owned never changes any more -/
theorem freeze {x : W} {v : V} {L : List WV} (s : Same Hf H) (f : Fam K w Hf H ((x, v) :: L)) :
    ∃ Hg, Den K w Hg x.frz v ∧ Step Hf H ((x, v) :: L) Hg H L ∧ Fam K w Hg H L := by
  have r := f.rep (x, v) List.mem_cons_self
  obtain ⟨d1, d2⟩ := List.pairwise_cons.mp f.dj
  have go : ∀ (a : Addr) (o : HO), v = .ref a → a ∈ ad x v → H a = some o → Hf a = none → (∀ Hg, Same Hf Hg → Hg a = some o → Den K w Hg x.frz v) → ∃ Hg, Den K w Hg x.frz v ∧ Step Hf H ((x, v) :: L) Hg H L ∧ Fam K w Hg H L := by
    intro a o ev ha e n mk
    have sm : Same Hf (upd Hf a o) := same_upd n
    have su : Same (upd Hf a o) H := fun b u q => by
      by_cases z : b = a
      · subst z; rw [upd_same] at q; cases q; exact e
      · rw [upd_ne z] at q; exact s _ _ q
    refine ⟨upd Hf a o, mk _ sm upd_same, ⟨sm, su, fun b u e _ => e, fun b h => .inl (Owned.cons.mpr (.inr h)), fun b u q => ?_⟩, ⟨fun q hq => ?_, d2⟩⟩
    · by_cases z : b = a
      · subst z; exact .inr (.inl (Owned.cons.mpr (.inl ha)))
      · rw [upd_ne z] at q; exact .inl q
    · have fr := f.rep q (List.mem_cons_of_mem _ hq)
      refine fr.mono sm (fun _ _ _ e => e) fun b hb => ?_
      have : b ≠ a := fun z => d1 q hq a ha (z ▸ hb)
      rw [upd_ne this]; exact (fr.own hb).2.1
  cases r with
  | d r =>
    refine ⟨Hf, r, ⟨Same.refl _, s, fun b u e _ => e, fun b h => .inl (Owned.cons.mpr (.inr h)), fun b u e => .inl e⟩, f.sub (List.sublist_cons_self _ _)⟩
  | @lst a ds vs e n l => exact go a _ rfl (by simp [ad]) e n fun Hg sm eg => .lst eg (l.mono sm)
  | @dct a ks ds kvs e n k l => exact go a _ rfl (by simp [ad]) e n fun Hg sm eg => .dct eg k (l.mono sm)
end
end PyEv

set_option maxRecDepth 100000
set_option maxHeartbeats 2000000
/-! PyOk: the text against the small syntax. -/
namespace PyEv
open PySem L2

abbrev Nms := List (Str × NameKind)
structure Sc where
  N : List Str
  nm : Nms

def visB (nm : Nms) (x : Str) : Bool := match nm.lookup x with
  | some .local => true
  | some .cell => true
  | some .free => true
  | _ => false
def locB (nm : Nms) (x : Str) : Bool := match nm.lookup x with
  | some .local => true
  | some .cell => true
  | _ => false
def glB (nm : Nms) (x : Str) : Bool := match nm.lookup x with
  | some .globalImplicit => true
  | _ => false
def nameB (x : Str) : Bool := !(x == ("__debug__" : Str)) && !(x == ("__classdict__" : Str)) && !(x == ("__name__" : Str))

def boOk : Bo → Operator → Bool
  | .add, .Add => true
  | .sub, .Sub => true
  | .mul, .Mult => true
  | .fdv, .FloorDiv => true
  | .mod, .Mod => true
  | .pow, .Pow => true
  | _, _ => false
def coOk : Co → CmpOp → Bool
  | .eq, .Eq => true
  | .ne, .NotEq => true
  | .lt, .Lt => true
  | .le, .LtE => true
  | .gt, .Gt => true
  | .ge, .GtE => true
  | .isN, .Is => true
  | .notN, .IsNot => true
  | .isin, .In => true
  | .notin, .NotIn => true
  | _, _ => false
def biName : Bi → String
  | .len => "len"
  | .tuple => "tuple"
  | .list => "list"
  | .all => "all"
  | .any => "any"
  | .repr => "repr"
  | .abs => "abs"
  | .int => "int"
def tyName : Ty → String
  | .str => "str"
  | .int => "int"
  | .bool => "bool"
  | .tuple => "tuple"
  | .list => "list"
  | .dict => "dict"
def bmName : Bm → String
  | .join => "join"
  | .split => "split"
  | .startswith => "startswith"
  | .get1 => "get"
  | .get2 => "get"
def mmName : Mm → String
  | .append => "append"
  | .extend => "extend"
  | .popAt => "pop"

/-- no star -/
def plainX : Expr → Bool
  | .Starred .. => false
  | _ => true
def notSl : Expr → Bool
  | .Slice .. => false
  | _ => true
/-- no set display -/
def notSet : Expr → Bool
  | .Set .. => false
  | _ => true
def notSuper : Expr → Bool
  | .Call (.Name _ _) [] [] _ => false
  | _ => true
def isComp : Expr → Bool
  | .ListComp .. => true
  | .SetComp .. => true
  | .DictComp .. => true
  | _ => false

def tgOk (N : List Str) (nm : Nms) : Tg → Expr → Bool
  | .one i, .Name x _ => decide (N[i]? = some x) && locB nm x && nameB x
  | .two i j, .Tuple [.Name x _, .Name y _] _ _ => decide (N[i]? = some x) && locB nm x && nameB x && decide (N[j]? = some y) && locB nm y && nameB y
  | .three i j k, .Tuple [.Name x _, .Name y _, .Name z _] _ _ => decide (N[i]? = some x) && locB nm x && nameB x && decide (N[j]? = some y) && locB nm y && nameB y && decide (N[k]? = some z) && locB nm z && nameB z
  | _, _ => false
def tgTup : Tg → Bool
  | .one _ => false
  | _ => true

def keysOk : List Str → List (Option Expr) → Bool
  | [], [] => true
  | k :: ks, some (.Constant (.str s) _ _) :: es => decide (k = s) && keysOk ks es
  | _, _ => false

def Es.plain : Es → Bool
  | .nil => true
  | .cons _ es => es.plain
  | .star _ _ => false
mutual
def okE : E → (N : List Str) → (nm : Nms) → Expr → Bool
  | .var i, N, nm, .Name x _ => decide (N[i]? = some x) && visB nm x && nameB x
  | .k c, _, _, .Constant v _ _ => (match c, v with
    | .non, .none => true
    | .bl b, .bool b' => b == b'
    | .int i, .int j => decide (i = j)
    | .str s, .str t => decide (s = t)
    | _, _ => false)
  | .glob x, _, nm, .Name y _ => decide (x = y) && glB nm y && nameB y
  | .tup es, N, nm, .Tuple l _ _ => okIts es N nm l
  | .lst es, N, nm, .List l _ => okIts es N nm l
  | .dct ks es, N, nm, .Dict keys vals _ => keysOk ks keys && okIts es N nm vals && decide (keys.length = vals.length) && decide (ks.length ≤ 15) && decide ks.Nodup && es.plain
  | .bin o a b, N, nm, .BinOp l op r _ => boOk o op && okE a N nm l && okE b N nm r
  | .neg a, N, nm, .UnaryOp .USub x _ => okE a N nm x
  | .cmp o a b, N, nm, .Compare l [op] [r] _ => coOk o op && okE a N nm l && okE b N nm r && notSet r
  | .chain o1 o2 a b c, N, nm, .Compare l [p, q] [r, t] _ => coOk o1 p && coOk o2 q && okE a N nm l && okE b N nm r && okE c N nm t && notSet t
  | .and a b, N, nm, .BoolOp .And (v :: w :: rest) pos => okE a N nm v && okE b N nm (match rest with | [] => w | _ => .BoolOp .And (w :: rest) pos)
  | .or a b, N, nm, .BoolOp .Or (v :: w :: rest) pos => okE a N nm v && okE b N nm (match rest with | [] => w | _ => .BoolOp .Or (w :: rest) pos)
  | .not a, N, nm, .UnaryOp .Not x _ => okE a N nm x
  | .ifx c a b, N, nm, .IfExp t x y _ => okE c N nm t && okE a N nm x && okE b N nm y
  | .call f es, N, nm, .Call (.Name x _) (a :: as) [] _ => decide (f = x) && glB nm x && nameB x && okAs es N nm (a :: as)
  | .bi f a, N, nm, .Call (.Name x _) [v] [] _ => decide (Str.ofString (biName f) = x) && glB nm x && okE a N nm v
  | .mm mx a b, N, nm, .Call (.Name x _) [v, u] [] _ => decide (Str.ofString (if mx = true then "max" else "min") = x) && glB nm x && okE a N nm v && okE b N nm u
  | .isi a t, N, nm, .Call (.Name x _) [v, .Name y _] [] _ => decide (Str.ofString "isinstance" = x) && glB nm x && okE a N nm v && decide (Str.ofString (tyName t) = y) && glB nm y
  | .ix a i, N, nm, .Subscript v s _ => okE a N nm v && okE i N nm s && notSl s
  | .slc a lo hi, N, nm, .Subscript v (.Slice l h none _) _ => okE a N nm v && (match l with | none => lo.isNone | some x => !lo.isNone && okE lo N nm x) && (match h with | none => hi.isNone | some x => !hi.isNone && okE hi N nm x)
  | .rev a, N, nm, .Subscript v (.Slice none none (some (.UnaryOp .USub (.Constant (.int i) _ _) _)) _) _ => decide (i = 1) && okE a N nm v
  | .bm m o es, N, nm, .Call (.Attribute v x apos) (a :: as) [] pos => false && decide (Str.ofString (bmName m) = x) && okE o N nm v && okAs es N nm (a :: as) && notSuper v && decide (apos.endLine = pos.line) && decide ((a :: as).length < 20)
  | .mut m i es, N, nm, .Call (.Attribute (.Name y _) x apos) (a :: as) [] pos => decide (Str.ofString (mmName m) = x) && decide (N[i]? = some y) && visB nm y && nameB y && okIts es N nm (a :: as) && decide (apos.endLine = pos.line) && decide ((a :: as).length < 20) && (a :: as).all plainX
  | .lc elt tg it cond own, N, nm, .ListComp e [⟨t, iter, ifs, ia⟩] scope pos => decide (ia = 0) && blkC N { scope with names := nm } scope own && okE elt N scope.names e && tgOk N scope.names tg t && okIt it N nm iter && notSet iter &&
      (own.all fun p => decide (p.2 < N.length)) && (match ifs with | [] => cond.isNone | [c] => !cond.isNone && okE cond N scope.names c | _ => false) && (match it with | .zip .. => tgTup tg | .enum .. => tgTup tg | _ => true)
  | .listRange a, N, nm, .Call (.Name x _) [.Call (.Name y _) [v] [] _] [] _ => decide (Str.ofString "list" = x) && glB nm x && decide (Str.ofString "range" = y) && glB nm y && okE a N nm v
  | _, _, _, _ => false
def okIts : Es → (N : List Str) → (nm : Nms) → List Expr → Bool
  | .nil, _, _, [] => true
  | .cons e es, N, nm, x :: xs => okE e N nm x && okIts es N nm xs
  | .star e es, N, nm, .Starred x _ :: xs => okE e N nm x && okIts es N nm xs
  | _, _, _, _ => false
def okAs : Es → (N : List Str) → (nm : Nms) → List Expr → Bool
  | .nil, _, _, [] => true
  | .cons e es, N, nm, x :: xs => okE e N nm x && okAs es N nm xs
  | _, _, _, _ => false
def okIt : It → (N : List Str) → (nm : Nms) → Expr → Bool
  | .seq e, N, nm, x => okE e N nm x
  | .range1 a, N, nm, .Call (.Name y _) [v] [] _ => decide (Str.ofString "range" = y) && glB nm y && okE a N nm v
  | .range2 a b, N, nm, .Call (.Name y _) [v, u] [] _ => decide (Str.ofString "range" = y) && glB nm y && okE a N nm v && okE b N nm u
  | .zip a b, N, nm, .Call (.Name y _) [v, u] [] _ => decide (Str.ofString "zip" = y) && glB nm y && okE a N nm v && okE b N nm u
  | .enum a, N, nm, .Call (.Name y _) [v] [] _ => decide (Str.ofString "enumerate" = y) && glB nm y && okE a N nm v
  | _, _, _, _ => false
end

theorem okE_plain : ∀ {e : E} {N : List Str} {nm : Nms} {x : Expr}, okE e N nm x = true → plainX x = true := by
  intro e N nm x h
  cases x <;> first | rfl | (cases e <;> simp [okE] at h)
theorem starEach_plain {x : Expr} {xs : List Expr} {env : PySem.Env} (h : plainX x = true) : starEach (x :: xs) env = (false, eval x env) :: starEach xs env := by
  cases x <;> first | rfl | cases h
/-- a test of this form asks its truth -/
def plainTest : Expr → Bool
  | .UnaryOp .Not _ _ => false
  | .BoolOp .. => false
  | .IfExp .. => false
  | .Compare .. => false
  | _ => true
theorem isTrue_plainX {x : Expr} {env : PySem.Env} (h : plainTest x = true) (whole : Sem Value) : isTrue x env whole = (do let v ← whole; standAt x.pos; holding [v] (truthy v)) := by
  cases x with
  | UnaryOp op a p => cases op <;> first | rfl | cases h
  | BoolOp => cases h
  | IfExp => cases h
  | Compare => cases h
  | _ => rfl
theorem nomark_of {x : Expr} (h : notSet x = true) (op : CmpOp) : behindInMarks op x = false := by
  cases x <;> first | rfl | cases h

end PyEv

set_option maxRecDepth 100000
set_option maxHeartbeats 2000000
/-! PyB3: what a sound expression is; names, constants, operators, tests. -/
namespace PyEv
open PySem L2

/-! ### the context -/
structure NmOk (X : Cx) (nm : Nms) : Prop where
  vis : ∀ x, visB nm x = true → Vis X.env.scope x
  gl : ∀ x, glB nm x = true → Gl X x
  loc : ∀ x, locB nm x = true → Loc X.env.scope x ∧ (X.fn x = true ∨ X.env.scope.names.lookup x = some .local)
  cf : ∀ x, nm.lookup x = some .cell ∨ nm.lookup x = some .free → X.env.scope.names.lookup x = some .cell ∨ X.env.scope.names.lookup x = some .free

def bltNames : List String := ["len", "tuple", "list", "all", "any", "repr", "abs", "int", "str", "bool", "dict", "max", "min", "isinstance", "range", "zip", "enumerate"]
structure CxOk (X : Cx) (lv : Nat) : Prop where
  calm : X.calm = true
  room : Room lv X.A
  guards : X.A.guards = some []
  nd : X.N.Nodup
  blt : ∀ b ∈ bltNames, X.mg (Str.ofString b) = none

/-- a sound expression -/
structure Snd (X : Cx) (xi : XI) (W : WX) (x : Expr) (r : Env → Res Ar) : Prop where
  pe : PE X x (tG X.K X.w xi W RAr r)
  pt : PT X x (tG X.K X.w xi W RB (fun env => useB (r env)))

theorem impE {X : Cx} {e : Expr} {t t' : TE} (h : PE X e t) (f : ∀ σ H Q, t' σ H Q → t σ H Q) : PE X e t' := ⟨fun pins s σ H Q I q => h.run pins s σ H Q I (f σ H Q q)⟩
theorem impT {X : Cx} {e : Expr} {t t' : TT} (h : PT X e t) (f : ∀ σ H Q, t' σ H Q → t σ H Q) : PT X e t' := ⟨fun pins s σ H Q I q => h.run pins s σ H Q I (f σ H Q q)⟩
theorem impA {X : Cx} {e : List Expr} {t t' : TA} (h : PA X e t) (f : ∀ σ H Q, t' σ H Q → t σ H Q) : PA X e t' := ⟨fun pos pins s σ H Q I q => h.run pos pins s σ H Q I (f σ H Q q)⟩

section
variable {X : Cx} {xi : XI} {W : WX}

/-- a bool that an expression gives -/
theorem useB_fin {γ δ : Type} {K : PySem.W.Frag} {w : World} {R2 : RR γ δ} {f : Bool → Env → Res γ} {σ : St} {Hf H Hf1 H1 : Hp} {L T L1 : List WV} {a : Ar} {env1 : Env} {v : V} {Hx : Hp} {Q : δ → Hp → Prop}
    (r : RAr σ Hx a v T) (sl : Sl env1 σ L1) (fam : Fam K w Hf1 H1 (T ++ L1))
    (fin : Fin K w xi W R2 σ Hf H L ((match use env1 a with | some (.bl b) => (Res.ok b env1 : Res Bool) | _ => .bad).bind f) Q) : ∃ b, use env1 a = some (.bl b) ∧ v = .bl b ∧ Fin K w xi W R2 σ Hf H L (f b env1) Q := by
  cases e : use env1 a with
  | none => rw [e] at fin; exact fin.elim
  | some d =>
    cases d with
    | bl b =>
      rw [e] at fin
      exact ⟨b, rfl, (use_view r (fun _ h => h) sl fam e).bl, fin⟩
    | _ => rw [e] at fin; exact fin.elim

theorem Snd.of_pe {pe : Expr} {r : Env → Res Ar} (ht : plainTest pe = true) (h : PE X pe (tG X.K X.w xi W RAr r)) : Snd X xi W pe r := by
  refine ⟨h, impT (pt_val h (fun whole => isTrue_plainX ht whole)) fun σ H Q q => ?_⟩
  refine bindF (R1 := RAr) (R2 := RB) (r := r) q fun Hf L a env2 b T2 Hf2 H2 L2 h1 h2 h3 h4 fin => ?_
  have fin' : Fin X.K X.w xi W RB σ Hf H L ((match use env2 a with | some (.bl b) => (Res.ok b env2 : Res Bool) | _ => .bad).bind fun b env => .ok b env) Q := by
    cases e : use env2 a with
    | none => rw [e] at fin; exact fin.elim
    | some d => cases d <;> (rw [e] at fin; exact fin)
  obtain ⟨k, e1, e2, fin⟩ := useB_fin h1 h2 h4 fin'
  exact ⟨k, e2, fin k [] Hf2 H2 L2 ⟨rfl, rfl⟩ h2 (h3.less fun b q => Owned.append.mpr (.inr q)) (h4.sub (List.sublist_append_right _ _))⟩

/-- a value of data: nothing new stands -/
theorem fin_d {σ : St} {Hf H Hf1 H1 : Hp} {L M L1 : List WV} {env1 : Env} {Q : VK} {d : D} {v : V} (fin : Fin X.K X.w xi W RAr σ Hf H L (.ok (.val (.d d)) env1) Q) (sl : Sl env1 σ L1) (st : Step Hf H L Hf1 H1 (M ++ L1))
    (fam : Fam X.K X.w Hf1 H1 (M ++ L1)) (dn : Den X.K X.w Hf1 d v) : Q v H1 :=
  fin v [(.d d, v)] Hf1 H1 L1 .val sl (st.less fun b q => by
    rcases Owned.cons.mp q with q | q
    · cases q
    · exact Owned.append.mpr (.inr q)) ((fam.sub (List.sublist_append_right _ _)).cons_d dn)
/-- .. a new tuple -/
theorem fin_tup {σ : St} {Hf H Hf1 H1 : Hp} {L M L1 : List WV} {env1 : Env} {Q : VK} {ds : List D} {vs : List V} {p : Addr} (fin : Fin X.K X.w xi W RAr σ Hf H L (.ok (.val (.d (.tup ds))) env1) Q) (sl : Sl env1 σ L1) (st : Step Hf H L Hf1 H1 (M ++ L1))
    (fam : Fam X.K X.w Hf1 H1 (M ++ L1)) (dn : DenL X.K X.w Hf1 ds vs) (hp : H1 p = none) : Q (.ref p) (upd H1 p (.tup vs)) := by
  have f1 := fam.sub (List.sublist_append_right M L1)
  have s1 : Step Hf H L Hf1 H1 L1 := st.less fun b q => Owned.append.mpr (.inr q)
  obtain ⟨a, b⟩ := new_frz (o := .tup vs) s1.sub hp f1
  exact fin_d (M := []) (Hf1 := upd Hf1 p (.tup vs)) (d := .tup ds) fin sl (s1.tr a) b (.tup (SqT.of upd_same) (dn.mono a.subf))
/-- .. a new list of this frame's own -/
theorem fin_lst {σ : St} {Hf H Hf1 H1 : Hp} {L M L1 : List WV} {env1 : Env} {Q : VK} {ds : List D} {vs : List V} {p : Addr} (fin : Fin X.K X.w xi W RAr σ Hf H L (.ok (.val (.lst ds)) env1) Q) (sl : Sl env1 σ L1) (st : Step Hf H L Hf1 H1 (M ++ L1))
    (fam : Fam X.K X.w Hf1 H1 (M ++ L1)) (dn : DenL X.K X.w Hf1 ds vs) (hp : H1 p = none) : Q (.ref p) (upd H1 p (.lst vs)) := by
  have f1 := fam.sub (List.sublist_append_right M L1)
  have s1 : Step Hf H L Hf1 H1 L1 := st.less fun b q => Owned.append.mpr (.inr q)
  obtain ⟨a, b⟩ := new_own (o := .lst vs) (x := .lst ds) s1.sub hp f1 (.lst upd_same (none_of s1.sub hp) dn)
  exact fin (.ref p) [(.lst ds, .ref p)] Hf1 (upd H1 p (.lst vs)) L1 .val sl (s1.tr a) b

/-! ### names, constants -/
theorem nameB_of {x : Str} (h : nameB x = true) : (x == ("__debug__" : Str)) = false ∧ (x == ("__classdict__" : Str)) = false ∧ x ≠ "__name__" := by
  unfold nameB at h
  simp only [Bool.and_eq_true, Bool.not_eq_true'] at h
  exact ⟨h.1.1, h.1.2, fun e => by have := h.2; rw [e] at this; simp at this⟩
theorem snd_var {N : List Str} {nm : Nms} {i : Nat} {x : Str} {pos : Pos} (hN : X.N = N) (n : NmOk X nm) (h : (decide (N[i]? = some x) && visB nm x && nameB x) = true) :
    Snd X xi W (.Name x pos) (fun env => match slot env i with | some _ => .ok (.vr i) env | none => .bad) ∧ PE X (.Name x pos) (tVar i) := by
  simp only [Bool.and_eq_true, decide_eq_true_eq] at h
  obtain ⟨⟨h1, h2⟩, h3⟩ := h
  obtain ⟨n1, n2, _⟩ := nameB_of h3
  have p : PE X (.Name x pos) (tVar i) := pe_var (by rw [hN]; exact h1) (n.vis x h2) n1 n2
  refine ⟨Snd.of_pe rfl (impE p fun σ H Q q => ?_), p⟩
  obtain ⟨Hf, env, L, s0, fin⟩ := q
  cases e : slot env i with
  | none => simp only [e] at fin; exact fin.elim
  | some y =>
    simp only [e] at fin
    obtain ⟨v, M, h1, _, _⟩ := s0.sl.out e
    exact ⟨v, h1, fin v [] Hf H L (.vr h1) s0.sl (Step.refl s0.sub) s0.fam⟩
theorem snd_k {c : C} {v : Const} {j : Nat} {pos : Pos} (h : (match c, v with
    | .non, .none => true
    | .bl b, .bool b' => b == b'
    | .int i, .int j => decide (i = j)
    | .str s, .str t => decide (s = t)
    | _, _ => false) = true) : Snd X xi W (.Constant v j pos) (fun env => .ok (.val (.d c.d)) env) := by
  refine Snd.of_pe rfl ?_
  have go : ∀ (u : V), PE X (.Constant v j pos) (tC u) → (∀ Hf, Den X.K X.w Hf c.d u) → PE X (.Constant v j pos) (tG X.K X.w xi W RAr (fun env => .ok (.val (.d c.d)) env)) := fun u p dn => impE p fun σ H Q q => by
    obtain ⟨Hf, env, L, s0, fin⟩ := q
    exact fin_d (M := []) fin s0.sl (Step.refl s0.sub) s0.fam (dn Hf)
  cases c <;> cases v <;> first | cases h | skip
  · exact go _ pe_non fun _ => .non
  · have e := beq_iff_eq.mp h; subst e; exact go _ pe_bl fun _ => .bl _
  · have e := of_decide_eq_true h; subst e; exact go _ pe_int fun _ => .int _
  · have e := of_decide_eq_true h; subst e; exact go _ pe_str fun _ => .str _

/-! ### the module's constants -/
structure ConstOk (X : Cx) (x : Str) (d : D) : Prop where
  ex : ∃ u v, X.mg x = some u ∧ RelV v u ∧ ∀ Hf, Den X.K X.w Hf d v
theorem snd_glob {P : Prog} {nm : Nms} {x y : Str} {pos : Pos} (n : NmOk X nm) (hc : ∀ x d, P.consts.lookup x = some d → ConstOk X x d) (h : (decide (x = y) && glB nm y && nameB y) = true) :
    Snd X xi W (.Name y pos) (fun env => Res.of ((P.consts.lookup x).map fun d => .val (.d d)) env) := by
  simp only [Bool.and_eq_true, decide_eq_true_eq] at h
  obtain ⟨⟨rfl, h2⟩, h3⟩ := h
  obtain ⟨n1, n2, _⟩ := nameB_of h3
  refine Snd.of_pe rfl ?_
  cases e : P.consts.lookup x with
  | none => exact ⟨fun pins s σ H Q I q => by obtain ⟨Hf, env, L, s0, fin⟩ := q; exact fin.elim⟩
  | some d =>
    obtain ⟨u, v, hm, r, dn⟩ := (hc x d e).ex
    refine impE (pe_glob (n.gl x h2) hm r n1) fun σ H Q q => ?_
    obtain ⟨Hf, env, L, s0, fin⟩ := q
    exact fin_d (M := []) fin s0.sl (Step.refl s0.sub) s0.fam (dn Hf)

/-! ### operators of two operands -/
/-- both operands, then what an operator asks -/
theorem two {ra rb : Env → Res Ar} {f : Ar → Ar → Env → Res Ar} {r : R2} {σ : St} {H : Hp} {Q : VK}
    (h : tG X.K X.w xi W RAr (fun env => (ra env).bind fun x env => (rb env).bind fun y env => f x y env) σ H Q)
    (op : ∀ Hf L x y env vx vy T Hf2 H2 L2, Sl env σ L2 → Step Hf H L Hf2 H2 (T ++ L2) → Fam X.K X.w Hf2 H2 (T ++ L2) →
      (∀ d, use env x = some d → View X.K X.w Hf2 H2 d vx) → (∀ d, use env y = some d → View X.K X.w Hf2 H2 d vy) → Fin X.K X.w xi W RAr σ Hf H L (f x y env) Q → r vx vy H2 Q) :
    tOp r (tG X.K X.w xi W RAr ra) (tG X.K X.w xi W RAr rb) σ H Q := by
  refine bindF (R1 := RAr) (R2 := RAr) h fun Hf L x env1 vx T1 Hf1 H1 L1 r1 sl1 st1 fam1 fin => ?_
  refine bindG (R1 := RAr) (R2 := RAr) (T := T1) st1 fam1 sl1 fin fun y env2 vy T2 Hf2 H2 L2 r2 sl2 st2 fam2 _ fin2 => ?_
  have e : T1 ++ (T2 ++ L2) = (T1 ++ T2) ++ L2 := (List.append_assoc _ _ _).symm
  rw [e] at st2 fam2
  exact op Hf L x y env2 vx vy (T1 ++ T2) Hf2 H2 L2 sl2 st2 fam2 (fun d e => use_view r1 (fun p h => List.mem_append_left _ h) sl2 fam2 e) (fun d e => use_view r2 (fun p h => List.mem_append_right _ h) sl2 fam2 e) fin2
end
end PyEv

set_option maxRecDepth 100000
set_option maxHeartbeats 2000000
/-! PyB4: operators of two operands, comparisons. -/
namespace PyEv
open PySem L2

section
variable {K : PySem.W.Frag} {w : World} {Hf Hg H H' : Hp}
mutual
theorem Den.dp (s : Same Hf H) : ∀ {d : D} {v : V} {p : PyData}, Den K w Hf d v → d.py = some p → Dp K H v p
  | _, _, _, .non, e => by cases e; exact .non
  | _, _, _, .bl b, e => by cases e; exact .bl b
  | _, _, _, .int i, e => by cases e; exact .int i
  | _, _, _, .str x, e => by cases e; exact .str x
  | .tup ds, _, p, .tup q l, e => by
    have e' : (D.pyL ds).map PyData.tuple = some p := e
    cases h : D.pyL ds with
    | none => rw [h] at e'; cases e'
    | some ps => rw [h] at e'; cases e'; exact .tup (SqT.same s q) (DenL.dp s l h)
  | .lst ds, _, p, .lst q l, e => by
    have e' : (D.pyL ds).map PyData.list = some p := e
    cases h : D.pyL ds with
    | none => rw [h] at e'; cases e'
    | some ps => rw [h] at e'; cases e'; exact .lst (SqL.of (s _ _ q)) (DenL.dp s l h)
  | _, _, _, .dct .., e => by cases e
  | _, _, _, .kdct .., e => by cases e
  | _, _, _, .scr .., e => by cases e
theorem DenL.dp (s : Same Hf H) : ∀ {ds : List D} {vs : List V} {ps : List PyData}, DenL K w Hf ds vs → D.pyL ds = some ps → DpAll K H vs ps
  | _, _, _, .nil, e => by cases e; exact .nil
  | d :: ds, v :: vs, ps, .cons a b, e => by
    have e' : (match D.py d, D.pyL ds with | some a, some b => some (a :: b) | _, _ => none) = some ps := e
    cases h1 : D.py d with
    | none => rw [h1] at e'; cases e'
    | some p =>
      cases h2 : D.pyL ds with
      | none => rw [h1, h2] at e'; cases e'
      | some qs => rw [h1, h2] at e'; cases e'; exact .cons (Den.dp s a h1) (DenL.dp s b h2)
end
theorem View.dp {d : D} {v : V} {p : PyData} (h : View K w Hf H d v) (s : Same Hf H) (e : d.py = some p) : Dp K H v p := by
  cases h with
  | den h => exact h.dp s e
  | @lst a ds vs q l =>
    have e' : (D.pyL ds).map PyData.list = some p := e
    cases h : D.pyL ds with
    | none => rw [h] at e'; cases e'
    | some ps => rw [h] at e'; cases e'; exact .lst (SqL.of q) (l.dp s h)
  | dct => cases e
end

theorem line_eq : line = sizeLine := rfl

section
variable {X : Cx} {xi : XI} {W : WX} {lv : Nat}

theorem op_powW : OpR X (binaryOp .Pow) (rI (fun i j => 0 ≤ j ∧ (PySem.Builtin.Int.intBits i : Int) * j ≤ 2 ^ 27) fun i j => .int (i ^ j.toNat)) :=
  opI fun _ _ _ _ _ _ _ hc q => PyProof.Rows.pow_int hc.1 hc.2 q
/-- the reading of an operator, whatever its operands are -/
def rBo (K : PySem.W.Frag) : Bo → R2
  | .add => fun x y H Q => ((rI0 (fun i j => .int (i + j)) x y H Q ∨ (∃ i j, x = .str i ∧ y = .str j ∧ i.length + j.length ≤ sizeLine ∧ Q (.str (i ++ j)) H)) ∨ rCat x y H Q) ∨ rCatA K x y H Q
  | .sub => rI0 fun i j => .int (i - j)
  | .mul => rI CMulW fun i j => .int (i * j)
  | .fdv => rI CDivW fun i j => .int (i / j)
  | .mod => rI (fun _ j => 0 < j) fun i j => .int (i % j)
  | .pow => rI (fun i j => 0 ≤ j ∧ (PySem.Builtin.Int.intBits i : Int) * j ≤ 2 ^ 27) fun i j => .int (i ^ j.toNat)
theorem op_bo (o : Bo) (op : Operator) (h : boOk o op = true) : OpR X (binaryOp op) (rBo X.K o) := by
  cases o <;> cases op <;> first
    | exact absurd h (by decide)
    | exact ((op_add.or op_add_str).or op_cat).or op_catA
    | exact op_sub
    | exact op_mulW
    | exact op_fdivW
    | exact op_mod
    | exact op_powW

theorem bo_fin {o : Bo} {σ : St} {Hf H Hf1 H1 : Hp} {L M L1 : List WV} {env1 : Env} {Q : VK} {dx dy : D} {vx vy : V}
    (sl : Sl env1 σ L1) (st : Step Hf H L Hf1 H1 (M ++ L1)) (fam : Fam X.K X.w Hf1 H1 (M ++ L1)) (vwx : View X.K X.w Hf1 H1 dx vx) (vwy : View X.K X.w Hf1 H1 dy vy)
    (fin : Fin X.K X.w xi W RAr σ Hf H L (Res.of ((binF o dx dy).map .val) env1) Q) : rBo X.K o vx vy H1 Q := by
  have int : ∀ {i : Int}, Fin X.K X.w xi W RAr σ Hf H L (.ok (.val (.d (.int i))) env1) Q → Q (.int i) H1 := fun f => fin_d f sl st fam (.int _)
  cases o with
  | add =>
    cases dx <;> cases dy <;> first | exact fin.elim | skip
    · exact .inl (.inl (.inl ⟨_, _, vwx.int, vwy.int, int fin⟩))
    · rename_i a b
      by_cases hz : a.length + b.length ≤ line
      · rw [show binF .add (.str a) (.str b) = some (.d (.str (a ++ b))) from if_pos hz] at fin
        exact .inl (.inl (.inr ⟨a, b, vwx.str, vwy.str, hz, fin_d fin sl st fam (.str _)⟩))
      · rw [show binF .add (.str a) (.str b) = none from if_neg hz] at fin
        exact fin.elim
    · rename_i a b
      by_cases hz : a.length + b.length ≤ line
      · rw [show binF .add (.tup a) (.tup b) = some (.d (.tup (a ++ b))) from if_pos hz] at fin
        obtain ⟨p, xs, rfl, hp, lx⟩ := vwx.tup' st.sub
        obtain ⟨q, ys, rfl, hq, ly⟩ := vwy.tup' st.sub
        have nx : xs = [] → a = [] := fun e => by subst e; cases lx; rfl
        have ny : ys = [] → b = [] := fun e => by subst e; cases ly; rfl
        refine .inr ⟨p, q, xs, ys, rfl, rfl, hp, hq, by rw [← lx.length, ← ly.length]; exact hz, fun e => ?_, fun _ e => ?_, fun _ _ r hr => fin_tup fin sl st fam (lx.append ly) hr⟩
        · obtain rfl := nx e
          cases vwy with
          | den dn => exact fin_d fin sl st fam dn
        · obtain rfl := ny e
          rw [List.append_nil] at fin
          cases vwx with
          | den dn => exact fin_d fin sl st fam dn
      · rw [show binF .add (.tup a) (.tup b) = none from if_neg hz] at fin
        exact fin.elim
    · rename_i a b
      by_cases hz : a.length + b.length ≤ line
      · rw [show binF .add (.lst a) (.lst b) = some (.lst (a ++ b)) from if_pos hz] at fin
        obtain ⟨p, xs, rfl, hp, lx⟩ := vwx.lst' st.sub
        obtain ⟨q, ys, rfl, hq, ly⟩ := vwy.lst' st.sub
        exact .inl (.inr ⟨p, q, xs, ys, rfl, rfl, hp, hq, by rw [← lx.length, ← ly.length]; exact hz, fun r hr => fin_lst fin sl st fam (lx.append ly) hr⟩)
      · rw [show binF .add (.lst a) (.lst b) = none from if_neg hz] at fin
        exact fin.elim
  | sub => cases dx <;> cases dy <;> first | exact fin.elim | exact ⟨_, _, vwx.int, vwy.int, int fin⟩
  | mul =>
    cases dx <;> cases dy <;> first | exact fin.elim | skip
    rename_i a b
    by_cases hz : a.natAbs.log2 + b.natAbs.log2 < 1000000
    · rw [show binF .mul (.int a) (.int b) = some (.d (.int (a * b))) from if_pos hz] at fin
      exact ⟨_, _, vwx.int, vwy.int, hz, int fin⟩
    · rw [show binF .mul (.int a) (.int b) = none from if_neg hz] at fin
      exact fin.elim
  | fdv =>
    cases dx <;> cases dy <;> first | exact fin.elim | skip
    rename_i a b
    by_cases hz : 0 < b ∧ b.natAbs.log2 < 9000
    · rw [show binF .fdv (.int a) (.int b) = some (.d (.int (a / b))) from if_pos hz] at fin
      exact ⟨_, _, vwx.int, vwy.int, hz, int fin⟩
    · rw [show binF .fdv (.int a) (.int b) = none from if_neg hz] at fin
      exact fin.elim
  | mod =>
    cases dx <;> cases dy <;> first | exact fin.elim | skip
    rename_i a b
    by_cases hz : 0 < b
    · rw [show binF .mod (.int a) (.int b) = some (.d (.int (a % b))) from if_pos hz] at fin
      exact ⟨_, _, vwx.int, vwy.int, hz, int fin⟩
    · rw [show binF .mod (.int a) (.int b) = none from if_neg hz] at fin
      exact fin.elim
  | pow =>
    cases dx <;> cases dy <;> first | exact fin.elim | skip
    rename_i a b
    by_cases hz : 0 ≤ b ∧ (PySem.Builtin.Int.intBits a : Int) * b ≤ 2 ^ 27
    · rw [show binF .pow (.int a) (.int b) = some (.d (.int (a ^ b.toNat))) from if_pos hz] at fin
      exact ⟨_, _, vwx.int, vwy.int, hz, int fin⟩
    · rw [show binF .pow (.int a) (.int b) = none from if_neg hz] at fin
      exact fin.elim

theorem snd_bin {o : Bo} {op : Operator} {a b : Expr} {ra rb : Env → Res Ar} {pos : Pos} (h : boOk o op = true) (ha : Snd X xi W a ra) (hb : Snd X xi W b rb) :
    Snd X xi W (.BinOp a op b pos) (fun env => (ra env).bind fun x env => (rb env).bind fun y env => match use env x, use env y with
      | some dx, some dy => Res.of ((binF o dx dy).map .val) env
      | _, _ => .bad) := by
  refine Snd.of_pe rfl (impE (pe_op (op_bo o op h) ha.pe hb.pe) fun σ H Q q => two q fun Hf L x y env vx vy T Hf2 H2 L2 sl st fam vwx vwy fin => ?_)
  cases ex : use env x with
  | none => simp only [ex] at fin; exact fin.elim
  | some dx =>
    cases ey : use env y with
    | none => simp only [ex, ey] at fin; exact fin.elim
    | some dy =>
      simp only [ex, ey] at fin
      exact bo_fin sl st fam (vwx dx ex) (vwy dy ey) fin

/-! ### comparisons -/
def rInDT (K : PySem.W.Frag) : R2 := fun x y H Q => ∃ d ds, Dp K H x d ∧ Dp K H y (.tuple ds) ∧ SeqAt.shaped d = true ∧ SeqAt.shaped (.tuple ds) = true ∧ Q (.bl (ds.any fun z => PyData.eqv z d)) H
def rNotInDT (K : PySem.W.Frag) : R2 := fun x y H Q => ∃ d ds, Dp K H x d ∧ Dp K H y (.tuple ds) ∧ SeqAt.shaped d = true ∧ SeqAt.shaped (.tuple ds) = true ∧ Q (.bl (!ds.any fun z => PyData.eqv z d)) H
theorem room_in {A : Around} {d : PyData} {n : Nat} (h : SeqAt.shaped d = true) (hu : A.units + 65 < cLine) : A.units + 1 + min n d.depth < cLine := by
  have h1 := SeqAt.depth_of_shaped h
  have h2 : min n d.depth ≤ d.depth := Nat.min_le_right _ _
  omega
theorem op_inDT (hu : X.A.units + 65 < cLine) : OpR X (compareOp .In) (rInDT X.K) := by
  intro pins s σ H x y v u Q I rx ry h
  obtain ⟨d, ds, hd, he, sd, se, q⟩ := h
  obtain ⟨as, r1⟩ := Dp.reads I d x v hd rx
  obtain ⟨bs, r2⟩ := Dp.reads I (.tuple ds) y u he ry
  exact SeqAt.in_tuple_reads r2 r1 (SeqAt.canLay_of_shaped se) (SeqAt.canLay_of_shaped sd) (room_in sd hu) ⟨.bl _, H, I, rfl, q⟩
theorem op_notInDT (hu : X.A.units + 65 < cLine) : OpR X (compareOp .NotIn) (rNotInDT X.K) := by
  intro pins s σ H x y v u Q I rx ry h
  obtain ⟨d, ds, hd, he, sd, se, q⟩ := h
  obtain ⟨as, r1⟩ := Dp.reads I d x v hd rx
  obtain ⟨bs, r2⟩ := Dp.reads I (.tuple ds) y u he ry
  exact SeqAt.notIn_tuple_reads r2 r1 (SeqAt.canLay_of_shaped se) (SeqAt.canLay_of_shaped sd) (room_in sd hu) ⟨.bl _, H, I, rfl, q⟩
/-- a text in a dict -/
def rInD1 : R2 := fun x y H Q => ∃ a z o, x = .str z ∧ y = .ref a ∧ DGet H a x o ∧ Q (.bl o.isSome) H
def rNotInD1 : R2 := fun x y H Q => ∃ a z o, x = .str z ∧ y = .ref a ∧ DGet H a x o ∧ Q (.bl (!o.isSome)) H
theorem op_inD1 (hu : X.A.units + 1 < cLine) : OpR X (compareOp .In) rInD1 := by
  intro pins s σ H x y v u Q I rx ry h
  obtain ⟨a, z, o, rfl, rfl, g, q⟩ := h
  obtain rfl : u = Value.ref a := ry
  exact d_in hu I g rx fun s' I' => ⟨.bl _, H, I', rfl, q⟩
theorem op_notInD1 (hu : X.A.units + 1 < cLine) : OpR X (compareOp .NotIn) rNotInD1 := by
  intro pins s σ H x y v u Q I rx ry h
  obtain ⟨a, z, o, rfl, rfl, g, q⟩ := h
  obtain rfl : u = Value.ref a := ry
  exact d_notIn hu I g rx fun s' I' => ⟨.bl _, H, I', rfl, q⟩
/-- a text in a written dict -/
def rInK (K : PySem.W.Frag) (w : World) : R2 := fun x y H Q => ∃ a z es n r, x = .str z ∧ y = .ref a ∧ KDict K w a es n ∧ PySem.W.nsIn K a z = some r ∧ Q (.bl r.isSome) H
def rNotInK (K : PySem.W.Frag) (w : World) : R2 := fun x y H Q => ∃ a z es n r, x = .str z ∧ y = .ref a ∧ KDict K w a es n ∧ PySem.W.nsIn K a z = some r ∧ Q (.bl (!r.isSome)) H
theorem op_inK : OpR X (compareOp .In) (rInK X.K X.w) := by
  intro pins s σ H x y v u Q I rx ry h
  obtain ⟨a, z, es, n, r, rfl, rfl, kd, e, q⟩ := h
  exact op_in_kd kd pins s σ H _ _ v u Q I rx ry ⟨z, r, rfl, rfl, e, q⟩
theorem op_notInK : OpR X (compareOp .NotIn) (rNotInK X.K X.w) := by
  intro pins s σ H x y v u Q I rx ry h
  obtain ⟨a, z, es, n, r, rfl, rfl, kd, e, q⟩ := h
  exact op_notIn_kd kd pins s σ H _ _ v u Q I rx ry ⟨z, r, rfl, rfl, e, q⟩

def rCo (K : PySem.W.Frag) (w : World) : Co → R2
  | .eq => fun x y H Q => rEq x y H Q ∨ rEqD K x y H Q
  | .ne => fun x y H Q => rNe x y H Q ∨ rNeD K x y H Q
  | .lt => rI0 fun i j => .bl (decide (i < j))
  | .le => rI0 fun i j => .bl (decide (i ≤ j))
  | .gt => rI0 fun i j => .bl (decide (j < i))
  | .ge => rI0 fun i j => .bl (decide (j ≤ i))
  | .isN => fun x y H Q => y = .non ∧ Q (.bl (decide (x = .non))) H
  | .notN => fun x y H Q => y = .non ∧ Q (.bl (!decide (x = .non))) H
  | .isin => fun x y H Q => ((((∃ i j, x = .str i ∧ y = .str j ∧ Q (.bl (!(Builtin.Str.occurrences j i 0 j.length 1).isEmpty)) H) ∨ rInD K x y H Q) ∨ rInDT K x y H Q) ∨ rInD1 x y H Q) ∨ rInK K w x y H Q
  | .notin => fun x y H Q => ((((∃ i j, x = .str i ∧ y = .str j ∧ Q (.bl (!(!(Builtin.Str.occurrences j i 0 j.length 1).isEmpty))) H) ∨ rNotInD K x y H Q) ∨ rNotInDT K x y H Q) ∨ rNotInD1 x y H Q) ∨ rNotInK K w x y H Q
theorem op_co (c : CxOk X lv) (o : Co) (op : CmpOp) (h : coOk o op = true) : OpR X (compareOp op) (rCo X.K X.w o) := by
  have u := c.room.units
  have u2 : X.A.units + 65 < cLine := by have := c.room.un; omega
  have u1 : X.A.units + 1 < cLine := by omega
  cases o <;> cases op <;> first
    | exact absurd h (by decide)
    | exact op_eq.or (op_eqD u)
    | exact op_ne.or (op_neD u)
    | exact op_lt
    | exact op_le
    | exact op_gt
    | exact op_ge
    | exact op_isN
    | exact op_notN
    | exact (((op_in_str.or (op_inD u2)).or (op_inDT u2)).or (op_inD1 u1)).or op_inK
    | exact (((op_notIn_str.or (op_notInD u2)).or (op_notInDT u2)).or (op_notInD1 u1)).or op_notInK

theorem View.isN {Hf H : Hp} {d : D} {v : V} (h : View X.K X.w Hf H d v) : decide (v = .non) = d.isNon := by
  cases h with
  | den h => cases h <;> first | rfl | exact decide_eq_false (by intro z; cases z)
  | lst => exact decide_eq_false (by intro z; cases z)
  | dct => exact decide_eq_false (by intro z; cases z)

theorem eq_fin {Hf H : Hp} {Q : VK} {a b : D} {x y : V} {k : Bool} (s : Same Hf H) (vx : View X.K X.w Hf H a x) (vy : View X.K X.w Hf H b y) (e : eqF a b = some k) :
    (Q (.bl k) H → rCo X.K X.w .eq x y H Q) ∧ (Q (.bl (!k)) H → rCo X.K X.w .ne x y H Q) := by
  have gen : (match a.py, b.py with | some p, some q => if PySem.SeqAt.shaped p && PySem.SeqAt.shaped q then some (PyData.eqv p q) else none | _, _ => none) = some k →
      (Q (.bl k) H → rCo X.K X.w .eq x y H Q) ∧ (Q (.bl (!k)) H → rCo X.K X.w .ne x y H Q) := fun e => by
    cases ha : a.py with
    | none => rw [ha] at e; cases e
    | some p =>
      cases hb : b.py with
      | none => rw [ha, hb] at e; cases e
      | some q =>
        simp only [ha, hb] at e
        by_cases hs : (PySem.SeqAt.shaped p && PySem.SeqAt.shaped q) = true
        · rw [if_pos hs] at e
          obtain ⟨s1, s2⟩ := Bool.and_eq_true_iff.mp hs
          obtain rfl := Option.some.inj e
          exact ⟨fun h => .inr ⟨p, q, vx.dp s ha, vy.dp s hb, s1, s2, h⟩, fun h => .inr ⟨p, q, vx.dp s ha, vy.dp s hb, s1, s2, h⟩⟩
        · rw [if_neg hs] at e; cases e
  unfold eqF at e
  split at e
  · rename_i s1 s2
    obtain rfl := Option.some.inj e
    obtain rfl := vx.str
    obtain rfl := vy.str
    have q : decide (V.str s1 = V.str s2) = decide (s1 = s2) := decide_eq_decide.mpr ⟨fun h => by injection h, fun h => by rw [h]⟩
    exact ⟨fun h => .inl ⟨rfl, by rw [q]; exact h⟩, fun h => .inl ⟨rfl, by rw [q]; exact h⟩⟩
  · rename_i s1 s2
    obtain rfl := Option.some.inj e
    obtain rfl := vx.int
    obtain rfl := vy.int
    have q : decide (V.int s1 = V.int s2) = decide (s1 = s2) := decide_eq_decide.mpr ⟨fun h => by injection h, fun h => by rw [h]⟩
    exact ⟨fun h => .inl ⟨rfl, by rw [q]; exact h⟩, fun h => .inl ⟨rfl, by rw [q]; exact h⟩⟩
  · exact gen e

theorem kvs_look : ∀ {ks : List Str} {kvs : List (Key × V)} {x : Str}, kvs.map (·.1) = ks.map Sum.inr → valV kvs (Sum.inr x) = (ks.zip (kvs.map (·.2))).lookup x
  | [], [], x, _ => rfl
  | [], _ :: _, x, h => by simp at h
  | _ :: _, [], x, h => by simp at h
  | k :: ks, (k', v) :: kvs, x, h => by
    have h' := List.cons.inj (show k' :: kvs.map (·.1) = Sum.inr k :: ks.map Sum.inr from h)
    obtain ⟨rfl, h2⟩ := h'
    have ih := kvs_look (x := x) h2
    show valV ((Sum.inr k, v) :: kvs) (Sum.inr x) = ((k, v) :: ks.zip (kvs.map (·.2))).lookup x
    rw [List.lookup_cons, ← ih]
    by_cases e : x = k
    · subst e
      simp [valV]
    · have e1 : (x == k) = false := by simpa using e
      have e2 : ¬ (k = x) := fun z => e z.symm
      simp [valV, e1, e2]
theorem look_some : ∀ {α : Type} {ks : List Str} {us : List α} {x : Str}, ks.length = us.length → ((ks.zip us).lookup x).isSome = ks.contains x
  | _, [], [], x, _ => rfl
  | _, [], _ :: _, x, h => by simp at h
  | _, _ :: _, [], x, h => by simp at h
  | _, k :: ks, u :: us, x, h => by
    rw [List.zip_cons_cons, List.lookup_cons, List.contains_cons]
    cases e : x == k
    · exact look_some (by simpa using h)
    · rfl

theorem in_fin {Hf H : Hp} {Q : VK} {a b : D} {x y : V} {k : Bool} (s : Same Hf H) (vx : View X.K X.w Hf H a x) (vy : View X.K X.w Hf H b y) (e : isinF a b = some k) :
    (Q (.bl k) H → rCo X.K X.w .isin x y H Q) ∧ (Q (.bl (!k)) H → rCo X.K X.w .notin x y H Q) := by
  have gen : ∀ (ys : List D) (mk : List PyData → PyData), (match a.py, D.pyL ys with | some p, some qs => if PySem.SeqAt.shaped p && PySem.SeqAt.shaped (mk qs) then some (qs.any fun z => PyData.eqv z p) else none | _, _ => none) = some k →
      ∃ p qs, a.py = some p ∧ D.pyL ys = some qs ∧ SeqAt.shaped p = true ∧ SeqAt.shaped (mk qs) = true ∧ k = qs.any fun z => PyData.eqv z p := fun ys mk e => by
    cases ha : a.py with
    | none => rw [ha] at e; cases e
    | some p =>
      cases hb : D.pyL ys with
      | none => rw [ha, hb] at e; cases e
      | some q =>
        simp only [ha, hb] at e
        by_cases hs : (PySem.SeqAt.shaped p && PySem.SeqAt.shaped (mk q)) = true
        · rw [if_pos hs] at e
          obtain ⟨s1, s2⟩ := Bool.and_eq_true_iff.mp hs
          exact ⟨p, q, rfl, rfl, s1, s2, (Option.some.inj e).symm⟩
        · rw [if_neg hs] at e; cases e
  unfold isinF at e
  split at e
  · rename_i s1 s2
    obtain rfl := Option.some.inj e
    exact ⟨fun h => .inl (.inl (.inl (.inl ⟨s1, s2, vx.str, vy.str, h⟩))), fun h => .inl (.inl (.inl (.inl ⟨s1, s2, vx.str, vy.str, h⟩)))⟩
  · rename_i z ks us
    obtain rfl := Option.some.inj e
    obtain rfl := vx.str
    have trk : ∀ (a : Addr) (kvs : List (Key × V)), y = .ref a → H a = some (.dK kvs) → kvs.map (·.1) = ks.map Sum.inr → (Q (.bl (ks.contains z)) H → rCo X.K X.w .isin (.str z) y H Q) ∧ (Q (.bl (!ks.contains z)) H → rCo X.K X.w .notin (.str z) y H Q) := fun a kvs ey hh hk => by
      subst ey
      have g : DGet H a (.str z) (valV kvs (Sum.inr z)) := DGet.k (k := Sum.inr z) hh
      have e2 : (valV kvs (Sum.inr z)).isSome = ks.contains z := by
        rw [kvs_look hk]
        have hl : ks.length = (kvs.map (·.2)).length := by
          have := congrArg List.length hk
          simpa using this.symm
        exact look_some hl
      exact ⟨fun h => .inl (.inr ⟨a, z, _, rfl, rfl, g, by rw [e2]; exact h⟩), fun h => .inl (.inr ⟨a, z, _, rfl, rfl, g, by rw [e2]; exact h⟩)⟩
    cases vy with
    | den dn =>
      cases dn with
      | dct hh hk _ => exact trk _ _ rfl (s _ _ hh) hk
      | @kdct a ks' ds us' kd l =>
        obtain ⟨es, n, kdd⟩ := kd.ex
        have e2 := look_some (x := z) kd.len
        cases hl : (ks.zip us').lookup z with
        | none =>
          rw [hl] at e2
          have hn := kd.no z hl
          exact ⟨fun h => .inr ⟨a, z, es, n, _, rfl, rfl, kdd, hn, by rw [← e2] at h; exact h⟩, fun h => .inr ⟨a, z, es, n, _, rfl, rfl, kdd, hn, by rw [← e2] at h; exact h⟩⟩
        | some v =>
          rw [hl] at e2
          obtain ⟨u, hu, _⟩ := kd.yes z v hl
          exact ⟨fun h => .inr ⟨a, z, es, n, _, rfl, rfl, kdd, hu, by rw [← e2] at h; exact h⟩, fun h => .inr ⟨a, z, es, n, _, rfl, rfl, kdd, hu, by rw [← e2] at h; exact h⟩⟩
    | dct hh hk _ => exact trk _ _ rfl hh hk
  · rename_i ys
    obtain ⟨p, qs, ha, hb, s1, s2, rfl⟩ := gen ys .tuple e
    have e2 : (D.tup ys).py = some (.tuple qs) := by show (D.pyL ys).map PyData.tuple = _; rw [hb]; rfl
    exact ⟨fun h => .inl (.inl (.inr ⟨p, qs, vx.dp s ha, vy.dp s e2, s1, s2, h⟩)), fun h => .inl (.inl (.inr ⟨p, qs, vx.dp s ha, vy.dp s e2, s1, s2, h⟩))⟩
  · rename_i ys
    obtain ⟨p, qs, ha, hb, s1, s2, rfl⟩ := gen ys .list e
    have e2 : (D.lst ys).py = some (.list qs) := by show (D.pyL ys).map PyData.list = _; rw [hb]; rfl
    exact ⟨fun h => .inl (.inl (.inl (.inr ⟨p, qs, vx.dp s ha, vy.dp s e2, s1, s2, h⟩))), fun h => .inl (.inl (.inl (.inr ⟨p, qs, vx.dp s ha, vy.dp s e2, s1, s2, h⟩)))⟩
  · cases e

theorem co_fin {o : Co} {Hf H : Hp} {Q : VK} {a b : D} {x y : V} {k : Bool} (s : Same Hf H) (vx : View X.K X.w Hf H a x) (vy : View X.K X.w Hf H b y) (e : cmpF o a b = some k) (q : Q (.bl k) H) : rCo X.K X.w o x y H Q := by
  cases o with
  | eq => exact (eq_fin s vx vy e).1 q
  | ne =>
    cases h : eqF a b with
    | none => rw [show cmpF .ne a b = (eqF a b).map (!·) from rfl, h] at e; cases e
    | some j =>
      rw [show cmpF .ne a b = (eqF a b).map (!·) from rfl, h] at e
      obtain rfl := Option.some.inj e
      exact (eq_fin s vx vy h).2 q
  | isin => exact (in_fin s vx vy e).1 q
  | notin =>
    cases h : isinF a b with
    | none => rw [show cmpF .notin a b = (isinF a b).map (!·) from rfl, h] at e; cases e
    | some j =>
      rw [show cmpF .notin a b = (isinF a b).map (!·) from rfl, h] at e
      obtain rfl := Option.some.inj e
      exact (in_fin s vx vy h).2 q
  | lt => cases a <;> cases b <;> first | (cases e; done) | (obtain rfl := Option.some.inj e; exact ⟨_, _, vx.int, vy.int, q⟩)
  | le => cases a <;> cases b <;> first | (cases e; done) | (obtain rfl := Option.some.inj e; exact ⟨_, _, vx.int, vy.int, q⟩)
  | gt => cases a <;> cases b <;> first | (cases e; done) | (obtain rfl := Option.some.inj e; exact ⟨_, _, vx.int, vy.int, q⟩)
  | ge => cases a <;> cases b <;> first | (cases e; done) | (obtain rfl := Option.some.inj e; exact ⟨_, _, vx.int, vy.int, q⟩)
  | isN =>
    cases b <;> first | (cases a <;> (cases e; done)) | skip
    obtain rfl : a.isNon = k := by cases a <;> exact Option.some.inj e
    exact ⟨vy.non, by rw [vx.isN]; exact q⟩
  | notN =>
    cases b <;> first | (cases a <;> (cases e; done)) | skip
    obtain rfl : (!a.isNon) = k := by cases a <;> exact Option.some.inj e
    exact ⟨vy.non, by rw [vx.isN]; exact q⟩

theorem fin_bl {σ : St} {Hf H Hf1 H1 : Hp} {L M L1 : List WV} {env1 : Env} {Q : VK} {k : Bool} (fin : Fin X.K X.w xi W RAr σ Hf H L (.ok (.val (.d (.bl k))) env1) Q) (sl : Sl env1 σ L1) (st : Step Hf H L Hf1 H1 (M ++ L1))
    (fam : Fam X.K X.w Hf1 H1 (M ++ L1)) : Q (.bl k) H1 := fin_d fin sl st fam (.bl k)

theorem cmp_two {o : Co} {ra rb : Env → Res Ar} {σ : St} {H : Hp} {Q : VK}
    (q : tG X.K X.w xi W RAr (fun env => (ra env).bind fun x env => (rb env).bind fun y env => match use env x, use env y with
      | some dx, some dy => Res.of ((cmpF o dx dy).map fun b => .val (.d (.bl b))) env
      | _, _ => .bad) σ H Q) : tOp (rCo X.K X.w o) (tG X.K X.w xi W RAr ra) (tG X.K X.w xi W RAr rb) σ H Q := by
  refine two q fun Hf L x y env vx vy T Hf2 H2 L2 sl st fam vwx vwy fin => ?_
  cases ex : use env x with
  | none => simp only [ex] at fin; exact fin.elim
  | some dx =>
    cases ey : use env y with
    | none => simp only [ex, ey] at fin; exact fin.elim
    | some dy =>
      simp only [ex, ey] at fin
      cases ec : cmpF o dx dy with
      | none => rw [ec] at fin; exact fin.elim
      | some k =>
        rw [ec] at fin
        exact co_fin st.sub (vwx dx ex) (vwy dy ey) ec (fin_bl fin sl st fam)
/-- a bool test from the value -/
theorem tB_of {r : Env → Res Ar} {σ : St} {H : Hp} {Q : Bool → Hp → Prop} (q : tG X.K X.w xi W RB (fun env => useB (r env)) σ H Q) : tB (tG X.K X.w xi W RAr r) σ H Q := by
  refine bindF (R1 := RAr) (R2 := RB) (r := r) q fun Hf L a env2 b T2 Hf2 H2 L2 h1 h2 h3 h4 fin => ?_
  have fin' : Fin X.K X.w xi W RB σ Hf H L ((match use env2 a with | some (.bl b) => (Res.ok b env2 : Res Bool) | _ => .bad).bind fun b env => .ok b env) Q := by
    cases e : use env2 a with
    | none => rw [e] at fin; exact fin.elim
    | some d => cases d <;> (rw [e] at fin; exact fin)
  obtain ⟨k, e1, e2, fin⟩ := useB_fin h1 h2 h4 fin'
  exact ⟨k, e2, fin k [] Hf2 H2 L2 ⟨rfl, rfl⟩ h2 (h3.less fun b q => Owned.append.mpr (.inr q)) (h4.sub (List.sublist_append_right _ _))⟩
theorem snd_cmp (c : CxOk X lv) {o : Co} {op : CmpOp} {a b : Expr} {ra rb : Env → Res Ar} {pos : Pos} (h : coOk o op = true) (hb' : notSet b = true) (ha : Snd X xi W a ra) (hb : Snd X xi W b rb) :
    Snd X xi W (.Compare a [op] [b] pos) (fun env => (ra env).bind fun x env => (rb env).bind fun y env => match use env x, use env y with
      | some dx, some dy => Res.of ((cmpF o dx dy).map fun b => .val (.d (.bl b))) env
      | _, _ => .bad) :=
  ⟨impE (pe_cmpR (op_co c o op h) ha.pe hb.pe (nomark_of hb' op)) fun σ H Q q => cmp_two q,
   impT (pt_cmpR (op_co c o op h) ha.pe hb.pe (nomark_of hb' op)) fun σ H Q q => by
    have q' := tB_of q
    obtain ⟨Hf, env, L, s0, fin⟩ := q'
    exact cmp_two ⟨Hf, env, L, s0, fin⟩⟩
end
end PyEv

set_option maxRecDepth 100000
set_option maxHeartbeats 2000000
/-! PyB5: items, displays, argument lists, chains, and, or, not. -/
namespace PyEv
open PySem L2

section
variable {X : Cx} {xi : XI} {W : WX} {lv : Nat}

theorem item_noexc {a : Ar} {env e2 : Env} {x : D} (e : item a env = .exc x e2) : False := by
  unfold item at e
  split at e
  · split at e <;> cases e
  · cases e
/-- an operand taken for good -/
theorem item_ok {K : PySem.W.Frag} {w : World} {a : Ar} {v : V} {T M L L0 : List WV} {σ : St} {Hx Hf H Hf1 H1 : Hp} {env env2 : Env} {d : D} (r : RAr σ Hx a v T) (sl : Sl env σ L) (st : Step Hf H L0 Hf1 H1 (M ++ (T ++ L))) (fam : Fam K w Hf1 H1 (M ++ (T ++ L)))
    (e : item a env = .ok d env2) : ∃ Hf2 L2, Den K w Hf2 d v ∧ Sl env2 σ L2 ∧ Step Hf H L0 Hf2 H1 (M ++ L2) ∧ Fam K w Hf2 H1 (M ++ L2) := by
  have fr : ∀ (x : W) (N : List WV), (M ++ (T ++ L)).Perm ((x, v) :: N) → ∃ Hf2, Den K w Hf2 x.frz v ∧ Step Hf H L0 Hf2 H1 N ∧ Fam K w Hf2 H1 N := fun x N p => by
    obtain ⟨Hg, h1, h2, h3⟩ := freeze st.sub (fam.perm p)
    exact ⟨Hg, h1, (st.less (M' := (x, v) :: N) fun b q => (Owned.perm p).mpr q).tr h2, h3⟩
  cases r with
  | @vr _ _ i _ hi =>
    rw [List.nil_append] at st fam
    have e' : (match slot env i with | some (.d x) => .ok x env | some w => .ok w.frz (env.set i (some (.d w.frz))) | none => .bad : Res D) = .ok d env2 := e
    cases es : slot env i with
    | none => rw [es] at e'; cases e'
    | some x =>
      rw [es] at e'
      obtain ⟨u, N, h1, h2, p⟩ := sl.out es
      rw [hi] at h1; cases h1
      have own : ∀ y, x = y → y.frz = d → env.set i (some (.d y.frz)) = env2 → ∃ Hf2 L2, Den K w Hf2 d v ∧ Sl env2 σ L2 ∧ Step Hf H L0 Hf2 H1 (M ++ L2) ∧ Fam K w Hf2 H1 (M ++ L2) := fun y ey ed ee => by
        subst ey
        obtain ⟨Hf2, g1, g2, g3⟩ := fr x (M ++ N) ((List.perm_append_left_iff M |>.mpr p).trans List.perm_middle)
        obtain ⟨L2, s2, p2⟩ := h2.into (x := .d x.frz) hi
        refine ⟨Hf2, L2, ed ▸ g1, ee ▸ s2, g2.less fun b q => ?_, ((g3.cons_d g1).perm (List.perm_middle.symm.trans (List.perm_append_left_iff M |>.mpr p2.symm)))⟩
        rcases Owned.append.mp q with q | q
        · exact Owned.append.mpr (.inl q)
        · rcases Owned.cons.mp ((Owned.perm p2).mp q) with q | q
          · cases q
          · exact Owned.append.mpr (.inr q)
      cases x with
      | d y =>
        have e2 : (Res.ok y env : Res D) = .ok d env2 := e'
        cases e2
        have dn : Den K w Hf1 d v := by
          have := fam.rep (.d d, v) (List.mem_append_right _ (p.mem_iff.mpr List.mem_cons_self))
          cases this with
          | d h => exact h
        exact ⟨Hf1, L, dn, sl, st, fam⟩
      | lst ys =>
        have e2 : (Res.ok (PyEv.W.lst ys).frz (env.set i (some (.d (PyEv.W.lst ys).frz))) : Res D) = .ok d env2 := e'
        injection e2 with e3 e4
        exact own _ rfl e3 e4
      | dct ks ys =>
        have e2 : (Res.ok (PyEv.W.dct ks ys).frz (env.set i (some (.d (PyEv.W.dct ks ys).frz))) : Res D) = .ok d env2 := e'
        injection e2 with e3 e4
        exact own _ rfl e3 e4
  | @val _ _ x _ =>
    have e' : (Res.ok x.frz env : Res D) = .ok d env2 := e
    injection e' with e1 e2
    subst e1 e2
    obtain ⟨Hf2, g1, g2, g3⟩ := fr x (M ++ L) List.perm_middle
    exact ⟨Hf2, L, g1, sl, g2, g3⟩
/-- .. in a run -/
theorem item_fin {γ δ : Type} {K : PySem.W.Frag} {w : World} {R2 : RR γ δ} {f : D → Env → Res γ} {a : Ar} {v : V} {T M L L0 : List WV} {σ : St} {Hx Hf H Hf1 H1 : Hp} {env : Env} {Q : δ → Hp → Prop} (r : RAr σ Hx a v T) (sl : Sl env σ L)
    (st : Step Hf H L0 Hf1 H1 (M ++ (T ++ L))) (fam : Fam K w Hf1 H1 (M ++ (T ++ L))) (fin : Fin K w xi W R2 σ Hf H L0 ((item a env).bind f) Q) :
    ∃ d env2 Hf2 L2, Den K w Hf2 d v ∧ Sl env2 σ L2 ∧ Step Hf H L0 Hf2 H1 (M ++ L2) ∧ Fam K w Hf2 H1 (M ++ L2) ∧ Fin K w xi W R2 σ Hf H L0 (f d env2) Q := by
  cases e : item a env with
  | bad => rw [e] at fin; exact fin.elim
  | exc x e2 => exact (item_noexc e).elim
  | ok d env2 =>
    rw [e] at fin
    obtain ⟨Hf2, L2, h1, h2, h3, h4⟩ := item_ok r sl st fam e
    exact ⟨d, env2, Hf2, L2, h1, h2, h3, h4, fin⟩

/-! ### items -/
abbrev SndIts (X : Cx) (xi : XI) (W : WX) (xs : List Expr) (r : Env → Res (List D)) : Prop := PA X xs (tG X.K X.w xi W (RDs X.K X.w) r)
theorem its_nil : SndIts X xi W [] (fun env => .ok [] env) := impA pa_nil fun σ H Q q => by
  obtain ⟨Hf, env, L, s0, fin⟩ := q
  exact fin [] [] Hf H L ⟨.nil, rfl⟩ s0.sl (Step.refl s0.sub) s0.fam
theorem its_cons {x : Expr} {xs : List Expr} {ra : Env → Res Ar} {rs : Env → Res (List D)} (hp : plainX x = true) (ha : PE X x (tG X.K X.w xi W RAr ra)) (hs : SndIts X xi W xs rs) :
    SndIts X xi W (x :: xs) (fun env => (ra env).bind fun a env => (item a env).bind fun d env => (rs env).bind fun ds env => .ok (d :: ds) env) := impA (pa_cons ha hs (starEach_plain hp)) fun σ H Q q => by
  refine bindF (R1 := RAr) (R2 := RDs X.K X.w) q fun Hf L a env1 v T1 Hf1 H1 L1 r1 sl1 st1 fam1 fin => ?_
  obtain ⟨d, env2, Hf2, L2, dn, sl2, st2, fam2, fin2⟩ := item_fin (M := []) r1 sl1 st1 fam1 fin
  refine bindG (R1 := RDs X.K X.w) (R2 := RDs X.K X.w) (T := []) st2 fam2 sl2 fin2 fun ds env3 vs T3 Hf3 H3 L3 r3 sl3 st3 fam3 st23 fin3 => ?_
  obtain ⟨dns, rfl⟩ := r3
  exact fin3 (v :: vs) [] Hf3 H3 L3 ⟨.cons (dn.mono st23.subf) dns, rfl⟩ sl3 st3 fam3
theorem its_star {x : Expr} {xs : List Expr} {ra : Env → Res Ar} {rs : Env → Res (List D)} {p : Pos} (ha : PE X x (tG X.K X.w xi W RAr ra)) (hs : SndIts X xi W xs rs) :
    SndIts X xi W (.Starred x p :: xs) (fun env => (ra env).bind fun a env => (item a env).bind fun d env => match d with
      | .lst ys => (rs env).bind fun ds env => .ok (ys ++ ds) env
      | .tup ys => (rs env).bind fun ds env => .ok (ys ++ ds) env
      | _ => .bad) := impA (StX.pa_star ha hs) fun σ H Q q => by
  refine bindF (R1 := RAr) (R2 := RDs X.K X.w) q fun Hf L a env1 v T1 Hf1 H1 L1 r1 sl1 st1 fam1 fin => ?_
  obtain ⟨d, env2, Hf2, L2, dn, sl2, st2, fam2, fin2⟩ := item_fin (M := []) r1 sl1 st1 fam1 fin
  have rest : ∀ (ys : List D) (p : Addr) (vs : List V), v = .ref p → (SqT X.K H1 p vs ∨ SqL X.K H1 p vs) → DenL X.K X.w Hf2 ys vs → Fin X.K X.w xi W (RDs X.K X.w) σ Hf H L ((rs env2).bind fun ds env => .ok (ys ++ ds) env) Q →
      ∃ p xs, v = V.ref p ∧ (SqT X.K H1 p xs ∨ SqL X.K H1 p xs) ∧ tG X.K X.w xi W (RDs X.K X.w) rs σ H1 fun ys H2 => Q (xs ++ ys) H2 := fun ys p vs ev hq dn2 fin2 => by
    refine ⟨p, vs, ev, hq, ?_⟩
    refine bindG (R1 := RDs X.K X.w) (R2 := RDs X.K X.w) (T := []) st2 fam2 sl2 fin2 fun ds env3 us T3 Hf3 H3 L3 r3 sl3 st3 fam3 st23 fin3 => ?_
    obtain ⟨dns, rfl⟩ := r3
    exact fin3 (vs ++ us) [] Hf3 H3 L3 ⟨(dn2.mono st23.subf).append dns, rfl⟩ sl3 st3 fam3
  cases dn with
  | tup hq l => exact rest _ _ _ rfl (.inl (SqT.same st2.sub hq)) l fin2
  | lst hq l => exact rest _ _ _ rfl (.inr (SqL.of (st2.sub _ _ hq))) l fin2
  | _ => exact fin2.elim

theorem snd_tup {xs : List Expr} {rs : Env → Res (List D)} {k : Nat} {pos : Pos} (hs : SndIts X xi W xs rs) :
    Snd X xi W (.Tuple xs k pos) (fun env => (rs env).bind fun ds env => if ds.length ≤ line then .ok (.val (.d (.tup ds))) env else .bad) := by
  refine Snd.of_pe rfl (impE (pe_tup hs) fun σ H Q q => ?_)
  refine bindF (R1 := RDs X.K X.w) (R2 := RAr) q fun Hf L ds env1 vs T1 Hf1 H1 L1 r1 sl1 st1 fam1 fin => ?_
  obtain ⟨dn, rfl⟩ := r1
  by_cases hz : ds.length ≤ line
  · rw [if_pos hz] at fin
    exact ⟨by rw [← dn.length]; exact hz, fun p hp => fin_tup (M := []) fin sl1 st1 fam1 dn hp⟩
  · rw [if_neg hz] at fin; exact fin.elim
theorem snd_lst {xs : List Expr} {rs : Env → Res (List D)} {pos : Pos} (hs : SndIts X xi W xs rs) :
    Snd X xi W (.List xs pos) (fun env => (rs env).bind fun ds env => if ds.length ≤ line then .ok (.val (.lst ds)) env else .bad) := by
  refine Snd.of_pe rfl (impE (pe_lst hs) fun σ H Q q => ?_)
  refine bindF (R1 := RDs X.K X.w) (R2 := RAr) q fun Hf L ds env1 vs T1 Hf1 H1 L1 r1 sl1 st1 fam1 fin => ?_
  obtain ⟨dn, rfl⟩ := r1
  by_cases hz : ds.length ≤ line
  · rw [if_pos hz] at fin
    exact ⟨by rw [← dn.length]; exact hz, fun p hp => fin_lst (M := []) fin sl1 st1 fam1 dn hp⟩
  · rw [if_neg hz] at fin; exact fin.elim

/-! ### arguments -/
abbrev SndAs (X : Cx) (xi : XI) (W : WX) (xs : List Expr) (r : Env → Res (List Ar)) : Prop := PA X xs (tG X.K X.w xi W RArs r)
theorem as_nil : SndAs X xi W [] (fun env => .ok [] env) := impA pa_nil fun σ H Q q => by
  obtain ⟨Hf, env, L, s0, fin⟩ := q
  exact fin [] [] Hf H L .nil s0.sl (Step.refl s0.sub) s0.fam
theorem as_cons {x : Expr} {xs : List Expr} {ra : Env → Res Ar} {rs : Env → Res (List Ar)} (hp : plainX x = true) (ha : PE X x (tG X.K X.w xi W RAr ra)) (hs : SndAs X xi W xs rs) :
    SndAs X xi W (x :: xs) (fun env => (ra env).bind fun a env => (rs env).bind fun as env => .ok (a :: as) env) := impA (pa_cons ha hs (starEach_plain hp)) fun σ H Q q => by
  refine bindF (R1 := RAr) (R2 := RArs) q fun Hf L a env1 v T1 Hf1 H1 L1 r1 sl1 st1 fam1 fin => ?_
  refine bindG (R1 := RArs) (R2 := RArs) st1 fam1 sl1 fin fun as env2 vs T2 Hf2 H2 L2 r2 sl2 st2 fam2 _ fin2 => ?_
  rw [← List.append_assoc] at st2 fam2
  exact fin2 (v :: vs) (T1 ++ T2) Hf2 H2 L2 (.cons r1 r2) sl2 st2 fam2
theorem use_all {K : PySem.W.Frag} {w : World} {σ : St} {Hx Hf H : Hp} {env : Env} {L : List WV} (sl : Sl env σ L) : ∀ {as : List Ar} {vs : List V} {T T' : List WV} {ds : List D}, RArs σ Hx as vs T → (∀ p ∈ T, p ∈ T') → Fam K w Hf H (T' ++ L) → useAll env as = some ds →
    Paired (fun d v => View K w Hf H d v) ds vs
  | [], _, _, _, ds, .nil, _, _, e => by
    have e' : (some [] : Option (List D)) = some ds := e
    cases e'; exact .nil
  | a :: as, _, _, T', ds, .cons (T := T1) (Ts := T2) r rs, ht, fam, e => by
    have e' : (match use env a, useAll env as with | some x, some xs => some (x :: xs) | _, _ => none) = some ds := e
    cases e1 : use env a with
    | none => rw [e1] at e'; cases e'
    | some x =>
      cases e2 : useAll env as with
      | none => rw [e1, e2] at e'; cases e'
      | some xs =>
        rw [e1, e2] at e'; cases e'
        exact .cons (use_view r (fun p h => ht p (List.mem_append_left _ h)) sl fam e1) (use_all sl rs (fun p h => ht p (List.mem_append_right _ h)) fam e2)

/-! ### and, or, not, if .. else -/
theorem useB_bind {γ δ : Type} {R2 : RR γ δ} {r : Env → Res Ar} {f : Bool → Env → Res γ} {σ : St} {H : Hp} {Q : δ → Hp → Prop} {Q' : Bool → Hp → Prop} (h : tG X.K X.w xi W R2 (fun env => (useB (r env)).bind f) σ H Q)
    (next : ∀ Hf L k env2 Hf2 H2 L2, Sl env2 σ L2 → Step Hf H L Hf2 H2 L2 → Fam X.K X.w Hf2 H2 L2 → Fin X.K X.w xi W R2 σ Hf H L (f k env2) Q → Q' k H2) : tG X.K X.w xi W RB (fun env => useB (r env)) σ H Q' := by
  refine bindF (R1 := RB) h fun Hf L k env2 b T Hf2 H2 L2 r2 sl st fam fin => ?_
  obtain ⟨rfl, rfl⟩ := r2
  exact next Hf L k env2 Hf2 H2 L2 sl st fam fin
theorem tG_of {γ δ : Type} {R2 : RR γ δ} {r : Env → Res γ} {σ : St} {Hf H Hf1 H1 : Hp} {L L1 : List WV} {env1 : Env} {Q : δ → Hp → Prop} (sl : Sl env1 σ L1) (st : Step Hf H L Hf1 H1 L1) (fam : Fam X.K X.w Hf1 H1 L1)
    (fin : Fin X.K X.w xi W R2 σ Hf H L (r env1) Q) : tG X.K X.w xi W R2 r σ H1 Q := by
  refine ⟨Hf1, env1, L1, ⟨sl, fam, st.sub⟩, ?_⟩
  cases e : r env1 with
  | ok c env2 => rw [e] at fin; exact fun d T Hg H' L' h1 h2 h3 h4 => fin d T Hg H' L' h1 h2 (st.tr h3) h4
  | exc x env2 => rw [e] at fin; exact fun Hg H' L' cls dd h1 h2 h3 h4 => fin Hg H' L' cls dd h1 (st.tr h2) h3 h4
  | bad => rw [e] at fin; exact fin
/-- the same wish with another reading of the result -/
theorem andR {ra rb : Env → Res Ar} {σ : St} {H : Hp} {Q : VK} (q : tG X.K X.w xi W RAr (fun env => (useB (ra env)).bind fun k env => if k = true then rb env else .ok (.val (.d (.bl false))) env) σ H Q) :
    tAndV (tG X.K X.w xi W RAr ra) (tG X.K X.w xi W RAr rb) σ H Q := by
  refine tB_of (useB_bind q fun Hf L k env2 Hf2 H2 L2 sl st fam fin => ?_)
  cases k with
  | true => exact iteT (tG_of sl st fam (by rw [if_pos rfl] at fin; exact fin))
  | false => exact iteF (fin_bl (M := []) (by rw [if_neg Bool.false_ne_true] at fin; exact fin) sl st fam)
theorem orR {ra rb : Env → Res Ar} {σ : St} {H : Hp} {Q : VK} (q : tG X.K X.w xi W RAr (fun env => (useB (ra env)).bind fun k env => if k = true then .ok (.val (.d (.bl true))) env else rb env) σ H Q) :
    tOrV (tG X.K X.w xi W RAr ra) (tG X.K X.w xi W RAr rb) σ H Q := by
  refine tB_of (useB_bind q fun Hf L k env2 Hf2 H2 L2 sl st fam fin => ?_)
  cases k with
  | true => exact iteT (fin_bl (M := []) (by rw [if_pos rfl] at fin; exact fin) sl st fam)
  | false => exact iteF (tG_of sl st fam (by rw [if_neg Bool.false_ne_true] at fin; exact fin))
theorem useB_and {ra rb : Env → Res Ar} {env : Env} : useB ((useB (ra env)).bind fun k env => if k = true then rb env else .ok (.val (.d (.bl false))) env) = (useB (ra env)).bind fun k env => if k = true then useB (rb env) else .ok false env := by
  cases useB (ra env) with
  | ok k e => cases k <;> rfl
  | exc x e => rfl
  | bad => rfl
theorem useB_or {ra rb : Env → Res Ar} {env : Env} : useB ((useB (ra env)).bind fun k env => if k = true then .ok (.val (.d (.bl true))) env else rb env) = (useB (ra env)).bind fun k env => if k = true then .ok true env else useB (rb env) := by
  cases useB (ra env) with
  | ok k e => cases k <;> rfl
  | exc x e => rfl
  | bad => rfl
theorem useB_if {rc ra rb : Env → Res Ar} {env : Env} : useB ((useB (rc env)).bind fun k env => if k = true then ra env else rb env) = (useB (rc env)).bind fun k env => if k = true then useB (ra env) else useB (rb env) := by
  cases useB (rc env) with
  | ok k e => cases k <;> rfl
  | exc x e => rfl
  | bad => rfl
theorem useB_not {ra : Env → Res Ar} {env : Env} : useB ((useB (ra env)).bind fun k env => .ok (.val (.d (.bl (!k)))) env) = (useB (ra env)).bind fun k env => .ok (!k) env := by
  cases useB (ra env) with
  | ok k e => rfl
  | exc x e => rfl
  | bad => rfl
theorem tG_congr {γ δ : Type} {R2 : RR γ δ} {r r' : Env → Res γ} {σ : St} {H : Hp} {Q : δ → Hp → Prop} (h : ∀ env, r env = r' env) (q : tG X.K X.w xi W R2 r σ H Q) : tG X.K X.w xi W R2 r' σ H Q := by
  obtain ⟨Hf, env, L, s0, fin⟩ := q
  exact ⟨Hf, env, L, s0, by rw [← h env]; exact fin⟩
theorem fin_b {σ : St} {Hf H Hf1 H1 : Hp} {L L1 : List WV} {env1 : Env} {Q : Bool → Hp → Prop} {k : Bool} (fin : Fin X.K X.w xi W RB σ Hf H L (.ok k env1) Q) (sl : Sl env1 σ L1) (st : Step Hf H L Hf1 H1 L1) (fam : Fam X.K X.w Hf1 H1 L1) : Q k H1 :=
  fin k [] Hf1 H1 L1 ⟨rfl, rfl⟩ sl st fam
theorem andT {ra rb : Env → Res Ar} {σ : St} {H : Hp} {Q : Bool → Hp → Prop} (q : tG X.K X.w xi W RB (fun env => useB ((useB (ra env)).bind fun k env => if k = true then rb env else .ok (.val (.d (.bl false))) env)) σ H Q) :
    tAnd (tG X.K X.w xi W RB (fun env => useB (ra env))) (tG X.K X.w xi W RB (fun env => useB (rb env))) σ H Q := by
  refine useB_bind (tG_congr (fun env => useB_and (ra := ra) (rb := rb)) q) fun Hf L k env2 Hf2 H2 L2 sl st fam fin => ?_
  cases k with
  | true => exact iteT (tG_of sl st fam (by rw [if_pos rfl] at fin; exact fin))
  | false => exact iteF (fin_b (by rw [if_neg Bool.false_ne_true] at fin; exact fin) sl st fam)
theorem orT {ra rb : Env → Res Ar} {σ : St} {H : Hp} {Q : Bool → Hp → Prop} (q : tG X.K X.w xi W RB (fun env => useB ((useB (ra env)).bind fun k env => if k = true then .ok (.val (.d (.bl true))) env else rb env)) σ H Q) :
    tOr (tG X.K X.w xi W RB (fun env => useB (ra env))) (tG X.K X.w xi W RB (fun env => useB (rb env))) σ H Q := by
  refine useB_bind (tG_congr (fun env => useB_or (ra := ra) (rb := rb)) q) fun Hf L k env2 Hf2 H2 L2 sl st fam fin => ?_
  cases k with
  | true => exact iteT (fin_b (by rw [if_pos rfl] at fin; exact fin) sl st fam)
  | false => exact iteF (tG_of sl st fam (by rw [if_neg Bool.false_ne_true] at fin; exact fin))

/-- a test whatever its whole is -/
def SndW (X : Cx) (xi : XI) (W : WX) (x : Expr) (r : Env → Res Ar) : Prop := Snd X xi W x r ∧ PW X x (tG X.K X.w xi W RB (fun env => useB (r env)))
theorem impW {e : Expr} {t t' : TT} (h : PW X e t) (f : ∀ σ H Q, t' σ H Q → t σ H Q) : PW X e t' := ⟨fun wh pins s σ H Q I q => h.run wh pins s σ H Q I (f σ H Q q)⟩
theorem snd_and1 {a b : Expr} {ra rb : Env → Res Ar} {pos : Pos} (ha : Snd X xi W a ra) (hb : Snd X xi W b rb) :
    SndW X xi W (.BoolOp .And [a, b] pos) (fun env => (useB (ra env)).bind fun k env => if k = true then rb env else .ok (.val (.d (.bl false))) env) := by
  have w : PW X (.BoolOp .And [a, b] pos) _ := impW (pw_and ha.pt (pw_and1 hb.pt)) fun σ H Q q => andT q
  exact ⟨⟨impE (pe_and ha.pe (pe_one hb.pe)) fun σ H Q q => andR q, w.pt⟩, w⟩
theorem snd_and2 {a b c : Expr} {rest : List Expr} {ra rb : Env → Res Ar} {pos : Pos} (ha : Snd X xi W a ra) (hb : SndW X xi W (.BoolOp .And (b :: c :: rest) pos) rb) :
    SndW X xi W (.BoolOp .And (a :: b :: c :: rest) pos) (fun env => (useB (ra env)).bind fun k env => if k = true then rb env else .ok (.val (.d (.bl false))) env) := by
  have w : PW X (.BoolOp .And (a :: b :: c :: rest) pos) _ := impW (pw_and ha.pt hb.2) fun σ H Q q => andT q
  exact ⟨⟨impE (pe_and ha.pe hb.1.pe) fun σ H Q q => andR q, w.pt⟩, w⟩
theorem snd_or1 {a b : Expr} {ra rb : Env → Res Ar} {pos : Pos} (ha : Snd X xi W a ra) (hb : Snd X xi W b rb) :
    SndW X xi W (.BoolOp .Or [a, b] pos) (fun env => (useB (ra env)).bind fun k env => if k = true then .ok (.val (.d (.bl true))) env else rb env) := by
  have w : PW X (.BoolOp .Or [a, b] pos) _ := impW (pw_or ha.pt (pw_or1 hb.pt)) fun σ H Q q => orT q
  exact ⟨⟨impE (pe_or ha.pe (pe_one hb.pe)) fun σ H Q q => orR q, w.pt⟩, w⟩
theorem snd_or2 {a b c : Expr} {rest : List Expr} {ra rb : Env → Res Ar} {pos : Pos} (ha : Snd X xi W a ra) (hb : SndW X xi W (.BoolOp .Or (b :: c :: rest) pos) rb) :
    SndW X xi W (.BoolOp .Or (a :: b :: c :: rest) pos) (fun env => (useB (ra env)).bind fun k env => if k = true then .ok (.val (.d (.bl true))) env else rb env) := by
  have w : PW X (.BoolOp .Or (a :: b :: c :: rest) pos) _ := impW (pw_or ha.pt hb.2) fun σ H Q q => orT q
  exact ⟨⟨impE (pe_or ha.pe hb.1.pe) fun σ H Q q => orR q, w.pt⟩, w⟩
theorem snd_not {a : Expr} {ra : Env → Res Ar} {pos : Pos} (ha : Snd X xi W a ra) : Snd X xi W (.UnaryOp .Not a pos) (fun env => (useB (ra env)).bind fun k env => .ok (.val (.d (.bl (!k)))) env) := by
  refine ⟨impE (pe_not ha.pe) fun σ H Q q => ?_, impT (pt_not ha.pt) fun σ H Q q => ?_⟩
  · exact tB_of (useB_bind q fun Hf L k env2 Hf2 H2 L2 sl st fam fin => fin_bl (M := []) fin sl st fam)
  · exact useB_bind (tG_congr (fun env => useB_not) q) fun Hf L k env2 Hf2 H2 L2 sl st fam fin => fin_b fin sl st fam
/-- isTrue of c if t else .. -/
theorem pt_ifExp {c a b : Expr} {pos : Pos} {tc ta tb : TT} (hc : PT X c tc) (ha : PT X a ta) (hb : PT X b tb) : PT X (.IfExp c a b pos) (fun σ H Q => tc σ H fun k H1 => if k = true then ta σ H1 Q else tb σ H1 Q) := by
  refine ⟨fun pins s σ H Q I h => ?_⟩
  show wpAny _ _ (do if ← isTrue c X.env (eval c X.env) then isTrue a X.env (eval a X.env) else isTrue b X.env (eval b X.env)) _ _ s
  refine wpAny_bind (thn (hc.run pins s σ H _ I h) fun k s1 ⟨H1, I1, q1⟩ => ?_)
  cases k with
  | true => exact ha.run pins s1 σ H1 Q I1 q1
  | false => exact hb.run pins s1 σ H1 Q I1 q1
theorem snd_ifx {c a b : Expr} {rc ra rb : Env → Res Ar} {pos : Pos} (hc : Snd X xi W c rc) (ha : Snd X xi W a ra) (hb : Snd X xi W b rb) : Snd X xi W (.IfExp c a b pos) (fun env => (useB (rc env)).bind fun k env => if k = true then ra env else rb env) := by
  refine ⟨impE (pe_ifExp hc.pt ha.pe hb.pe) fun σ H Q q => ?_, impT (pt_ifExp hc.pt ha.pt hb.pt) fun σ H Q q => ?_⟩
  · refine useB_bind q fun Hf L k env2 Hf2 H2 L2 sl st fam fin => ?_
    cases k with
    | true => exact iteT (tG_of sl st fam (by rw [if_pos rfl] at fin; exact fin))
    | false => exact iteF (tG_of sl st fam (by rw [if_neg Bool.false_ne_true] at fin; exact fin))
  · refine useB_bind (tG_congr (fun env => useB_if (rc := rc) (ra := ra) (rb := rb)) q) fun Hf L k env2 Hf2 H2 L2 sl st fam fin => ?_
    cases k with
    | true => exact iteT (tG_of sl st fam (by rw [if_pos rfl] at fin; exact fin))
    | false => exact iteF (tG_of sl st fam (by rw [if_neg Bool.false_ne_true] at fin; exact fin))
theorem snd_neg {a : Expr} {ra : Env → Res Ar} {pos : Pos} (ha : Snd X xi W a ra) : Snd X xi W (.UnaryOp .USub a pos) (fun env => (ra env).bind fun x env => match use env x with
    | some (.int i) => .ok (.val (.d (.int (-i)))) env
    | _ => .bad) := by
  refine Snd.of_pe rfl (impE (pe_un un_neg ha.pe) fun σ H Q q => ?_)
  refine bindF (R1 := RAr) (R2 := RAr) q fun Hf L a env1 v T1 Hf1 H1 L1 r1 sl1 st1 fam1 fin => ?_
  cases e : use env1 a with
  | none => rw [e] at fin; exact fin.elim
  | some d =>
    cases d <;> first | (rw [e] at fin; exact fin.elim) | skip
    rw [e] at fin
    exact ⟨_, (use_view r1 (fun _ h => h) sl1 fam1 e).int, fin_d fin sl1 st1 fam1 (.int _)⟩

/-! ### a < b < c -/
theorem chain_ok (c : CxOk X lv) {o1 o2 : Co} {ra rb rc : Env → Res Ar} {σ : St} {H : Hp} {Q : VK}
    (q : tG X.K X.w xi W RAr (fun env => (ra env).bind fun x env => (rb env).bind fun y env => match use env x, use env y with
      | some dx, some dy => match cmpF o1 dx dy with
        | some true => (rc env).bind fun z env => match use env y, use env z with
          | some dy, some dz => Res.of ((cmpF o2 dy dz).map fun b => .val (.d (.bl b))) env
          | _, _ => .bad
        | some false => .ok (.val (.d (.bl false))) env
        | none => .bad
      | _, _ => .bad) σ H Q) : tChain (rCo X.K X.w o1) (rCo X.K X.w o2) (tG X.K X.w xi W RAr ra) (tG X.K X.w xi W RAr rb) (tG X.K X.w xi W RAr rc) σ H Q := by
  refine bindF (R1 := RAr) (R2 := RAr) q fun Hf L x env1 vx T1 Hf1 H1 L1 r1 sl1 st1 fam1 fin => ?_
  refine bindG (R1 := RAr) (R2 := RAr) (T := T1) st1 fam1 sl1 fin fun y env2 vy T2 Hf2 H2 L2 r2 sl2 st2 fam2 _ fin2 => ?_
  have e : T1 ++ (T2 ++ L2) = (T1 ++ T2) ++ L2 := (List.append_assoc _ _ _).symm
  rw [e] at st2 fam2
  cases ex : use env2 x with
  | none => simp only [ex] at fin2; exact fin2.elim
  | some dx =>
    cases ey : use env2 y with
    | none => simp only [ex, ey] at fin2; exact fin2.elim
    | some dy =>
      simp only [ex, ey] at fin2
      have vwx := use_view r1 (fun p h => List.mem_append_left _ h) sl2 fam2 ex
      have vwy := use_view r2 (fun p h => List.mem_append_right T1 h) sl2 fam2 ey
      cases ec : cmpF o1 dx dy with
      | none => rw [ec] at fin2; exact fin2.elim
      | some k =>
        rw [ec] at fin2
        refine co_fin st2.sub vwx vwy ec ⟨k, rfl, ?_⟩
        cases k with
        | false => exact iteF (fin_bl fin2 sl2 st2 fam2)
        | true =>
          refine iteT (bindG (R1 := RAr) (R2 := RAr) (T := T1 ++ T2) st2 fam2 sl2 fin2 fun z env3 vz T3 Hf3 H3 L3 r3 sl3 st3 fam3 _ fin3 => ?_)
          have e3 : (T1 ++ T2) ++ (T3 ++ L3) = ((T1 ++ T2) ++ T3) ++ L3 := (List.append_assoc _ _ _).symm
          rw [e3] at st3 fam3
          cases ey3 : use env3 y with
          | none => simp only [ey3] at fin3; exact fin3.elim
          | some dy3 =>
            cases ez : use env3 z with
            | none => simp only [ey3, ez] at fin3; exact fin3.elim
            | some dz =>
              simp only [ey3, ez] at fin3
              cases ec2 : cmpF o2 dy3 dz with
              | none => rw [ec2] at fin3; exact fin3.elim
              | some k2 =>
                rw [ec2] at fin3
                exact co_fin st3.sub (use_view r2 (fun p h => List.mem_append_left _ (List.mem_append_right _ h)) sl3 fam3 ey3) (use_view r3 (fun p h => List.mem_append_right _ h) sl3 fam3 ez) ec2 (fin_bl fin3 sl3 st3 fam3)
theorem marks2 {p q : CmpOp} {b c : Expr} (h : notSet c = true) : lastMarks [p, q] [b, c] = false := by
  show behindInMarks q c = false
  exact nomark_of h q
theorem snd_chain (c : CxOk X lv) {o1 o2 : Co} {p q : CmpOp} {a b d : Expr} {ra rb rc : Env → Res Ar} {pos : Pos} (h1 : coOk o1 p = true) (h2 : coOk o2 q = true) (hd : notSet d = true) (ha : Snd X xi W a ra) (hb : Snd X xi W b rb) (hc : Snd X xi W d rc) :
    Snd X xi W (.Compare a [p, q] [b, d] pos) (fun env => (ra env).bind fun x env => (rb env).bind fun y env => match use env x, use env y with
      | some dx, some dy => match cmpF o1 dx dy with
        | some true => (rc env).bind fun z env => match use env y, use env z with
          | some dy, some dz => Res.of ((cmpF o2 dy dz).map fun b => .val (.d (.bl b))) env
          | _, _ => .bad
        | some false => .ok (.val (.d (.bl false))) env
        | none => .bad
      | _, _ => .bad) :=
  ⟨impE (pe_chain (op_co c o1 p h1) (op_co c o2 q h2) ha.pe hb.pe hc.pe (marks2 hd)) fun σ H Q z => chain_ok c z,
   impT (pt_chain (op_co c o1 p h1) (op_co c o2 q h2) ha.pe hb.pe hc.pe (marks2 hd)) fun σ H Q z => chain_ok c (tB_of z)⟩

/-! ### {..} -/
theorem mergeK_self : ∀ {more acc : List (Key × V)}, ((acc ++ more).map (·.1)).Nodup → mergeK acc more = acc ++ more
  | [], acc, _ => by rw [List.append_nil]; rfl
  | p :: r, acc, h => by
    have hn : p.1 ∉ acc.map (·.1) := by
      rw [List.map_append, List.map_cons] at h
      intro q
      exact (List.nodup_append.mp h).2.2 _ q _ List.mem_cons_self rfl
    have e : putK acc p.1 p.2 = acc ++ [p] := by
      have h0 : (acc.any fun kv => decide (kv.1 = p.1)) = false := by
        rw [List.any_eq_false]
        intro kv hk
        simp only [decide_eq_true_eq]
        intro z
        exact hn (z ▸ List.mem_map_of_mem hk)
      unfold putK
      rw [h0]
      rfl
    show mergeK (putK acc p.1 p.2) r = _
    rw [e, mergeK_self (by rw [List.append_assoc]; exact h), List.append_assoc]
    rfl
end
end PyEv

set_option maxRecDepth 100000
set_option maxHeartbeats 2000000
/-! PyB6: built-in functions, subscripts, slices, methods. -/
namespace PyEv
open PySem L2

/-! ### t[::-1] of a tuple -/
section
open HT PyProof.Rows
variable {prog : Program} {w : World} {A : Around} {E : Value → Shared → Prop} {s : Shared}
theorem filterMap_all {α β : Type} {f : α → Option β} {g : α → β} : ∀ {l : List α}, (∀ k ∈ l, f k = some (g k)) → l.filterMap f = l.map g
  | [], _ => rfl
  | a :: l, h => by
    rw [List.filterMap_cons, h a List.mem_cons_self, List.map_cons, filterMap_all fun k hk => h k (List.mem_cons_of_mem _ hk)]
theorem rev_pick (xs : Array Value) : ((List.range xs.size).filterMap fun (k : Nat) => xs[(((xs.size : Int) - 1) + (k : Int) * (-1)).toNat]?).toArray = xs.toList.reverse.toArray := by
  congr 1
  apply List.ext_getElem?
  intro i
  have hf : ∀ k ∈ List.range xs.size, (fun (k : Nat) => xs[(((xs.size : Int) - 1) + (k : Int) * (-1)).toNat]?) k = some (xs.toList.reverse.getD k default) := by
    intro k hk
    have hk' : k < xs.size := List.mem_range.mp hk
    have e : (((xs.size : Int) - 1) + (k : Int) * (-1)).toNat = xs.size - 1 - k := by omega
    show xs[(((xs.size : Int) - 1) + (k : Int) * (-1)).toNat]? = _
    rw [e, ← Array.getElem?_toList]
    have h1 : xs.toList.reverse[k]? = xs.toList[xs.toList.length - 1 - k]? := List.getElem?_reverse (by simpa using hk')
    have h2 : k < xs.toList.reverse.length := by simpa using hk'
    rw [List.getD_eq_getElem?_getD, h1, Array.length_toList]
    have h3 : xs.size - 1 - k < xs.toList.length := by rw [Array.length_toList]; omega
    rw [List.getElem?_eq_getElem h3]
    rfl
  rw [filterMap_all hf, List.getElem?_map]
  by_cases hi : i < xs.size
  · rw [List.getElem?_range hi]
    have h2 : i < xs.toList.reverse.length := by simpa using hi
    show some (xs.toList.reverse.getD i default) = _
    rw [List.getD_eq_getElem?_getD, List.getElem?_eq_getElem h2]
    rfl
  · rw [List.getElem?_eq_none (by simpa using hi), List.getElem?_eq_none (by simpa using hi)]
    rfl
theorem getItem_tuple_rev {t sl : Addr} {items : Array Value} {u : Tok} {Q : Value → Shared → Prop} (ht : IsTup s.heap t items) (hs : s.heap.IsSliceOf sl .none .none (.int (-1) u))
    (h : Q (.ref s.heap.objs.size) { s with heap := s.heap.push { cls := .type "tuple", data := .seq items.toList.reverse.toArray } }) (hsz : items.size ≤ sizeLine) : wpAny (model prog w) A (getItem (.ref t) (.ref sl)) Q E s := by
  obtain ⟨os, hos, hcs, hds⟩ := id hs
  have hTs : s.TypeIs (.ref sl) "slice" := ⟨os, hos, hcs⟩
  unfold getItem
  try with_reducible refine wpAny_holding ?_
  first | refine wpAny_bind (wpAny_pure ?_) | skip
  refine wpAny_bind (wpAny_sequenceKey ht.typeIs (by decide) ?_)
  refine wpAny_bind (wpAny_callSpecial?_slot (name := Str.ofString "__getitem__") ht.typeIs PyProof.Rows.slot_tuple_getitem
    (wpAny_call_entry PyProof.Rows.slot_tuple_getitem ht.typeIs entry_tuple_getitem ?_ (args_tuple_getitem _ _)))
  show wpAny _ _ (Builtin.Tuple.tupleItemsOf (.ref t) >>= _) _ _ s
  refine wpAny_bind (tupleItemsOf_ ht ?_)
  refine wpAny_bind (wpAny_typeOf hTs ?_)
  rw [if_pos (by decide)]
  have hap : ∀ {R : Int × Int × Nat → Shared → Prop}, R ((items.size : Int) - 1, -1, items.size) s → wpAny (model prog w) A.in1 (Builtin.Slice.sliceApplied (.ref sl) (pure (items.size : Int))) R E s := by
    intro R hR
    unfold Builtin.Slice.sliceApplied Builtin.Slice.sliceFields
    refine wpAny_bind (wpAny_bind (wpAny_field hos hds (x := .none) rfl (wpAny_bind (wpAny_field hos hds (x := .none) rfl (wpAny_bind (wpAny_field hos hds (x := .int (-1) u) rfl (wpAny_pure ?_)))))))
    refine wpAny_bind (slicePart_ (.int (-1) u) ?_)
    show wpAny _ _ (if ((-1 : Int) == 0) = true then _ else _) _ _ s
    rw [if_neg (by decide)]
    refine wpAny_bind (slicePart_ .none (wpAny_bind (slicePart_ .none (wpAny_bind (wpAny_pure ?_)))))
    show wpAny _ _ (match Builtin.Slice.sliceAdjust none none (-1) (items.size : Int) with | (lo, hi) => pure (lo, (-1 : Int), Builtin.Slice.slicePlaces lo hi (-1))) _ _ s
    have e1 : Builtin.Slice.sliceAdjust none none (-1) (items.size : Int) = ((items.size : Int) - 1, -1) := by
      unfold Builtin.Slice.sliceAdjust
      simp
    rw [e1]
    show wpAny _ _ (pure ((items.size : Int) - 1, (-1 : Int), Builtin.Slice.slicePlaces ((items.size : Int) - 1) (-1) (-1))) _ _ s
    have e2 : Builtin.Slice.slicePlaces ((items.size : Int) - 1) (-1) (-1) = items.size := by
      unfold Builtin.Slice.slicePlaces
      simp
      omega
    rw [e2]
    exact wpAny_pure hR
  refine wpAny_bind (hap ?_)
  have hno : ¬ ((((items.size : Int) - 1) == 0 && (-1 : Int) == 1 && items.size == items.size) = true) := by simp
  show wpAny _ _ (if (((items.size : Int) - 1) == 0 && (-1 : Int) == 1 && items.size == items.size) = true then _ else _) _ _ s
  rw [if_neg hno, rev_pick]
  have htake : sizeOk (.seq items.toList.reverse.toArray) := by
    show items.toList.reverse.toArray.size ≤ sizeLine
    rw [List.size_toArray, List.length_reverse, Array.length_toList]
    exact hsz
  first
    | exact wpAny_bind (m := Builtin.Tuple.tupleExact _) (wpAny_newObj_type (wpAny_pure ⟨_, rfl, wpAny_pure h⟩) htake)
    | exact wpAny_bind (m := Builtin.Tuple.tupleExact _) (wpAny_newObj_type (wpAny_bind (wpAny_pure (wpAny_pure ⟨_, rfl, wpAny_pure h⟩))) htake)
    | exact wpAny_bind (wpAny_bind (m := Builtin.Tuple.tupleExact _) (wpAny_newObj_type (wpAny_pure (wpAny_pure ⟨_, rfl, wpAny_pure h⟩)) htake))
    | exact wpAny_bind (wpAny_bind (m := Builtin.Tuple.tupleExact _) (wpAny_newObj_type (wpAny_pure ⟨_, rfl, wpAny_pure h⟩) htake))
end

section
variable {X : Cx} {xi : XI} {W : WX} {lv : Nat}
theorem SqT.listV {K : PySem.W.Frag} {H : Hp} {a : Addr} {xs : List V} (h : SqT K H a xs) : SqT K H a xs := h

def tRevT (K : PySem.W.Frag) (te : TE) : TE := fun σ H Q => te σ H fun x H1 => ∃ a xs, x = .ref a ∧ SqT K H1 a xs ∧ ∀ p, H1 p = none → Q (.ref p) (upd H1 p (.tup xs.reverse))
theorem Vals.rev {xs : List V} {us : List Value} (r : Vals xs us) : Vals xs.reverse us.reverse := by
  induction xs generalizing us with
  | nil => cases r; exact .nil
  | cons x xs ih =>
    cases r with
    | cons r t =>
      rw [List.reverse_cons, List.reverse_cons]
      exact (ih t).append (.cons r .nil)
theorem pe_revT {e : Expr} {te : TE} {k : Nat} {p1 p2 p3 pos : Pos} (he : PE X e te) : PE X (.Subscript e (.Slice none none (some (.UnaryOp .USub (.Constant (.int 1) k p1) p2)) p3) pos) (tRevT X.K te) := by
  refine ⟨fun pins s σ H Q I h => ?_⟩
  refine PyProof.Rows.Subscript_ (thn (he.run pins s σ H _ I h) fun v s1 ⟨x, H1, I1, r1, q1⟩ => ?_)
  obtain ⟨a, xs, ex, hx, q⟩ := q1
  subst ex
  cases r1
  have hst : PO X (some (.UnaryOp .USub (.Constant (.int 1) k p1) p2)) (tPart (tUn (rU fun i => .int (-i)) (tC (.int 1)))) := po_some (pe_un un_neg pe_int)
  refine wpAny_Slice (thn (po_none.run pins s1 σ H1 (fun o H2 => o = none ∧ H2 = H1) I1 ⟨rfl, rfl⟩) fun vl s2 ⟨l, H2, I2, pl, el, e2⟩ => ?_)
  subst el e2
  refine thn (po_none.run pins s2 σ H2 (fun o H3 => o = none ∧ H3 = H2) I2 ⟨rfl, rfl⟩) fun vu s3 ⟨u, H3, I3, pu, eu, e3⟩ => ?_
  subst eu e3
  refine thn (hst.run pins s3 σ H3 (fun o H4 => o = some (-1) ∧ H4 = H3) I3 ⟨1, rfl, -1, rfl, rfl, rfl⟩) fun vs s4 ⟨o, H4, I4, ps, eo, e4⟩ => ?_
  subst eo e4
  have I5 : Inv X pins σ H4 { s4 with heap := s4.heap.push { cls := .type "slice", data := .fields #[vl, vu, vs] } } := I4.kept (t' := s4.toks) fun b ob q => Heap.get?_push_of_some _ q
  obtain ⟨its, r, ht, hz⟩ := I5.tuple hx
  have hlen := r.length
  show wpAny (model X.prog X.w) X.A (PyProof.Rows.subscriptTail e (.Slice none none (some (.UnaryOp .USub (.Constant (.int 1) k p1) p2)) p3) (.ref a) (.ref s4.heap.objs.size)) (EP X pins σ Q) X.xe { s4 with heap := s4.heap.push { cls := .type "slice", data := .fields #[vl, vu, vs] } }
  refine PyProof.Rows.tail_any (ops := [.ref a, .ref s4.heap.objs.size]) ht.typeIs (PyProof.Rows.slot_tuple_getitem.lookup) ?_ (by with_unfolding_all rfl)
  cases pl
  cases pu
  cases ps
  refine getItem_tuple_rev ht (Heap.IsSliceOf.new _ _ _ _) ?_ (by rw [List.size_toArray]; omega)
  refine ⟨.ref _, _, I5.laid (t' := s4.toks) (o := .tup xs.reverse) (fun b ob q => Heap.get?_push_of_some _ q) (Nat.le_refl _) ?_, rfl, q _ (I5.hok.fresh (Nat.le_refl _))⟩
  exact ⟨by rw [List.length_reverse]; exact hz, _, Vals.rev r, PyProof.Rows.IsTup.new _ _⟩

theorem snd_rev {a : Expr} {ra : Env → Res Ar} {i : Int} {k : Nat} {p1 p2 p3 pos : Pos} (hi : i = 1) (ha : Snd X xi W a ra) :
    Snd X xi W (.Subscript a (.Slice none none (some (.UnaryOp .USub (.Constant (.int i) k p1) p2)) p3) pos) (fun env => (ra env).bind fun x env => match use env x with
      | some (.tup xs) => .ok (.val (.d (.tup xs.reverse))) env
      | _ => .bad) := by
  subst hi
  refine Snd.of_pe rfl (impE (pe_revT ha.pe) fun σ H Q q => ?_)
  refine bindF (R1 := RAr) (R2 := RAr) q fun Hf L a env1 v T1 Hf1 H1 L1 r1 sl1 st1 fam1 fin => ?_
  cases e : use env1 a with
  | none => rw [e] at fin; exact fin.elim
  | some d =>
    cases d <;> first | (rw [e] at fin; exact fin.elim) | skip
    rw [e] at fin
    obtain ⟨p, vs, rfl, hp, l⟩ := (use_view r1 (fun _ h => h) sl1 fam1 e).tup' st1.sub
    exact ⟨p, vs, rfl, hp, fun q hq => fin_tup fin sl1 st1 fam1 l.reverse hq⟩

/-! ### built-in functions of one operand -/
/-- one operand, then what the function asks -/
theorem one1 {ra : Env → Res Ar} {f : D → Option PyEv.W} {r : V → Hp → VK → Prop} {σ : St} {H : Hp} {Q : VK}
    (h : tG X.K X.w xi W RAr (fun env => (ra env).bind fun x env => match use env x with
      | some dx => Res.of ((f dx).map .val) env
      | none => .bad) σ H Q)
    (op : ∀ Hf L d y env v T Hf2 H2 L2, Sl env σ L2 → Step Hf H L Hf2 H2 (T ++ L2) → Fam X.K X.w Hf2 H2 (T ++ L2) → View X.K X.w Hf2 H2 d v → f d = some y → Fin X.K X.w xi W RAr σ Hf H L (.ok (.val y) env) Q → r v H2 Q) :
    tG X.K X.w xi W RAr ra σ H (fun v H1 => r v H1 Q) := by
  refine bindF (R1 := RAr) (R2 := RAr) h fun Hf L x env1 v T1 Hf1 H1 L1 r1 sl1 st1 fam1 fin => ?_
  cases e : use env1 x with
  | none => simp only [e] at fin; exact fin.elim
  | some d =>
    simp only [e] at fin
    cases ef : f d with
    | none => rw [ef] at fin; exact fin.elim
    | some y =>
      rw [ef] at fin
      exact op Hf L d y env1 v T1 Hf1 H1 L1 sl1 st1 fam1 (use_view r1 (fun _ h => h) sl1 fam1 e) ef fin

def rRepr (K : PySem.W.Frag) : List V → Hp → VK → Prop := fun xs H Q => ∃ x p, xs = [x] ∧ Dp K H x p ∧ p.showable = true ∧ p.shown.length ≤ sizeLine ∧ p.depth ≤ 150 ∧ p.hasDict = false ∧ Q (.str p.shown) H
theorem call_reprD (hg : X.A.guards = some []) (hu : X.A.units + 152 < cLine) : CallR X (.builtin "repr") (rRepr X.K) := by
  intro pins s σ H xs us Q I r h
  obtain ⟨x, p, rfl, hd, h1, h2, h3, h4, q⟩ := h
  obtain ⟨u, rfl, ru⟩ := vals1 r
  obtain ⟨as, rd⟩ := Dp.reads I p x u hd ru
  have rf : ∀ a, u = .ref a → wpAny (model X.prog X.w) X.A (call (.builtin "repr") [u]) (EP X pins σ Q) X.xe s := fun a e => by
    subst e
    exact repr_of_reads' rd h1 (PyData.noDict_hsm h4) hg (by omega) (fun _ _ e => e) (fun h' u tk hk => ⟨.str p.shown, H, I.kept (h' := h') (t' := tk) hk, ⟨u, rfl⟩, q⟩) h2
  cases rd with
  | none => exact PySem.P.repr_of_none ⟨.str _, H, I.tok _, ⟨_, rfl⟩, q⟩
  | bool b => exact PySem.P.repr_of_bool ⟨.str _, H, I.tok _, ⟨_, rfl⟩, q⟩
  | int i t => exact PySem.P.repr_of_int (of_decide_eq_true h1) ⟨.str _, H, I.tok _, ⟨_, rfl⟩, q⟩
  | str z t => exact PySem.P.repr_of_str ⟨.str _, H, I.tok _, ⟨_, rfl⟩, q⟩ h2
  | list => exact rf _ rfl
  | tuple => exact rf _ rfl
  | dict => exact rf _ rfl

def biV : Bi → Value
  | .len => .builtin "len"
  | .tuple => .type "tuple"
  | .list => .type "list"
  | .all => .builtin "all"
  | .any => .builtin "any"
  | .repr => .builtin "repr"
  | .abs => .builtin "abs"
  | .int => .type "int"
def rBi (K : PySem.W.Frag) : Bi → List V → Hp → VK → Prop
  | .len => fun xs H Q => (∃ p ys, xs = [.ref p] ∧ (SqL K H p ys ∨ SqT K H p ys) ∧ Q (.int ys.length) H) ∨ (∃ z, xs = [.str z] ∧ z.length ≤ sizeLine ∧ Q (.int z.length) H)
  | .tuple => fun xs H Q => ∃ p ys, xs = [.ref p] ∧ ((SqL K H p ys ∧ ∀ l, H l = none → Q (.ref l) (upd H l (.tup ys))) ∨ (SqT K H p ys ∧ Q (.ref p) H))
  | .list => fun xs H Q => ∃ p ys, xs = [.ref p] ∧ (SqL K H p ys ∨ SqT K H p ys) ∧ ∀ l, H l = none → Q (.ref l) (upd H l (.lst ys))
  | .all => rAll K
  | .any => rAny K
  | .repr => rRepr K
  | .abs => fun xs H Q => ∃ i, xs = [.int i] ∧ Q (.int (if i < 0 then -i else i)) H
  | .int => fun xs H Q => (∃ i, xs = [.int i] ∧ Q (.int i) H) ∨ ∃ k, xs = [.bl k] ∧ Q (.int (if k then 1 else 0)) H
theorem call_bi (c : CxOk X lv) (f : Bi) : CallR X (biV f) (rBi X.K f) := by
  cases f with
  | len => exact call_len_seq.or call_len_str
  | tuple => exact call_tuple_of
  | list => exact call_list_of
  | all => exact cr_all c.calm
  | any => exact cr_any c.calm
  | repr => exact call_reprD c.guards (by have := c.room.un; omega)
  | abs => exact call_abs
  | int => exact call_int1
theorem allBl_den {K : PySem.W.Frag} {w : World} {Hf : Hp} : ∀ {ds : List D} {vs : List V} {bs : List Bool}, DenL K w Hf ds vs → allBl ds = some bs → vs = bs.map V.bl
  | _, _, bs, .nil, e => by cases e; rfl
  | _, _, bs, .cons (d := d) (ds := ds) a b, e => by
    cases a <;> first | (cases e; done) | skip
    rename_i k
    have e' : (allBl ds).map (k :: ·) = some bs := e
    cases h : allBl ds with
    | none => rw [h] at e'; cases e'
    | some cs => rw [h] at e'; cases e'; rw [allBl_den b h]; rfl

theorem bi_fin {f : Bi} {σ : St} {Hf H Hf1 H1 : Hp} {L M L1 : List WV} {env1 : Env} {Q : VK} {d : D} {v : V} {y : PyEv.W} (sl : Sl env1 σ L1) (st : Step Hf H L Hf1 H1 (M ++ L1)) (fam : Fam X.K X.w Hf1 H1 (M ++ L1)) (vw : View X.K X.w Hf1 H1 d v) (e : biF f d = some y)
    (fin : Fin X.K X.w xi W RAr σ Hf H L (.ok (.val y) env1) Q) : rBi X.K f [v] H1 Q := by
  have int : ∀ {i : Int}, y = .d (.int i) → Q (.int i) H1 := fun ey => by subst ey; exact fin_d fin sl st fam (.int _)
  cases f with
  | len =>
    cases d <;> first | (cases e; done) | skip
    · rename_i z
      by_cases hz : z.length ≤ line
      · rw [show biF .len (.str z) = some (.d (.int z.length)) from if_pos hz] at e
        exact .inr ⟨z, by rw [vw.str], hz, int (Option.some.inj e).symm⟩
      · rw [show biF .len (.str z) = none from if_neg hz] at e; cases e
    · obtain ⟨p, vs, rfl, hp, l⟩ := vw.tup' st.sub
      exact .inl ⟨p, vs, rfl, .inr hp, by rw [← l.length]; exact int (Option.some.inj e).symm⟩
    · obtain ⟨p, vs, rfl, hp, l⟩ := vw.lst' st.sub
      exact .inl ⟨p, vs, rfl, .inl (SqL.of hp), by rw [← l.length]; exact int (Option.some.inj e).symm⟩
    · rename_i ns
      obtain ⟨p, rfl, hp⟩ := vw.scr' st.sub
      refine .inl ⟨p, _, rfl, .inl hp, ?_⟩
      rw [List.length_map]
      exact int (Option.some.inj e).symm
  | tuple =>
    cases d <;> first | (cases e; done) | skip
    · obtain rfl := Option.some.inj e
      cases vw with
      | den dn =>
        cases dn with
        | tup hp l => exact ⟨_, _, rfl, .inr ⟨SqT.same st.sub hp, fin_d fin sl st fam (.tup hp l)⟩⟩
    · obtain rfl := Option.some.inj e
      obtain ⟨p, vs, rfl, hp, l⟩ := vw.lst' st.sub
      exact ⟨p, vs, rfl, .inl ⟨SqL.of hp, fun q hq => fin_tup fin sl st fam l hq⟩⟩
  | list =>
    cases d <;> first | (cases e; done) | skip
    · obtain rfl := Option.some.inj e
      obtain ⟨p, vs, rfl, hp, l⟩ := vw.tup' st.sub
      exact ⟨p, vs, rfl, .inr hp, fun q hq => fin_lst fin sl st fam l hq⟩
    · obtain rfl := Option.some.inj e
      obtain ⟨p, vs, rfl, hp, l⟩ := vw.lst' st.sub
      exact ⟨p, vs, rfl, .inl (SqL.of hp), fun q hq => fin_lst fin sl st fam l hq⟩
  | all =>
    cases d <;> first | (cases e; done) | skip
    rename_i xs
    obtain ⟨p, vs, rfl, hp, l⟩ := vw.lst' st.sub
    have e' : (allBl xs).map (fun bs => PyEv.W.d (.bl (bs.all id))) = some y := e
    cases h : allBl xs with
    | none => rw [h] at e'; cases e'
    | some bs =>
      rw [h] at e'
      obtain rfl := Option.some.inj e'
      obtain rfl := allBl_den l h
      exact ⟨p, bs, rfl, SqL.of hp, fin_bl fin sl st fam⟩
  | any =>
    cases d <;> first | (cases e; done) | skip
    rename_i xs
    obtain ⟨p, vs, rfl, hp, l⟩ := vw.lst' st.sub
    have e' : (allBl xs).map (fun bs => PyEv.W.d (.bl (bs.any id))) = some y := e
    cases h : allBl xs with
    | none => rw [h] at e'; cases e'
    | some bs =>
      rw [h] at e'
      obtain rfl := Option.some.inj e'
      obtain rfl := allBl_den l h
      exact ⟨p, bs, rfl, SqL.of hp, fin_bl fin sl st fam⟩
  | repr =>
    have e' : (reprF d).map PyEv.W.d = some y := by cases d <;> exact e
    unfold reprF at e'
    cases h : d.py with
    | none => rw [h] at e'; cases e'
    | some p =>
      simp only [h] at e'
      by_cases hc : (p.showable && decide (p.shown.length ≤ line) && decide (p.depth ≤ 150) && !p.hasDict) = true
      · rw [if_pos hc] at e'
        simp only [Bool.and_eq_true, decide_eq_true_eq, Bool.not_eq_true'] at hc
        obtain rfl := Option.some.inj e'
        exact ⟨v, p, rfl, vw.dp st.sub h, hc.1.1.1, hc.1.1.2, hc.1.2, hc.2, fin_d fin sl st fam (.str _)⟩
      · rw [if_neg hc] at e'; cases e'
  | abs =>
    cases d <;> first | (cases e; done) | skip
    exact ⟨_, by rw [vw.int], int (Option.some.inj e).symm⟩
  | int =>
    cases d <;> first | (cases e; done) | skip
    · exact .inr ⟨_, by rw [vw.bl], int (Option.some.inj e).symm⟩
    · exact .inl ⟨_, by rw [vw.int], int (Option.some.inj e).symm⟩
theorem boot_bi (f : Bi) : bootBuiltins (Str.ofString (biName f)) = some (biV f) := by cases f <;> decide +kernel
theorem biName_in (f : Bi) : biName f ∈ bltNames := by cases f <;> decide
theorem biName_ok (f : Bi) : Str.ofString (biName f) ≠ "__name__" ∧ (Str.ofString (biName f) == ("__debug__" : Str)) = false := by cases f <;> exact ⟨by decide, by decide⟩
theorem snd_bi (c : CxOk X lv) {nm : Nms} (n : NmOk X nm) {f : Bi} {x : Str} {a : Expr} {ra : Env → Res Ar} {p pos : Pos} (hx : Str.ofString (biName f) = x) (hg : glB nm x = true) (hp : plainX a = true) (ha : Snd X xi W a ra) :
    Snd X xi W (.Call (.Name x p) [a] [] pos) (fun env => (ra env).bind fun x env => match use env x with
      | some dx => Res.of ((biF f dx).map .val) env
      | none => .bad) := by
  subst hx
  obtain ⟨n1, n2⟩ := biName_ok f
  have hs := starEach_plain (xs := []) (env := X.env) hp
  have pe : PE X (.Call (.Name (Str.ofString (biName f)) p) [a] [] pos) (tCB (rBi X.K f) (tCons (tG X.K X.w xi W RAr ra) tNil)) := by
    have h := call_bi c f
    have hb := boot_bi f
    cases f <;> first
      | exact pe_callB h (n.gl _ hg) (c.blt _ (biName_in _)) hb (pa_cons ha.pe pa_nil hs) n1 n2 hs rfl
      | exact pe_callTy h (n.gl _ hg) (c.blt _ (biName_in _)) hb (pa_cons ha.pe pa_nil hs) n1 n2 hs rfl
  exact Snd.of_pe rfl (impE pe fun σ H Q q => one1 (r := fun v H Q => rBi X.K f [v] H Q) q fun Hf L d y env v T Hf2 H2 L2 sl st fam vw e fin => bi_fin sl st fam vw e fin)
end
end PyEv

set_option maxRecDepth 100000
set_option maxHeartbeats 2000000
/-! PyB7: max, min, isinstance, subscripts, slices, methods that change, displays of dicts, list(range(..)). -/
namespace PyEv
open PySem L2
section
variable {X : Cx} {xi : XI} {W : WX} {lv : Nat}

theorem arg2 {σ : St} {H : Hp} {Q : VK} {ta tb : TE} {r : List V → Hp → VK → Prop} (h : tOp (fun x y H Q => r [x, y] H Q) ta tb σ H Q) : tCB r (tCons ta (tCons tb tNil)) σ H Q := h

/-! ### max(a, b), min(a, b) -/
def rMM (mx : Bool) : List V → Hp → VK → Prop := fun xs H Q => ∃ i j, xs = [.int i, .int j] ∧ Q (.int (if mx = true then (if j > i then j else i) else (if j < i then j else i))) H
theorem call_mm (c : CxOk X lv) (mx : Bool) : CallR X (.builtin (if mx = true then "max" else "min")) (rMM mx) := by
  cases mx with
  | true => exact fun pins s σ H xs us Q I r ⟨i, j, e, q⟩ => call_max2 c.calm pins s σ H xs us Q I r ⟨i, j, e, q⟩
  | false => exact fun pins s σ H xs us Q I r ⟨i, j, e, q⟩ => call_min2 c.calm pins s σ H xs us Q I r ⟨i, j, e, q⟩
theorem snd_mm (c : CxOk X lv) {nm : Nms} (n : NmOk X nm) {mx : Bool} {x : Str} {a b : Expr} {ra rb : Env → Res Ar} {p pos : Pos} (hx : Str.ofString (if mx = true then "max" else "min") = x) (hg : glB nm x = true) (hp : plainX a = true) (hp2 : plainX b = true)
    (ha : Snd X xi W a ra) (hb : Snd X xi W b rb) : Snd X xi W (.Call (.Name x p) [a, b] [] pos) (fun env => (ra env).bind fun x env => (rb env).bind fun y env => match use env x, use env y with
      | some (.int i), some (.int j) => .ok (.val (.d (.int (if mx = true then (if j > i then j else i) else (if j < i then j else i))))) env
      | _, _ => .bad) := by
  subst hx
  have hs := starEach_plain (xs := [b]) (env := X.env) hp
  have hs2 := starEach_plain (xs := []) (env := X.env) hp2
  have pe : PE X (.Call (.Name (Str.ofString (if mx = true then "max" else "min")) p) [a, b] [] pos) (tCB (rMM mx) (tCons (tG X.K X.w xi W RAr ra) (tCons (tG X.K X.w xi W RAr rb) tNil))) := by
    have h := call_mm c mx
    have hpl : (backTo pos (starEach [b] X.env)).any (·.1) = false := by rw [hs2]; rfl
    cases mx with
    | true => exact pe_callB h (n.gl _ hg) (c.blt "max" (by decide)) (by decide +kernel) (pa_cons ha.pe (pa_cons hb.pe pa_nil hs2) hs) (by decide) (by decide) hs hpl
    | false => exact pe_callB h (n.gl _ hg) (c.blt "min" (by decide)) (by decide +kernel) (pa_cons ha.pe (pa_cons hb.pe pa_nil hs2) hs) (by decide) (by decide) hs hpl
  refine Snd.of_pe rfl (impE pe fun σ H Q q => arg2 (two q fun Hf L x y env vx vy T Hf2 H2 L2 sl st fam vwx vwy fin => ?_))
  cases ex : use env x with
  | none => simp only [ex] at fin; exact fin.elim
  | some dx =>
    cases ey : use env y with
    | none => cases dx <;> (simp only [ex, ey] at fin; exact fin.elim)
    | some dy =>
      cases dx <;> first | (simp only [ex, ey] at fin; exact fin.elim) | skip
      cases dy <;> first | (simp only [ex, ey] at fin; exact fin.elim) | skip
      simp only [ex, ey] at fin
      exact ⟨_, _, by rw [(vwx _ ex).int, (vwy _ ey).int], fin_d fin sl st fam (.int _)⟩

/-! ### isinstance -/
def tyT : D → String
  | .non => "NoneType"
  | .bl _ => "bool"
  | .int _ => "int"
  | .str _ => "str"
  | .tup _ => "tuple"
  | .lst _ => "list"
  | .dct .. => "dict"
  | _ => ""
theorem View.ty {Hf H : Hp} {d : D} {v : V} (h : View X.K X.w Hf H d v) (s : Same Hf H) (hd : ∀ ns, d ≠ .scr ns) : TyX X.K H v (.type (tyT d)) := by
  cases h with
  | lst e _ => exact .base (.lst e)
  | dct e _ _ => exact .base (.dK e)
  | den h =>
    cases h with
    | non => exact .base .non
    | bl b => exact .base (.bl b)
    | int i => exact .base (.int i)
    | str z => exact .base (.str z)
    | tup e _ =>
      rcases e with (e | ⟨o, e⟩) | ⟨o, _, _, e, c, _⟩
      · exact .base (.tup (s _ _ e))
      · exact .fTuple (s _ _ e)
      · exact .kTuple e c
    | lst e _ => exact .base (.lst (s _ _ e))
    | dct e _ _ => exact .base (.dK (s _ _ e))
    | kdct kd _ =>
      obtain ⟨es, n, k⟩ := kd.ex
      exact .kDict k.at_ rfl
    | scr e => exact absurd rfl (hd _)
theorem isTy_kit {K : PySem.W.Frag} {d : D} {t : Ty} {b : Bool} (e : d.isTy t = some b) : PySem.W.kitOne K (.type (tyT d)) (.type (tyName t)) = some b := by
  cases t <;> cases d <;> first
    | (cases e; done)
    | (obtain rfl := Option.some.inj e; exact kit_ty (by kernel_rfl))
theorem isTy_scr {d : D} {t : Ty} {b : Bool} (e : d.isTy t = some b) : ∀ ns, d ≠ .scr ns := by
  intro ns h
  subst h
  cases t <;> cases e
theorem snd_isi (c : CxOk X lv) {nm : Nms} (n : NmOk X nm) {t : Ty} {x y : Str} {a : Expr} {ra : Env → Res Ar} {p p2 pos : Pos} (hx : Str.ofString "isinstance" = x) (hg : glB nm x = true) (hp : plainX a = true) (hy : Str.ofString (tyName t) = y) (hgy : glB nm y = true)
    (ha : Snd X xi W a ra) : Snd X xi W (.Call (.Name x p) [a, .Name y p2] [] pos) (fun env => (ra env).bind fun x env => match use env x with
      | some dx => Res.of ((dx.isTy t).map fun b => .val (.d (.bl b))) env
      | none => .bad) := by
  subst hx hy
  have hs := starEach_plain (xs := [.Name (Str.ofString (tyName t)) p2]) (env := X.env) hp
  have pt : PE X (.Name (Str.ofString (tyName t)) p2) (tC (.ty (tyName t))) := by
    cases t <;> exact pe_bltn (n.gl _ hgy) (c.blt _ (by decide)) (by decide +kernel) rfl (by decide) (by decide)
  refine Snd.of_pe rfl (impE (pe_callB call_isi (n.gl _ hg) (c.blt "isinstance" (by decide)) (by decide +kernel) (pa_cons ha.pe (pa_cons pt pa_nil) hs) (by decide) (by decide) hs rfl) fun σ H Q q => ?_)
  have q' : tG X.K X.w xi W RAr (fun env => (ra env).bind fun x env => match use env x with
      | some dx => Res.of (((dx.isTy t).map fun b => PyEv.W.d (.bl b)).map Ar.val) env
      | none => .bad) σ H Q := tG_congr (fun env => by
    congr 1
    funext x e
    cases use e x with
    | none => rfl
    | some d =>
      show Res.of ((d.isTy t).map fun b => Ar.val (PyEv.W.d (.bl b))) e = Res.of (((d.isTy t).map fun b => PyEv.W.d (.bl b)).map Ar.val) e
      rw [Option.map_map]
      rfl) q
  refine one1 (f := fun d => (d.isTy t).map fun b => PyEv.W.d (.bl b)) (r := fun v H Q => rIsi X.K [v, .ty (tyName t)] H Q) q' fun Hf L d y env v T Hf2 H2 L2 sl st fam vw e fin => ?_
  cases eb : d.isTy t with
  | none => rw [eb] at e; cases e
  | some b =>
    rw [eb] at e
    obtain rfl := Option.some.inj e
    exact ⟨v, _, _, _, b, rfl, .ty _, vw.ty st.sub (isTy_scr eb), isTy_kit eb, fin_bl fin sl st fam⟩

/-! ### a[i] -/
theorem plainIx_of {b : Expr} (h : notSl b = true) : PlainIx b := by
  cases b <;> first | exact fun _ _ => rfl | cases h
def rIxAll (K : PySem.W.Frag) (w : World) : R2 := fun x y H Q => rIx K x y H Q ∨ ((∃ a z v, x = .ref a ∧ y = .str z ∧ DGet H a y (some v) ∧ Q v H) ∨ rIxD K w x y H Q)
theorem ix_d1 (hu : X.A.units + 1 < cLine) : IxR X (fun x y H Q => ∃ a z v, x = .ref a ∧ y = .str z ∧ DGet H a y (some v) ∧ Q v H) := by
  intro value slice pins s σ H x y v u Q I rx ry h hs
  obtain ⟨a, z, v0, rfl, rfl, g, q⟩ := h
  obtain rfl : v = Value.ref a := rx
  have hd : IsD H a := by
    rcases g with ⟨kvs, k, e, _⟩ | ⟨kvs, k, b, e, _⟩
    · exact .inl ⟨_, e⟩
    · exact .inr ⟨_, e⟩
  obtain ⟨ty, _, _⟩ := isD_at I hd
  exact PyProof.Rows.tail_any ty PySem.slot_dict_getitem.lookup (d_getItem hu I g ry fun w' s' I' rw' => ⟨v0, H, I', rw', q⟩) hs
theorem ix_all (c : CxOk X lv) : IxR X (rIxAll X.K X.w) := ix_seq.or ((ix_d1 (by have := c.room.un; omega)).or ix_kdict)
theorem atI_den {K : PySem.W.Frag} {w : World} {Hf : Hp} {ds : List D} {vs : List V} {i : Int} {d : D} (l : DenL K w Hf ds vs) (e : atI ds i = some d) : ∃ v, atI vs i = some v ∧ Den K w Hf d v := by
  unfold atI at e ⊢
  rw [← l.length]
  cases h : ixN ds.length i with
  | none => rw [h] at e; cases e
  | some j => rw [h] at e; exact l.get e
theorem atI_map {α β : Type} (f : α → β) {xs : List α} {i : Int} : atI (xs.map f) i = (atI xs i).map f := by
  unfold atI
  rw [List.length_map]
  cases ixN xs.length i with
  | none => rfl
  | some j => show (xs.map f)[j]? = _; rw [List.getElem?_map]; rfl
theorem look_den {K : PySem.W.Frag} {w : World} {Hf : Hp} : ∀ {ks : List Str} {ds : List D} {us : List V} {x : Str} {d : D}, DenL K w Hf ds us → (ks.zip ds).lookup x = some d → ∃ v, (ks.zip us).lookup x = some v ∧ Den K w Hf d v
  | [], _, _, _, _, _, e => by cases e
  | _ :: _, [], _, _, _, _, e => by cases e
  | k :: ks, _ :: _, _, x, d, .cons a b, e => by
    rw [List.zip_cons_cons, List.lookup_cons] at e ⊢
    cases h : x == k
    · rw [h] at e; exact look_den b e
    · rw [h] at e; cases e; exact ⟨_, rfl, a⟩
theorem ix_fin {σ : St} {Hf H Hf1 H1 : Hp} {L M L1 : List WV} {env1 : Env} {Q : VK} {dx dy d : D} {vx vy : V}
    (sl : Sl env1 σ L1) (st : Step Hf H L Hf1 H1 (M ++ L1)) (fam : Fam X.K X.w Hf1 H1 (M ++ L1)) (vwx : View X.K X.w Hf1 H1 dx vx) (vwy : View X.K X.w Hf1 H1 dy vy) (e : ixF dx dy = some d)
    (fin : Fin X.K X.w xi W RAr σ Hf H L (.ok (.val (.d d)) env1) Q) : rIxAll X.K X.w vx vy H1 Q := by
  cases dx <;> cases dy <;> first | (cases e; done) | skip
  · rename_i z i
    by_cases hz : z.length ≤ line
    · have e' : (atI z.cps.toList i).map (fun c => D.str ⟨#[c]⟩) = some d := by rw [← show ixF (.str z) (.int i) = _ from if_pos hz]; exact e
      cases h : atI z.cps.toList i with
      | none => rw [h] at e'; cases e'
      | some k =>
        rw [h] at e'
        obtain rfl := Option.some.inj e'
        exact .inl (.inr (.inr ⟨z, i, k, vwx.str, vwy.int, hz, h, fin_d fin sl st fam (.str _)⟩))
    · rw [show ixF (.str z) (.int i) = none from if_neg hz] at e; cases e
  · obtain ⟨p, vs, rfl, hp, l⟩ := vwx.tup' st.sub
    obtain ⟨v, h1, h2⟩ := atI_den l e
    exact .inl (.inr (.inl ⟨p, vs, _, v, rfl, vwy.int, hp, h1, fin_d fin sl st fam h2⟩))
  · obtain ⟨p, vs, rfl, hp, l⟩ := vwx.lst' st.sub
    obtain ⟨v, h1, h2⟩ := atI_den l e
    exact .inl (.inl ⟨p, vs, _, v, rfl, vwy.int, SqL.of hp, h1, fin_d fin sl st fam h2⟩)
  · rename_i ks ds z
    obtain rfl := vwy.str
    have trk : ∀ (a : Addr) (kvs : List (Key × V)), vx = .ref a → H1 a = some (.dK kvs) → kvs.map (·.1) = ks.map Sum.inr → DenL X.K X.w Hf1 ds (kvs.map (·.2)) → rIxAll X.K X.w vx (.str z) H1 Q := fun a kvs ex hh hk l => by
      subst ex
      obtain ⟨v, h1, h2⟩ := look_den l e
      have g : DGet H1 a (.str z) (valV kvs (Sum.inr z)) := DGet.k (k := Sum.inr z) hh
      rw [kvs_look hk, h1] at g
      exact .inr (.inl ⟨a, z, v, rfl, rfl, g, fin_d fin sl st fam h2⟩)
    cases vwx with
    | den dn =>
      cases dn with
      | dct hh hk l => exact trk _ _ rfl (st.sub _ _ hh) hk l
      | @kdct a _ _ us kd l =>
        obtain ⟨v, h1, h2⟩ := look_den l e
        obtain ⟨u, hu, ru⟩ := kd.yes z v h1
        obtain ⟨es, n, k⟩ := kd.ex
        exact .inr (.inr ⟨a, z, v, rfl, rfl, ⟨es, n, u, k.at_, k.lit, hu, ru⟩, fin_d fin sl st fam h2⟩)
    | dct hh hk l => exact trk _ _ rfl hh hk l
  · rename_i ns i
    obtain ⟨p, rfl, hp⟩ := vwx.scr' st.sub
    have e' : (atI ns i).map D.int = some d := e
    cases h : atI ns i with
    | none => rw [h] at e'; cases e'
    | some k =>
      rw [h] at e'
      obtain rfl := Option.some.inj e'
      exact .inl (.inl ⟨p, _, i, .int k, rfl, vwy.int, hp, by rw [atI_map, h]; rfl, fin_d fin sl st fam (.int _)⟩)
theorem snd_ix (c : CxOk X lv) {a i : Expr} {ra rb : Env → Res Ar} {pos : Pos} (hi : notSl i = true) (ha : Snd X xi W a ra) (hb : Snd X xi W i rb) :
    Snd X xi W (.Subscript a i pos) (fun env => (ra env).bind fun x env => (rb env).bind fun y env => match use env x, use env y with
      | some dx, some dy => Res.of ((ixF dx dy).map fun d => .val (.d d)) env
      | _, _ => .bad) := by
  refine Snd.of_pe rfl (impE (pe_ix (ix_all c) ha.pe hb.pe (plainIx_of hi)) fun σ H Q q => two q fun Hf L x y env vx vy T Hf2 H2 L2 sl st fam vwx vwy fin => ?_)
  cases ex : use env x with
  | none => simp only [ex] at fin; exact fin.elim
  | some dx =>
    cases ey : use env y with
    | none => simp only [ex, ey] at fin; exact fin.elim
    | some dy =>
      simp only [ex, ey] at fin
      cases ec : ixF dx dy with
      | none => rw [ec] at fin; exact fin.elim
      | some d =>
        rw [ec] at fin
        exact ix_fin sl st fam (vwx dx ex) (vwy dy ey) ec fin

/-! ### a[lo:hi] -/
def RP : RR (Option Int) (Option Int) := fun _ _ a b T => a = b ∧ T = []
theorem po_of {lo : E} {l : Option Expr} {rl : Env → Res Ar} (h : match l with | none => lo.isNone = true | some x => lo.isNone = false ∧ Snd X xi W x rl) :
    PO X l (tG X.K X.w xi W RP (fun env => if lo.isNone = true then .ok none env else (rl env).bind partB)) := by
  cases l with
  | none =>
    have h : lo.isNone = true := h
    refine ⟨fun pins s σ H Q I q => po_none.run pins s σ H Q I ?_⟩
    obtain ⟨Hf, env, L, s0, fin⟩ := q
    simp only [h, if_true] at fin
    exact fin none [] Hf H L ⟨rfl, rfl⟩ s0.sl (Step.refl s0.sub) s0.fam
  | some x =>
    obtain ⟨h1, h2⟩ : lo.isNone = false ∧ Snd X xi W x rl := h
    refine ⟨fun pins s σ H Q I q => (po_some h2.pe).run pins s σ H Q I ?_⟩
    have q' : tG X.K X.w xi W RP (fun env => (rl env).bind partB) σ H Q := tG_congr (fun env => by rw [h1]; rfl) q
    refine bindF (R1 := RAr) (R2 := RP) q' fun Hf L a env1 v T1 Hf1 H1 L1 r1 sl1 st1 fam1 fin => ?_
    have fin : Fin X.K X.w xi W RP σ Hf H L (match use env1 a with | some (.int i) => .ok (some i) env1 | _ => .bad) Q := fin
    cases e : use env1 a with
    | none => rw [e] at fin; exact fin.elim
    | some d =>
      cases d <;> first | (rw [e] at fin; exact fin.elim) | skip
      rw [e] at fin
      exact ⟨_, (use_view r1 (fun _ h => h) sl1 fam1 e).int, fin (some _) [] Hf1 H1 L1 ⟨rfl, rfl⟩ sl1 (st1.less fun b q => Owned.append.mpr (.inr q)) (fam1.sub (List.sublist_append_right _ _))⟩
def rSlAll (K : PySem.W.Frag) : V → Option Int → Option Int → Hp → VK → Prop := fun x lo hi H Q => (rSlL K x lo hi H Q ∨ rSlA K x lo hi H Q) ∨ rSlS x lo hi H Q
theorem cut_den {K : PySem.W.Frag} {w : World} {Hf : Hp} {ds : List D} {vs : List V} {lo hi : Option Int} (l : DenL K w Hf ds vs) : DenL K w Hf (cutD ds lo hi) (cutV vs lo hi) := by
  unfold cutD cutV
  rw [← l.length]
  exact (l.drop _).take _
theorem cut_whole {ds : List D} {lo hi : Option Int} (h : HT.sIx ds.length 0 lo = 0 ∧ HT.sIx ds.length ds.length hi = ds.length) : cutD ds lo hi = ds := by
  unfold cutD
  rw [h.1, h.2, List.drop_zero, Nat.sub_zero, List.take_length]
theorem snd_slc (c : CxOk X lv) {a : Expr} {lo hi : E} {l h : Option Expr} {ra rl rh : Env → Res Ar} {p2 pos : Pos} (ha : Snd X xi W a ra) (hl : match l with | none => lo.isNone = true | some x => lo.isNone = false ∧ Snd X xi W x rl)
    (hh : match h with | none => hi.isNone = true | some x => hi.isNone = false ∧ Snd X xi W x rh) : Snd X xi W (.Subscript a (.Slice l h none p2) pos) (fun env => (ra env).bind fun x env => (if lo.isNone = true then .ok none env else (rl env).bind partB).bind fun l env =>
      (if hi.isNone = true then .ok none env else (rh env).bind partB).bind fun h env => match use env x with
        | some dx => Res.of ((slcF dx l h).map .val) env
        | none => .bad) := by
  refine Snd.of_pe rfl (impE (pe_slice ((sl_list.or sl_tupA).or sl_str) ha.pe (po_of hl) (po_of hh)) fun σ H Q q => ?_)
  refine bindF (R1 := RAr) (R2 := RAr) q fun Hf L x env1 vx T1 Hf1 H1 L1 r1 sl1 st1 fam1 fin => ?_
  refine bindG (R1 := RP) (R2 := RAr) (T := T1) st1 fam1 sl1 fin fun l1 env2 l2 T2 Hf2 H2 L2 r2 sl2 st2 fam2 _ fin2 => ?_
  obtain ⟨rfl, rfl⟩ := r2
  rw [List.nil_append] at st2 fam2
  refine bindG (R1 := RP) (R2 := RAr) (T := T1) st2 fam2 sl2 fin2 fun h1 env3 h2 T3 Hf3 H3 L3 r3 sl3 st3 fam3 _ fin3 => ?_
  obtain ⟨rfl, rfl⟩ := r3
  rw [List.nil_append] at st3 fam3
  cases e : use env3 x with
  | none => simp only [e] at fin3; exact fin3.elim
  | some d =>
    simp only [e] at fin3
    have vw := use_view r1 (fun _ h => h) sl3 fam3 e
    cases d <;> first | exact fin3.elim | skip
    · rename_i z
      by_cases hz : z.length ≤ line
      · rw [show slcF (.str z) l1 h1 = some (.d (.str (cutS z l1 h1))) from if_pos hz] at fin3
        exact .inr ⟨z, vw.str, hz, fin_d fin3 sl3 st3 fam3 (.str _)⟩
      · rw [show slcF (.str z) l1 h1 = none from if_neg hz] at fin3; exact fin3.elim
    · obtain ⟨p, vs, rfl, hp, ll⟩ := vw.tup' st3.sub
      refine .inl (.inr ⟨p, vs, rfl, hp, fun hw => ?_, fun _ q hq => fin_tup fin3 sl3 st3 fam3 (cut_den ll) hq⟩)
      rw [← ll.length] at hw
      have fin4 : Fin X.K X.w xi W RAr σ Hf H L (.ok (.val (.d (.tup (cutD _ l1 h1)))) env3) Q := fin3
      rw [cut_whole hw] at fin4
      cases vw with
      | den dn => exact fin_d fin4 sl3 st3 fam3 dn
    · obtain ⟨p, vs, rfl, hp, ll⟩ := vw.lst' st3.sub
      exact .inl (.inl ⟨p, vs, rfl, SqL.of hp, fun q hq => fin_lst fin3 sl3 st3 fam3 (cut_den ll) hq⟩)
end
end PyEv

set_option maxRecDepth 100000
set_option maxHeartbeats 2000000
/-! PyB8: methods that change, displays of dicts, list(range(..)). -/
namespace PyEv
open PySem L2
section
variable {X : Cx} {xi : XI} {W : WX} {lv : Nat}

/-! ### methods that change the list in a slot -/
def rMut : Mm → V → List V → Hp → VK → Prop
  | .append => rAppend
  | .extend => rExtend
  | .popAt => rPopAt
theorem mut_fin {m : Mm} {σ : St} {Hf H Hf1 H1 : Hp} {L L1 : List WV} {env1 : Env} {Q : VK} {i : Nat} {v : V} {ds : List D} {vs : List V}
    (sl : Sl env1 σ L1) (st : Step Hf H L Hf1 H1 L1) (fam : Fam X.K X.w Hf1 H1 L1) (hv : σ[i]? = some (some v)) (dn : DenL X.K X.w Hf1 ds vs)
    (fin : Fin X.K X.w xi W RAr σ Hf H L (match slot env1 i with
      | some w => match mutF m w ds with
        | some (y, w') => .ok (.val (.d y)) (env1.set i (some w'))
        | none => .bad
      | none => .bad) Q) : rMut m v vs H1 Q := by
  cases es : slot env1 i with
  | none => rw [es] at fin; exact fin.elim
  | some x =>
    simp only [es] at fin
    obtain ⟨u, N, h1, h2, p⟩ := sl.out es
    rw [hv] at h1; cases h1
    have famP := fam.perm p
    have stP : Step Hf H L Hf1 H1 ((x, v) :: N) := st.less fun b q => (Owned.perm p).mpr q
    cases em : mutF m x ds with
    | none => simp only [em] at fin; exact fin.elim
    | some yw =>
      obtain ⟨y, w'⟩ := yw
      simp only [em] at fin
      -- the end: what is given, what the list is then
      have fin_w : ∀ (xs xs' : List D) (us us' : List V) (a : Addr) (yv : V), x = .lst xs → w' = .lst xs' → v = .ref a → H1 a = some (.lst us) → DenL X.K X.w Hf1 xs' us' → Den X.K X.w Hf1 y yv → Q yv (upd H1 a (.lst us')) := fun xs xs' us us' a yv ex ew ev hh l' dy => by
        subst ex ev ew
        obtain ⟨hn, _⟩ := (famP.rep _ List.mem_cons_self).own (a := a) (by simp [ad]) |>.2
        obtain ⟨s2, f2⟩ := write_own (o := .lst us') (y := .lst xs') stP.sub famP (by simp [ad]) (fun b hb => by simpa [ad] using hb) (.lst upd_same hn l')
        obtain ⟨L3, g1, g2⟩ := h2.into (x := .lst xs') hv
        refine fin yv [(.d y, yv)] Hf1 (upd H1 a (.lst us')) L3 .val g1 ((stP.tr s2).less fun b q => ?_) (((f2.perm g2.symm)).cons_d dy)
        rcases Owned.cons.mp q with q | q
        · cases q
        · exact (Owned.perm g2).mp q
      have isL : ∀ (xs : List D), x = .lst xs → ∃ a us, v = .ref a ∧ H1 a = some (.lst us) ∧ DenL X.K X.w Hf1 xs us := fun xs ex => by
        subst ex
        have r := famP.rep _ List.mem_cons_self
        cases r with
        | lst e n l => exact ⟨_, _, rfl, e, l⟩
      unfold mutF at em
      split at em
      · rename_i xs d
        split at em
        · rename_i hz
          cases em
          obtain ⟨a, us, rfl, hh, l⟩ := isL xs rfl
          cases dn with
          | cons a1 b1 =>
            cases b1
            exact ⟨a, us, _, rfl, rfl, hh, by rw [← l.length]; exact hz, fin_w xs _ us _ a .non rfl rfl rfl hh (l.append (.cons a1 .nil)) .non⟩
        · cases em
      · rename_i xs ys
        split at em
        · rename_i hz
          cases em
          obtain ⟨a, us, rfl, hh, l⟩ := isL xs rfl
          cases dn with
          | cons a1 b1 =>
            cases b1
            cases a1 with
            | @lst b _ zs hb lz => exact ⟨a, b, us, zs, rfl, rfl, hh, stP.sub _ _ hb, by rw [← l.length, ← lz.length]; exact hz, fin_w xs _ us _ a .non rfl rfl rfl hh (l.append lz) .non⟩
        · cases em
      · rename_i xs k
        split at em
        · rename_i hz
          obtain ⟨a, us, rfl, hh, l⟩ := isL xs rfl
          cases hk : ixN xs.length k with
          | none => rw [hk] at em; cases em
          | some j =>
            obtain ⟨q1, q2, q3, q4⟩ := ixN_seq hk
            have ej : xs[j]? = some xs[j] := List.getElem?_eq_getElem q2
            simp only [hk, ej, Option.map] at em
            cases em
            obtain ⟨yv, e1, e2⟩ := l.get ej
            have hz' : xs.length ≤ sizeLine := hz
            cases dn with
            | cons a1 b1 =>
              cases b1
              cases a1 with
              | int => exact ⟨a, us, k, j, yv, rfl, rfl, hh, by have := line63; omega, by have := line63; omega, by rw [← l.length]; exact q1, e1, fin_w xs _ us _ a yv rfl rfl rfl hh (l.eraseIdx j) e2⟩
        · cases em
      · cases em

theorem base_of {e : Expr} {f : Str} {env : PySem.Env} (h : notSuper e = true) : attributeBase e f env (eval e env) = eval e env := by
  cases e <;> first | rfl | skip
  rename_i fn args kws pos
  cases fn <;> first | rfl | skip
  cases args <;> first | rfl | skip
  cases kws <;> first | rfl | skip
  cases h
theorem snd_mut (c : CxOk X lv) {N : List Str} {nm : Nms} (hN : X.N = N) (n : NmOk X nm) {m : Mm} {i : Nat} {y x : Str} {a : Expr} {as : List Expr} {rs : Env → Res (List D)} {p apos pos : Pos} (hx : Str.ofString (mmName m) = x) (hy : (decide (N[i]? = some y) && visB nm y && nameB y) = true)
    (hl : apos.endLine = pos.line) (hlen : (a :: as).length < 20) (hp : ∀ z ∈ (a :: as), plainX z = true) (hs : SndIts X xi W (a :: as) rs) :
    Snd X xi W (.Call (.Attribute (.Name y p) x apos) (a :: as) [] pos) (fun env => match slot env i with
      | some (.lst _) => (rs env).bind fun ds env => match slot env i with
        | some w => match mutF m w ds with
          | some (y, w') => .ok (.val (.d y)) (env.set i (some w'))
          | none => .bad
        | none => .bad
      | _ => .bad) := by
  subst hx
  have pv := (snd_var (xi := xi) (W := W) (pos := p) hN n hy).2
  have plain : ∀ (zs : List Expr), (∀ z ∈ zs, plainX z = true) → (backTo pos (starEach zs X.env)).all (fun x => !x.1) = true ∧ (backTo pos (starEach zs X.env)).any (·.1) = false := by
    intro zs
    induction zs with
    | nil => intro _; exact ⟨rfl, rfl⟩
    | cons z zs ih =>
      intro h
      obtain ⟨h1, h2⟩ := ih fun q hq => h q (List.mem_cons_of_mem _ hq)
      rw [starEach_plain (h z List.mem_cons_self)]
      exact ⟨by show (true && _) = true; rw [Bool.true_and]; exact h1, by show (false || _) = false; rw [Bool.false_or]; exact h2⟩
  have hstar := starEach_plain (xs := as) (env := X.env) (hp a List.mem_cons_self)
  have hany := (plain as fun q hq => hp q (List.mem_cons_of_mem _ hq)).2
  have hfew : ((backTo pos (starEach (a :: as) X.env)).all (fun x => !x.1) && (backToKw pos (keywordEach [] X.env)).all (fun x => x.1.isSome)
      && decide ((a :: as).length + ([] : List Keyword).length + (if ([] : List Keyword).isEmpty then 0 else 1) < 30)) = true := by
    rw [(plain (a :: as) hp).1]
    show (true && true && decide ((a :: as).length + 0 + 0 < 30)) = true
    rw [Bool.true_and, Bool.true_and, decide_eq_true_eq]
    omega
  have hline : (apos.endLine == pos.line) = true := by rw [hl]; exact beq_self_eq_true _
  have go : ∀ {id : String}, (∃ (_ : PlainAttrs "list") (_ : Slot "list" (Str.ofString (mmName m)) id) (_ : typeOf (.builtin id) = pure (.type "method_descriptor")), MtR X id (rMut m)) →
      PE X (.Call (.Attribute (.Name y p) (Str.ofString (mmName m)) apos) (a :: as) [] pos) (tBM X.K "list" (rMut m) (tVar i) (tG X.K X.w xi W (RDs X.K X.w) rs)) := fun ⟨pa, slot, ty, hm⟩ =>
    pe_bm pa slot ty hm pv hs (base_of rfl) hfew hline hstar hany
  have pe : PE X (.Call (.Attribute (.Name y p) (Str.ofString (mmName m)) apos) (a :: as) [] pos) (tBM X.K "list" (rMut m) (tVar i) (tG X.K X.w xi W (RDs X.K X.w) rs)) := by
    cases m with
    | append => exact go ⟨PySem.F.plainAttrs_list, PySem.F.slot_list_append, PySem.F.type_list_append, mt_append⟩
    | extend => exact go ⟨PySem.F.plainAttrs_list, PySem.F.slot_list_extend, PySem.F.type_list_extend, mt_extend⟩
    | popAt => exact go ⟨PySem.F.plainAttrs_list, PySem.F.slot_list_pop, PySem.F.type_list_pop, mt_popAt⟩
  refine Snd.of_pe rfl (impE pe fun σ H Q q => ?_)
  obtain ⟨Hf, env, L, s0, fin⟩ := q
  cases es : slot env i with
  | none => simp only [es] at fin; exact fin.elim
  | some w0 =>
    cases w0 with
    | d => simp only [es] at fin; exact fin.elim
    | dct => simp only [es] at fin; exact fin.elim
    | lst xs0 =>
      simp only [es] at fin
      obtain ⟨v, M, h1, h2, p1⟩ := s0.sl.out es
      have ty : tyV X.K "list" v H := by
        have r := s0.fam.rep _ (p1.mem_iff.mpr List.mem_cons_self)
        cases r with
        | lst e _ _ => exact .inl ⟨rfl, _, SqL.of e⟩
      refine ⟨v, h1, ty, bindG (R1 := RDs X.K X.w) (R2 := RAr) (T := []) (Step.refl s0.sub) s0.fam s0.sl fin fun ds env2 vs T2 Hf2 H2 L2 r2 sl2 st2 fam2 _ fin2 => ?_⟩
      obtain ⟨dn, rfl⟩ := r2
      exact mut_fin sl2 st2 fam2 h1 dn fin2

/-! ### list(range(n)) -/
theorem rangeF_eq {lo hi : Int} {xs : List D} (e : rangeF lo hi = some xs) : (-(2 ^ 62) ≤ lo ∧ lo < 2 ^ 62 ∧ -(2 ^ 62) ≤ hi ∧ hi < 2 ^ 62) ∧ xs = (List.range (hi - lo).toNat).map fun i => .int (lo + (i : Nat)) := by
  unfold rangeF at e
  split at e
  · rename_i h; exact ⟨h, (Option.some.inj e).symm⟩
  · cases e
theorem range_den {K : PySem.W.Frag} {w : World} {Hf : Hp} {lo : Int} : ∀ (l : List Nat), DenL K w Hf (l.map fun i => .int (lo + (i : Nat))) (l.map fun i => V.int (lo + (i : Nat)))
  | [] => .nil
  | _ :: l => .cons (.int _) (range_den l)
theorem snd_listRange (c : CxOk X lv) {nm : Nms} (n : NmOk X nm) {x y : Str} {a : Expr} {ra : Env → Res Ar} {p p2 pos pos2 : Pos} (hx : Str.ofString "list" = x) (hg : glB nm x = true) (hy : Str.ofString "range" = y) (hgy : glB nm y = true) (hp : plainX a = true) (ha : Snd X xi W a ra) :
    Snd X xi W (.Call (.Name x p) [.Call (.Name y p2) [a] [] pos2] [] pos) (fun env => (ra env).bind fun x env => match use env x with
      | some (.int i) => if i ≤ line then Res.of ((rangeF 0 i).map fun xs => .val (.lst xs)) env else .bad
      | _ => .bad) := by
  subst hx hy
  refine Snd.of_pe rfl (impE (pe_listRg c.calm (n.gl _ hg) (c.blt "list" (by decide)) (prg_1 (n.gl _ hgy) (c.blt "range" (by decide)) ha.pe (starEach_plain hp)) rfl) fun σ H Q q => ?_)
  refine bindF (R1 := RAr) (R2 := RAr) q fun Hf L a env1 v T1 Hf1 H1 L1 r1 sl1 st1 fam1 fin => ?_
  cases e : use env1 a with
  | none => rw [e] at fin; exact fin.elim
  | some d =>
    cases d <;> first | (rw [e] at fin; exact fin.elim) | skip
    rename_i i
    rw [e] at fin
    by_cases hi : i ≤ line
    · have fin : Fin X.K X.w xi W RAr σ Hf H L (if i ≤ line then Res.of ((rangeF 0 i).map fun xs => Ar.val (.lst xs)) env1 else .bad) Q := fin
      rw [if_pos hi] at fin
      cases er : rangeF 0 i with
      | none => rw [er] at fin; exact fin.elim
      | some xs =>
        rw [er] at fin
        obtain ⟨⟨b1, b2, b3, b4⟩, rfl⟩ := rangeF_eq er
        have hl : (line : Int) = 16777216 := rfl
        exact ⟨i, (use_view r1 (fun _ h => h) sl1 fam1 e).int, ⟨b1, b2, b3, b4, by omega⟩, fun q hq => fin_lst fin sl1 st1 fam1 (range_den _) hq⟩
    · have fin : Fin X.K X.w xi W RAr σ Hf H L (if i ≤ line then Res.of ((rangeF 0 i).map fun xs => Ar.val (.lst xs)) env1 else .bad) Q := fin
      rw [if_neg hi] at fin; exact fin.elim

/-! ### {k: v, ..} -/
theorem snd_item {x : Expr} {ra : Env → Res Ar} (ha : PE X x (tG X.K X.w xi W RAr ra)) : PE X x (tG X.K X.w xi W (RD X.K X.w) (fun env => (ra env).bind item)) := impE ha fun σ H Q q => by
  refine bindF (R1 := RAr) (R2 := RD X.K X.w) q fun Hf L a env1 v T1 Hf1 H1 L1 r1 sl1 st1 fam1 fin => ?_
  have fin' : Fin X.K X.w xi W (RD X.K X.w) σ Hf H L ((item a env1).bind fun d env => .ok d env) Q := by
    cases h : item a env1 with
    | ok d e => rw [h] at fin; exact fin
    | exc => exact (item_noexc h).elim
    | bad => rw [h] at fin; exact fin.elim
  obtain ⟨d, env2, Hf2, L2, dn, sl2, st2, fam2, fin2⟩ := item_fin (M := []) r1 sl1 st1 fam1 fin'
  exact fin2 v [] Hf2 H1 L2 ⟨dn, rfl⟩ sl2 st2 fam2
/-- the pairs of a display with written texts as keys -/
def SndDs (X : Cx) (xi : XI) (W : WX) (ks : List Str) (keys : List (Option Expr)) (vals : List Expr) (pos : Pos) (r : Env → Res (List D)) : Prop :=
  ∃ trs, PPs X pos keys vals trs ∧ ∀ σ H (R : List (V × V) → Hp → Prop), tG X.K X.w xi W (RDs X.K X.w) r σ H (fun vs H2 => vs.length = ks.length → R ((ks.zip vs).map fun p => (V.str p.1, p.2)) H2) → tPairs trs σ H R
theorem ds_nil {pos : Pos} : SndDs X xi W [] [] [] pos (fun env => .ok [] env) := ⟨[], pps_nil, fun σ H Q q => by
  obtain ⟨Hf, env, L, s0, fin⟩ := q
  exact fin [] [] Hf H L ⟨.nil, rfl⟩ s0.sl (Step.refl s0.sub) s0.fam rfl⟩
theorem ds_cons {k : Str} {ks : List Str} {j : Nat} {kp pos : Pos} {keys : List (Option Expr)} {x : Expr} {vals : List Expr} {ra : Env → Res Ar} {rs : Env → Res (List D)} (ha : PE X x (tG X.K X.w xi W RAr ra)) (hs : SndDs X xi W ks keys vals pos rs) :
    SndDs X xi W (k :: ks) (some (.Constant (.str k) j kp) :: keys) (x :: vals) pos (fun env => (ra env).bind fun a env => (item a env).bind fun d env => (rs env).bind fun ds env => .ok (d :: ds) env) := by
  obtain ⟨trs, hp, ht⟩ := hs
  refine ⟨_, pps_cons pe_str (snd_item ha) hp, fun σ H R q => ?_⟩
  have q' : tG X.K X.w xi W (RDs X.K X.w) (fun env => ((ra env).bind item).bind fun d env => (rs env).bind fun ds env => .ok (d :: ds) env) σ H _ := tG_congr (fun env => by
    cases ra env with
    | ok a e => rfl
    | exc x e => rfl
    | bad => rfl) q
  show tG X.K X.w xi W (RD X.K X.w) (fun env => (ra env).bind item) σ H _
  refine bindF (R1 := RD X.K X.w) (R2 := RDs X.K X.w) q' fun Hf L d env1 v T1 Hf1 H1 L1 r1 sl1 st1 fam1 fin => ?_
  obtain ⟨dn, rfl⟩ := r1
  refine ht σ H1 _ (bindG (R1 := RDs X.K X.w) (R2 := RDs X.K X.w) (T := []) st1 fam1 sl1 fin fun ds env3 vs T3 Hf3 H3 L3 r3 sl3 st3 fam3 st23 fin3 => ?_)
  obtain ⟨dns, rfl⟩ := r3
  exact fun hl => fin3 (v :: vs) [] Hf3 H3 L3 ⟨.cons (dn.mono st23.subf) dns, rfl⟩ sl3 st3 fam3 (by rw [List.length_cons, List.length_cons, hl])
theorem snd_dct0 {pos : Pos} : Snd X xi W (.Dict [] [] pos) (fun env => .ok (.val (.dct [] [])) env) := by
  refine Snd.of_pe rfl (impE pe_dnewK fun σ H Q q => ?_)
  obtain ⟨Hf, env, L, s0, fin⟩ := q
  intro p hp
  obtain ⟨a, b⟩ := new_own (o := .dK []) (x := .dct [] []) s0.sub hp s0.fam (.dct upd_same (none_of s0.sub hp) rfl .nil)
  exact fin (.ref p) [(.dct [] [], .ref p)] Hf _ L .val s0.sl a b
theorem zip_keys : ∀ {ks : List Str} {vs : List V}, vs.length = ks.length → ((ks.zip vs).map fun p => ((Sum.inr p.1 : Key), p.2)).map (·.1) = ks.map Sum.inr ∧ ((ks.zip vs).map fun p => ((Sum.inr p.1 : Key), p.2)).map (·.2) = vs
  | [], [], _ => ⟨rfl, rfl⟩
  | [], _ :: _, h => by simp at h
  | _ :: _, [], h => by simp at h
  | k :: ks, v :: vs, h => by
    obtain ⟨h1, h2⟩ := zip_keys (ks := ks) (vs := vs) (by simpa using h)
    exact ⟨by rw [List.zip_cons_cons, List.map_cons, List.map_cons, h1]; rfl, by rw [List.zip_cons_cons, List.map_cons, List.map_cons, h2]⟩
theorem snd_dct {ks : List Str} {keys : List (Option Expr)} {vals : List Expr} {pos : Pos} {rs : Env → Res (List D)} (hs : SndDs X xi W ks keys vals pos rs) (hall : keys.all (·.isSome) = true) (hl : keys.length = vals.length) (h0 : keys ≠ []) (h15 : keys.length ≤ 15)
    (hk : ks.length = keys.length) (hn : ks.Nodup) : Snd X xi W (.Dict keys vals pos) (fun env => (rs env).bind fun ds env => .ok (.val (.dct ks ds)) env) := by
  obtain ⟨trs, hp, ht⟩ := hs
  refine Snd.of_pe rfl (impE (pe_disp hp hall hl h0 h15) fun σ H Q q => ?_)
  intro p hp0
  obtain ⟨Hf, env, L, s0, fin⟩ := q
  have fin : Fin X.K X.w xi W RAr σ Hf H L ((rs env).bind fun ds env => .ok (.val (.dct ks ds)) env) Q := fin
  have sm := same_upd (o := .dK []) hp0
  have s1 : St0 X.K X.w env σ Hf (upd H p (.dK [])) L := ⟨s0.sl, ⟨fun q hq => (s0.fam.rep q hq).mono (Same.refl _) (fun a _ o e => sm a o e) fun a ha => ((s0.fam.rep q hq).own ha).2.1, s0.fam.dj⟩, s0.sub.trans sm⟩
  have nO : ¬ Owned L p := fun h => by
    obtain ⟨_, o, e⟩ := s0.fam.own h
    rw [hp0] at e; cases e
  -- a step from the heap with the new dict is one from the heap without
  have back : ∀ {Hg H' : Hp} {M : List WV}, Step Hf (upd H p (.dK [])) L Hg H' M → Step Hf H L Hg H' M := fun {Hg H' M} st => ⟨st.subf, st.sub, fun b o e n => st.keep b o (sm b o e) n, fun b h => by
      rcases st.newO b h with z | z
      · exact .inl z
      · by_cases e : b = p
        · subst e; exact .inr hp0
        · rw [upd_ne e] at z; exact .inr z, fun b o h => by
      rcases st.newF b o h with z | z | z
      · exact .inl z
      · exact .inr (.inl z)
      · by_cases e : b = p
        · subst e; exact .inr (.inr hp0)
        · rw [upd_ne e] at z; exact .inr (.inr z)⟩
  refine ht σ _ _ ⟨Hf, env, L, s1, ?_⟩
  cases e : rs env with
  | bad => rw [e] at fin; exact fin
  | exc x env2 =>
    rw [e] at fin
    exact fun Hg H' L' cls dd h1 h2 h3 h4 => fin Hg H' L' cls dd h1 (back h2) h3 h4
  | ok ds env2 =>
    rw [e] at fin
    intro vs T Hg H' L' r sl st fam hlen
    obtain ⟨dn, rfl⟩ := r
    rw [List.nil_append] at st fam
    have e1 : H' p = some (.dK []) := st.keep p _ upd_same nO
    have hpf : Hg p = none := by
      cases z : Hg p with
      | none => rfl
      | some o =>
        rcases st.newF p o z with q | q | q
        · rw [s0.sub _ _ q] at hp0; cases hp0
        · exact (nO q).elim
        · rw [upd_same] at q; cases q
    have nL : ¬ Owned L' p := fun h => by
      rcases st.newO p h with q | q
      · exact nO q
      · rw [upd_same] at q; cases q
    obtain ⟨k1, k2⟩ := zip_keys hlen
    refine ⟨e1, (ks.zip vs).map fun q => ((Sum.inr q.1 : Key), q.2), ?_, ?_, ?_⟩
    · rw [List.map_map]; rfl
    · rw [List.length_map, List.length_zip]; omega
    · rw [mergeK_self (by
        rw [List.nil_append, k1]
        exact List.Pairwise.map _ (fun a b h z => h (Sum.inr.inj z)) hn), List.nil_append]
      have rep : RepW X.K X.w Hg (upd H' p (.dK ((ks.zip vs).map fun q => ((Sum.inr q.1 : Key), q.2)))) (.dct ks ds) (.ref p) := .dct upd_same hpf k1 (by rw [k2]; exact dn)
      have keepP : ∀ b o, H' b = some o → b ≠ p → upd H' p (.dK ((ks.zip vs).map fun q => ((Sum.inr q.1 : Key), q.2))) b = some o := fun b o e n => by rw [upd_ne n]; exact e
      have st' := back st
      refine fin (.ref p) [(.dct ks ds, .ref p)] Hg _ L' .val sl ⟨st'.subf, fun b o e => ?_, fun b o e n => ?_, fun b h => ?_, st'.newF⟩ ⟨fun q hq => ?_, List.pairwise_cons.mpr ⟨fun q hq a ha hb => ?_, fam.dj⟩⟩
      · exact keepP b o (st'.sub b o e) fun z => by rw [z, hpf] at e; cases e
      · exact keepP b o (st'.keep b o e n) fun z => by rw [z, hp0] at e; cases e
      · rcases Owned.cons.mp h with h | h
        · have : b = p := by simpa [adp, ad] using h
          subst this; exact .inr hp0
        · exact st'.newO b h
      · rcases List.mem_cons.mp hq with rfl | hq
        · exact rep
        · exact (fam.rep q hq).mono (Same.refl _) (fun a ha o e => keepP a o e fun z => nL ⟨q, hq, z ▸ ha⟩) fun a ha => ((fam.rep q hq).own ha).2.1
      · have : a = p := by simpa [adp, ad] using ha
        subst this
        exact nL ⟨q, hq, hb⟩
end
end PyEv

set_option maxRecDepth 100000
set_option maxHeartbeats 2000000
/-! PyB9: what is walked. -/
namespace PyEv
open PySem L2

/-- an iterator that yields data -/
def WalkSpec (K : PySem.W.Frag) (w : World) (J : L2.It) (Hf : Hp) (ds : List D) : Prop :=
  ∀ Hg H, Same Hf Hg → Same Hg H → ∀ i, (ds.length ≤ i → J.stop i H) ∧ (i < ds.length → J.go i H) ∧
    ∀ x H' d L, J.yld i H x H' → ds[i]? = some d → Fam K w Hg H L → ∃ Hg', Den K w Hg' d x ∧ Step Hg H L Hg' H' L ∧ Fam K w Hg' H' L
theorem WalkSpec.mono {K : PySem.W.Frag} {w : World} {J : L2.It} {Hf Hg : Hp} {ds : List D} (h : WalkSpec K w J Hf ds) (s : Same Hf Hg) : WalkSpec K w J Hg ds := fun Hg' H a b => h Hg' H (s.trans a) b
def RWalk (K : PySem.W.Frag) (w : World) : RR (List D) L2.It := fun _ Hf ds J T => WalkSpec K w J Hf ds ∧ T = []

theorem impI {X : Cx} {tg e : Expr} {t t' : TI} (h : PI X tg e t) (f : ∀ σ H Q, t' σ H Q → t σ H Q) : PI X tg e t' := ⟨fun pins s σ H Q I q => h.run pins s σ H Q I (f σ H Q q)⟩

section
variable {X : Cx} {xi : XI} {W : WX} {lv : Nat}
/-- a sound thing to walk -/
abbrev SndIt (X : Cx) (xi : XI) (W : WX) (tg e : Expr) (r : Env → Res (List D)) : Prop := PI X tg e (tG X.K X.w xi W (RWalk X.K X.w) r)

/-- any list, tuple or text -/
def iSeq (K : PySem.W.Frag) (tl : TE) : TI := fun σ H R => tl σ H fun x H1 => (∃ a, x = .ref a ∧ (∃ xs, SqL K H1 a xs) ∧ R (Itl K a) H1) ∨ (∃ a, x = .ref a ∧ (∃ xs, SqT K H1 a xs) ∧ R (Itt K a) H1) ∨ ∃ z, x = .str z ∧ R (Its z) H1
open PySem.Spec PyProof.Rows in
theorem pi_seq {tg l : Expr} {tl : TE} (hl : PE X l tl) : PI X tg l (iSeq X.K tl) := by
  refine ⟨fun pins s σ H R I h => ?_⟩
  refine thn (hl.run pins s σ H _ I h) fun v s1 ⟨x, H1, I1, r1, q1⟩ => ?_
  rcases q1 with ⟨a, e, ⟨xs, hq⟩, q⟩ | ⟨a, e, ⟨xs, hq⟩, q⟩ | ⟨z, e, q⟩
  · subst e
    cases r1
    obtain ⟨its, rv, p, hz⟩ := I1.list hq
    exact wpAny_pyIter_list p.isList (pi_one (tk := s1.toks) I1 _ (turn_list a _) ⟨_, Heap.get?_push_size _ rfl, rfl, rfl⟩ q)
  · subst e
    cases r1
    obtain ⟨its, rv, p, hz⟩ := I1.tuple hq
    exact wpAny_pyIter_tuple (show s1.heap.IsTuple a its.toArray from p) (pi_one (tk := s1.toks) I1 _ (turn_tuple a _) ⟨_, Heap.get?_push_size _ rfl, rfl, rfl⟩ q)
  · subst e
    obtain ⟨t, rfl⟩ := r1
    cases ha : z.cps.all (· < 128)
    · exact wpAny_pyIter_wide ha (pi_one (tk := s1.toks) I1 _ (turn_str _ z t "str_iterator" (.inr rfl)) ⟨_, Heap.get?_push_size _ rfl, rfl, rfl⟩ q)
    · exact wpAny_pyIter_ascii ha (pi_one (tk := s1.toks) I1 _ (turn_str _ z t "str_ascii_iterator" (.inl rfl)) ⟨_, Heap.get?_push_size _ rfl, rfl, rfl⟩ q)

theorem walk_lst {K : PySem.W.Frag} {w : World} {Hf : Hp} {a : Addr} {vs : List V} {ds : List D} (e : Hf a = some (.lst vs)) (l : DenL K w Hf ds vs) : WalkSpec K w (Itl K a) Hf ds := by
  intro Hg H s1 s2 i
  have q : SqL K H a vs := SqL.of (s2 _ _ (s1 _ _ e))
  refine ⟨fun h => ⟨vs, q, by rw [← l.length]; exact h⟩, fun h => ⟨vs, vs[i]'(by rw [← l.length]; exact h), q, List.getElem?_eq_getElem _⟩, fun x H' d L y hd f => ?_⟩
  obtain ⟨rfl, y⟩ := y
  obtain ⟨v, h1, h2⟩ := l.get hd
  have := y vs q
  rw [h1] at this; cases this
  exact ⟨Hg, h2.mono s1, Step.refl s2, f⟩
theorem walk_tup {K : PySem.W.Frag} {w : World} {Hf : Hp} {a : Addr} {vs : List V} {ds : List D} (e : SqT K Hf a vs) (l : DenL K w Hf ds vs) : WalkSpec K w (Itt K a) Hf ds := by
  intro Hg H s1 s2 i
  have q : SqT K H a vs := SqT.same s2 (SqT.same s1 e)
  refine ⟨fun h => ⟨vs, q, by rw [← l.length]; exact h⟩, fun h => ⟨vs, vs[i]'(by rw [← l.length]; exact h), q, List.getElem?_eq_getElem _⟩, fun x H' d L y hd f => ?_⟩
  obtain ⟨rfl, y⟩ := y
  obtain ⟨v, h1, h2⟩ := l.get hd
  have := y vs q
  rw [h1] at this; cases this
  exact ⟨Hg, h2.mono s1, Step.refl s2, f⟩
theorem walk_str {K : PySem.W.Frag} {w : World} {Hf : Hp} {z : Str} : WalkSpec K w (Its z) Hf (z.cps.toList.map fun c => .str ⟨#[c]⟩) := by
  intro Hg H s1 s2 i
  refine ⟨fun h => ?_, fun h => ?_, fun x H' d L y hd f => ?_⟩
  · have h : z.cps.size ≤ i := by simpa using h
    exact h
  · have h : i < z.cps.size := by simpa using h
    exact h
  · obtain ⟨rfl, c, hc, rfl⟩ := y
    have hd : d = .str ⟨#[c]⟩ := by
      have e : z.cps.toList[i]? = some c := by simpa using hc
      rw [List.getElem?_map, e] at hd
      exact (Option.some.inj hd).symm
    subst hd
    exact ⟨Hg, .str _, Step.refl s2, f⟩
theorem walk_range {K : PySem.W.Frag} {w : World} {Hf : Hp} {lo : Int} {n : Nat} : WalkSpec K w (Itr lo n) Hf ((List.range n).map fun i => .int (lo + (i : Nat))) := by
  intro Hg H s1 s2 i
  refine ⟨fun h => ?_, fun h => ?_, fun x H' d L y hd f => ?_⟩
  · have h : n ≤ i := by simpa using h
    exact h
  · have h : i < n := by simpa using h
    exact h
  · obtain ⟨rfl, rfl⟩ := y
    rw [List.getElem?_map] at hd
    cases e : (List.range n)[i]? with
    | none => rw [e] at hd; cases hd
    | some j =>
      rw [e] at hd
      have hj : j = i := by
        rw [List.getElem?_eq_some_iff] at e
        obtain ⟨_, e⟩ := e
        simpa using e.symm
      subst hj
      cases hd
      exact ⟨Hg, .int _, Step.refl s2, f⟩

theorem fin_walk {σ : St} {Hf H Hf1 H1 : Hp} {L L1 : List WV} {env1 : Env} {R : L2.It → Hp → Prop} {ds : List D} {J : L2.It} (fin : Fin X.K X.w xi W (RWalk X.K X.w) σ Hf H L (.ok ds env1) R) (sl : Sl env1 σ L1) (st : Step Hf H L Hf1 H1 L1) (fam : Fam X.K X.w Hf1 H1 L1)
    (h : WalkSpec X.K X.w J Hf1 ds) : R J H1 := fin J [] Hf1 H1 L1 ⟨h, rfl⟩ sl st fam

theorem it_seq {tg x : Expr} {ra : Env → Res Ar} (ha : PE X x (tG X.K X.w xi W RAr ra)) : SndIt X xi W tg x (fun env => (ra env).bind fun a env => (item a env).bind fun d env => Res.of (itemsF d) env) := impI (pi_seq ha) fun σ H Q q => by
  refine bindF (R1 := RAr) (R2 := RWalk X.K X.w) q fun Hf L a env1 v T1 Hf1 H1 L1 r1 sl1 st1 fam1 fin => ?_
  obtain ⟨d, env2, Hf2, L2, dn, sl2, st2, fam2, fin2⟩ := item_fin (M := []) r1 sl1 st1 fam1 fin
  cases dn with
  | tup hq l => exact .inr (.inl ⟨_, rfl, ⟨_, SqT.same st2.sub hq⟩, fin_walk fin2 sl2 st2 fam2 (walk_tup hq l)⟩)
  | lst hq l => exact .inl ⟨_, rfl, ⟨_, SqL.of (st2.sub _ _ hq)⟩, fin_walk fin2 sl2 st2 fam2 (walk_lst hq l)⟩
  | str z => exact .inr (.inr ⟨z, rfl, fin_walk fin2 sl2 st2 fam2 walk_str⟩)
  | _ => exact fin2.elim

theorem it_range1 (c : CxOk X lv) {nm : Nms} (n : NmOk X nm) {tg : Expr} {y : Str} {a : Expr} {ra : Env → Res Ar} {p pos : Pos} (hy : Str.ofString "range" = y) (hg : glB nm y = true) (hp : plainX a = true) (ha : Snd X xi W a ra) :
    SndIt X xi W tg (.Call (.Name y p) [a] [] pos) (fun env => (ra env).bind fun a env => match use env a with
      | some (.int i) => Res.of (rangeF 0 i) env
      | _ => .bad) := by
  subst hy
  refine impI (pi_range1 (n.gl _ hg) (c.blt "range" (by decide)) (pa_cons ha.pe pa_nil (starEach_plain hp)) (starEach_plain hp)) fun σ H Q q => ?_
  refine bindF (R1 := RAr) (R2 := RWalk X.K X.w) q fun Hf L a env1 v T1 Hf1 H1 L1 r1 sl1 st1 fam1 fin => ?_
  cases e : use env1 a with
  | none => rw [e] at fin; exact fin.elim
  | some d =>
    cases d <;> first | (rw [e] at fin; exact fin.elim) | skip
    rename_i i
    rw [e] at fin
    have fin : Fin X.K X.w xi W (RWalk X.K X.w) σ Hf H L (Res.of (rangeF 0 i) env1) Q := fin
    cases er : rangeF 0 i with
    | none => rw [er] at fin; exact fin.elim
    | some xs =>
      rw [er] at fin
      obtain ⟨⟨b1, b2, b3, b4⟩, rfl⟩ := rangeF_eq er
      have hv := (use_view r1 (fun _ h => h) sl1 fam1 e).int
      subst hv
      refine ⟨i, rfl, b3, b4, fin_walk fin sl1 (st1.less fun b q => Owned.append.mpr (.inr q)) (fam1.sub (List.sublist_append_right _ _)) ?_⟩
      rw [show (i - 0).toNat = i.toNat by simp]
      exact walk_range

theorem it_range2 (c : CxOk X lv) {nm : Nms} (n : NmOk X nm) {tg : Expr} {y : Str} {a b : Expr} {ra rb : Env → Res Ar} {p pos : Pos} (hy : Str.ofString "range" = y) (hg : glB nm y = true) (hp : plainX a = true) (hp2 : plainX b = true) (ha : Snd X xi W a ra) (hb : Snd X xi W b rb) :
    SndIt X xi W tg (.Call (.Name y p) [a, b] [] pos) (fun env => (ra env).bind fun x env => (rb env).bind fun y env => match use env x, use env y with
      | some (.int i), some (.int j) => Res.of (rangeF i j) env
      | _, _ => .bad) := by
  subst hy
  refine impI (pi_range2 (n.gl _ hg) (c.blt "range" (by decide)) (pa_cons ha.pe (pa_cons hb.pe pa_nil (starEach_plain hp2)) (starEach_plain hp)) (by rw [starEach_plain hp, starEach_plain hp2]; rfl) (starEach_plain hp2)) fun σ H Q q => ?_
  refine bindF (R1 := RAr) (R2 := RWalk X.K X.w) q fun Hf L a env1 v T1 Hf1 H1 L1 r1 sl1 st1 fam1 fin => ?_
  refine bindG (R1 := RAr) (R2 := RWalk X.K X.w) (T := T1) st1 fam1 sl1 fin fun b env2 u T2 Hf2 H2 L2 r2 sl2 st2 fam2 _ fin2 => ?_
  have e12 : T1 ++ (T2 ++ L2) = (T1 ++ T2) ++ L2 := (List.append_assoc _ _ _).symm
  rw [e12] at st2 fam2
  cases e : use env2 a with
  | none => rw [e] at fin2; exact fin2.elim
  | some d =>
    cases d <;> first | (rw [e] at fin2; exact fin2.elim) | skip
    rename_i i
    cases e2 : use env2 b with
    | none => rw [e, e2] at fin2; exact fin2.elim
    | some d =>
      cases d <;> first | (rw [e, e2] at fin2; exact fin2.elim) | skip
      rename_i j
      rw [e, e2] at fin2
      have fin2 : Fin X.K X.w xi W (RWalk X.K X.w) σ Hf H L (Res.of (rangeF i j) env2) Q := fin2
      cases er : rangeF i j with
      | none => rw [er] at fin2; exact fin2.elim
      | some xs =>
        rw [er] at fin2
        obtain ⟨⟨b1, b2, b3, b4⟩, rfl⟩ := rangeF_eq er
        have hv := (use_view r1 (fun p h => List.mem_append_left _ h) sl2 fam2 e).int
        have hu := (use_view r2 (fun p h => List.mem_append_right _ h) sl2 fam2 e2).int
        subst hv hu
        exact ⟨i, j, rfl, ⟨b1, b2, b3, b4⟩, fin_walk fin2 sl2 (st2.less fun b q => Owned.append.mpr (.inr q)) (fam2.sub (List.sublist_append_right _ _)) walk_range⟩

/-- a new pair at a turn -/
theorem pair_new {K : PySem.W.Frag} {w : World} {Hg H : Hp} {T : Addr} {L : List WV} {d e : D} {x y : V} (s : Same Hg H) (hT : H T = none) (f : Fam K w Hg H L) (h1 : Den K w Hg d x) (h2 : Den K w Hg e y) :
    ∃ Hg', Den K w Hg' (.tup [d, e]) (.ref T) ∧ Step Hg H L Hg' (upd H T (.tup [x, y])) L ∧ Fam K w Hg' (upd H T (.tup [x, y])) L := by
  obtain ⟨a, b⟩ := new_frz (o := .tup [x, y]) s hT f
  exact ⟨_, .tup (SqT.of upd_same) (.cons (h1.mono a.subf) (.cons (h2.mono a.subf) .nil)), a, b⟩
theorem walk_enum {K : PySem.W.Frag} {w : World} {Hf : Hp} {a : Addr} {vs : List V} {ds : List D} (e : Hf a = some (.lst vs)) (l : DenL K w Hf ds vs) : WalkSpec K w (Ite K a) Hf (ds.zipIdx.map fun p => .tup [.int (p.2 : Nat), p.1]) := by
  intro Hg H s1 s2 i
  have q : SqL K H a vs := SqL.of (s2 _ _ (s1 _ _ e))
  refine ⟨fun h => ⟨vs, q, by rw [← l.length]; simpa using h⟩, fun h => ?_, fun x H' d L y hd f => ?_⟩
  · have h : i < vs.length := by rw [← l.length]; simpa using h
    exact ⟨vs, vs[i], q, List.getElem?_eq_getElem _⟩
  · obtain ⟨T, u, rfl, hT, rfl, y⟩ := y
    rw [List.getElem?_map, List.getElem?_zipIdx] at hd
    cases hi : ds[i]? with
    | none => rw [hi] at hd; cases hd
    | some d0 =>
      rw [hi] at hd
      have hd := Option.some.inj hd
      obtain ⟨v, h1, h2⟩ := l.get hi
      have := y vs q
      rw [h1] at this; cases this
      subst hd
      have e0 : ((0 + i : Nat) : Int) = (i : Nat) := by rw [Nat.zero_add]
      show ∃ Hg', Den K w Hg' (.tup [.int ((0 + i : Nat) : Int), d0]) _ ∧ _
      rw [e0]
      exact pair_new s2 hT f (.int _) (h2.mono s1)
theorem zip_get {α β : Type} : ∀ {xs : List α} {ys : List β} {i : Nat} {p : α × β}, (xs.zip ys)[i]? = some p → xs[i]? = some p.1 ∧ ys[i]? = some p.2
  | [], _, _, _, e => by simp at e
  | _ :: _, [], _, _, e => by simp at e
  | x :: xs, y :: ys, 0, p, e => by simp at e; subst e; exact ⟨rfl, rfl⟩
  | x :: xs, y :: ys, i + 1, p, e => by
    have := zip_get (xs := xs) (ys := ys) (i := i) (p := p) (by simpa using e)
    simpa using this
theorem walk_zip {K : PySem.W.Frag} {w : World} {Hf : Hp} {a b : Addr} {vs us : List V} {ds es : List D} (e : Hf a = some (.lst vs)) (l : DenL K w Hf ds vs) (e' : Hf b = some (.lst us)) (l' : DenL K w Hf es us) : WalkSpec K w (Itz K a b) Hf ((ds.zip es).map fun p => .tup [p.1, p.2]) := by
  intro Hg H s1 s2 i
  have q : SqL K H a vs := SqL.of (s2 _ _ (s1 _ _ e))
  have q' : SqL K H b us := SqL.of (s2 _ _ (s1 _ _ e'))
  have e1 := l.length
  have e2 := l'.length
  refine ⟨fun h => ⟨vs, us, q, q', ?_⟩, fun h => ?_, fun x H' d L y hd f => ?_⟩
  · have h : min ds.length es.length ≤ i := by simpa using h
    omega
  · have h : i < min ds.length es.length := by simpa using h
    exact ⟨vs, us, vs[i]'(by omega), us[i]'(by omega), q, q', List.getElem?_eq_getElem _, List.getElem?_eq_getElem _⟩
  · obtain ⟨T, u, u', rfl, hT, rfl, y, y'⟩ := y
    rw [List.getElem?_map] at hd
    cases hi : (ds.zip es)[i]? with
    | none => rw [hi] at hd; cases hd
    | some p =>
      rw [hi] at hd
      have hd := Option.some.inj hd
      obtain ⟨z1, z2⟩ := zip_get hi
      obtain ⟨v, h1, h2⟩ := l.get z1
      obtain ⟨v', h1', h2'⟩ := l'.get z2
      have := y vs q
      rw [h1] at this; cases this
      have := y' us q'
      rw [h1'] at this; cases this
      subst hd
      exact pair_new s2 hT f (h2.mono s1) (h2'.mono s1)
theorem walk_zipT {K : PySem.W.Frag} {w : World} {Hf : Hp} {a b : Addr} {vs us : List V} {ds es : List D} (e : SqT K Hf a vs) (l : DenL K w Hf ds vs) (e' : SqT K Hf b us) (l' : DenL K w Hf es us) : WalkSpec K w (RZ.ItzT K a b) Hf ((ds.zip es).map fun p => .tup [p.1, p.2]) := by
  intro Hg H s1 s2 i
  have q : SqT K H a vs := SqT.same s2 (SqT.same s1 e)
  have q' : SqT K H b us := SqT.same s2 (SqT.same s1 e')
  have e1 := l.length
  have e2 := l'.length
  refine ⟨fun h => ⟨vs, us, q, q', ?_⟩, fun h => ?_, fun x H' d L y hd f => ?_⟩
  · have h : min ds.length es.length ≤ i := by simpa using h
    omega
  · have h : i < min ds.length es.length := by simpa using h
    exact ⟨vs, us, vs[i]'(by omega), us[i]'(by omega), q, q', List.getElem?_eq_getElem _, List.getElem?_eq_getElem _⟩
  · obtain ⟨T, u, u', rfl, hT, rfl, y, y'⟩ := y
    rw [List.getElem?_map] at hd
    cases hi : (ds.zip es)[i]? with
    | none => rw [hi] at hd; cases hd
    | some p =>
      rw [hi] at hd
      have hd := Option.some.inj hd
      obtain ⟨z1, z2⟩ := zip_get hi
      obtain ⟨v, h1, h2⟩ := l.get z1
      obtain ⟨v', h1', h2'⟩ := l'.get z2
      have := y vs q
      rw [h1] at this; cases this
      have := y' us q'
      rw [h1'] at this; cases this
      subst hd
      exact pair_new s2 hT f (h2.mono s1) (h2'.mono s1)

theorem it_enum (c : CxOk X lv) {nm : Nms} (n : NmOk X nm) {tpos : Pos} {elts : List Expr} {kk : Nat} {y : Str} {a : Expr} {ra : Env → Res Ar} {p pos : Pos} (hy : Str.ofString "enumerate" = y) (hg : glB nm y = true) (hp : plainX a = true) (ha : Snd X xi W a ra) :
    SndIt X xi W (.Tuple elts kk tpos) (.Call (.Name y p) [a] [] pos) (fun env => (ra env).bind fun x env => (item x env).bind fun dx env => Res.of (enumF dx) env) := by
  subst hy
  refine impI (pi_enum (n.gl _ hg) (c.blt "enumerate" (by decide)) (pa_cons ha.pe pa_nil (starEach_plain hp)) (starEach_plain hp)) fun σ H Q q => ?_
  refine bindF (R1 := RAr) (R2 := RWalk X.K X.w) q fun Hf L a env1 v T1 Hf1 H1 L1 r1 sl1 st1 fam1 fin => ?_
  obtain ⟨d, env2, Hf2, L2, dn, sl2, st2, fam2, fin2⟩ := item_fin (M := []) r1 sl1 st1 fam1 fin
  cases dn with
  | lst hq l => exact ⟨_, _, rfl, SqL.of (st2.sub _ _ hq), fin_walk fin2 sl2 st2 fam2 (walk_enum hq l)⟩
  | _ => exact fin2.elim
theorem it_zip (c : CxOk X lv) {nm : Nms} (n : NmOk X nm) {tpos : Pos} {elts : List Expr} {kk : Nat} {y : Str} {a b : Expr} {ra rb : Env → Res Ar} {p pos : Pos} (hy : Str.ofString "zip" = y) (hg : glB nm y = true) (hp : plainX a = true) (hp2 : plainX b = true) (ha : Snd X xi W a ra) (hb : Snd X xi W b rb)
    (hpl : (backTo pos (starEach [b] X.env)).any (·.1) = false) :
    SndIt X xi W (.Tuple elts kk tpos) (.Call (.Name y p) [a, b] [] pos) (fun env => (ra env).bind fun x env => (item x env).bind fun dx env => (rb env).bind fun y env => (item y env).bind fun dy env => Res.of (zipF dx dy) env) := by
  subst hy
  refine impI (RZ.pi_zipA (n.gl _ hg) (c.blt "zip" (by decide)) (pa_cons (snd_item ha.pe) (pa_cons (snd_item hb.pe) pa_nil (starEach_plain hp2)) (starEach_plain hp)) (starEach_plain hp) hpl) fun σ H Q q => ?_
  have q' : tG X.K X.w xi W (RWalk X.K X.w) (fun env => ((ra env).bind item).bind fun dx env => ((rb env).bind item).bind fun dy env => Res.of (zipF dx dy) env) σ H Q := tG_congr (fun env => by
    cases ra env with
    | ok a e =>
      show (item a e).bind _ = (item a e).bind _
      cases item a e with
      | ok d e2 =>
        show (rb e2).bind _ = ((rb e2).bind item).bind _
        cases rb e2 <;> rfl
      | _ => rfl
    | _ => rfl) q
  refine bindF (R1 := RD X.K X.w) (R2 := RWalk X.K X.w) q' fun Hf L d env1 v T1 Hf1 H1 L1 r1 sl1 st1 fam1 fin => ?_
  obtain ⟨dn, rfl⟩ := r1
  refine bindG (R1 := RD X.K X.w) (R2 := RWalk X.K X.w) (T := []) st1 fam1 sl1 fin fun d2 env2 v2 T2 Hf2 H2 L2 r2 sl2 st2 fam2 st12 fin2 => ?_
  obtain ⟨dn2, rfl⟩ := r2
  have dn := dn.mono st12.subf
  cases dn with
  | lst hq l =>
    cases dn2 with
    | lst hq' l' => exact ⟨_, _, _, _, rfl, .inl ⟨SqL.of (st2.sub _ _ hq), SqL.of (st2.sub _ _ hq'), fin_walk fin2 sl2 st2 fam2 (walk_zip hq l hq' l')⟩⟩
    | _ => exact fin2.elim
  | tup hq l =>
    cases dn2 with
    | tup hq' l' => exact ⟨_, _, _, _, rfl, .inr ⟨SqT.same st2.sub hq, SqT.same st2.sub hq', fin_walk fin2 sl2 st2 fam2 (walk_zipT hq l hq' l')⟩⟩
    | _ => exact fin2.elim
  | _ => exact fin2.elim
end
end PyEv

set_option maxRecDepth 100000
set_option maxHeartbeats 2000000
/-! PyU: a, b = a text of two signs. -/
namespace PyEv
open PySem PySem.Spec PyProof.Rows L2

section
variable {prog : Program} {w : World} {A : Around} {E : Value → Shared → Prop} {s : Shared}
theorem unpackItems_str2 {x : Str} {t : Tok} {c d : Nat} {Q : List Value → Shared → Prop} (hh : A.handled = none) (hx : x.cps = #[c, d]) (ha : x.cps.all (· < 128) = true)
    (hQ : ∀ h' tk t1 t2, Heap.ExtBut s.heap.objs.size s.heap h' → Q [.str ⟨#[c]⟩ t1, .str ⟨#[d]⟩ t2] { s with heap := h', toks := tk }) : wpAny (model prog w) A (unpackItems (.str x t) 2 none) Q E s := by
  unfold unpackItems
  refine wpAny_bind ?_
  unfold notIterableAtAll
  refine wpAny_bind (wpAny_specialOf (typeIs_str s x t) PySem.F.slot_str_iter.lookup ?_)
  refine wpAny_pure ?_
  simp only [Bool.false_eq_true, if_false]
  refine wpAny_bind (wpAny_holding (wpAny_pyIter_ascii ha ?_))
  have e0 : x.cps[0]? = some c := by rw [hx]; rfl
  have e1 : x.cps[1]? = some d := by rw [hx]; rfl
  have e2 : x.cps[2]? = none := by rw [hx]; rfl
  refine wpAny_bind (wpAny_holding ?_)
  show wpAny _ _ (draw (.ref s.heap.objs.size) 2) _ _ _
  show wpAny _ _ (pyNext (.ref s.heap.objs.size) >>= _) _ _ _
  refine wpAny_bind (wpAny_pyNext_ascii_item ⟨_, Heap.get?_push_size _ rfl, rfl, rfl⟩ e0 fun h1 i1 s1 => ?_)
  refine wpAny_bind (wpAny_holding ?_)
  show wpAny _ _ (pyNext (.ref s.heap.objs.size) >>= _) _ _ _
  refine wpAny_bind (wpAny_pyNext_ascii_item i1 e1 fun h2 i2 s2 => ?_)
  refine wpAny_bind (wpAny_holding ?_)
  show wpAny _ _ (pure []) _ _ _
  refine wpAny_pure (wpAny_pure (wpAny_pure ?_))
  rw [if_neg (by simp)]
  refine wpAny_bind (wpAny_holding (wpAny_pyNext_ascii_end hh i2 e2 fun h3 s3 => ?_))
  simp only [Option.isSome_none, Bool.false_eq_true, if_false]
  exact wpAny_pure (hQ h3 _ _ _ fun b o hb e => s3 b o hb ((s1.trans s2).extBut b o hb (Heap.get?_push_of_some _ e)))
end
/-- (a, b) = a text of two signs below 128 -/
def gStr2 (t : TGs) : TG := fun v σ H Q => ∃ z c d, v = .str z ∧ z.cps = #[c, d] ∧ c < 128 ∧ d < 128 ∧ t [.str ⟨#[c]⟩, .str ⟨#[d]⟩] σ H Q
theorem pg_str2 {X : Cx} {es : List Expr} {k : Nat} {t : TGs} {pos : Pos} (hc : X.calm = true) (h : PGs X es t) (hn : (assignEach es X.env).length = 2) (hst : (assignEach es X.env).findIdx? (·.1) = none) : PG X (.Tuple es k pos) (gStr2 t) := by
  refine ⟨fun pins s σ H v u Q I r hw => ?_⟩
  obtain ⟨z, c, d, rfl, hz, h1, h2, hw⟩ := hw
  obtain ⟨tk, rfl⟩ := r
  rw [assign_Tuple]
  refine wpAny_bind (wpAny_standAt ?_)
  unfold unpack
  rw [hn, hst]
  refine wpAny_bind (wpAny_holding (unpackItems_str2 (I.ok.hd hc) hz (by rw [hz]; simp [h1, h2]) fun h' tk' t1 t2 hx => ?_))
  have I1 : Inv X pins σ H { s with heap := h', toks := tk' } := I.kept fun b o e => hx b o (Nat.ne_of_lt (Heap.lt_size e)) e
  exact h.run pins _ σ H _ _ Q I1 (.cons (show RelV (.str ⟨#[c]⟩) _ from ⟨t1, rfl⟩) (.cons (show RelV (.str ⟨#[d]⟩) _ from ⟨t2, rfl⟩) .nil)) hw
theorem pg_or {X : Cx} {e : Expr} {t u : TG} (h1 : PG X e t) (h2 : PG X e u) : PG X e (fun v σ H Q => t v σ H Q ∨ u v σ H Q) :=
  ⟨fun pins s σ H v x Q I r hw => hw.elim (h1.run pins s σ H v x Q I r) (h2.run pins s σ H v x Q I r)⟩
end PyEv

set_option maxRecDepth 100000
set_option maxHeartbeats 2000000
/-! PyC1: list comprehensions. -/
namespace PyEv
open PySem L2

/-! ### targets -/
section
/-- slots that only some state agrees on -/
theorem Sl.congr : ∀ {env : Env} {σ σ' : St} {L : List WV}, Sl env σ L → σ'.length = σ.length → (∀ (i : Nat) x v, slot env i = some x → σ[i]? = some (some v) → σ'[i]? = some (some v)) → Sl env σ' L
  | _, _, [], _, .nil, _, _ => .nil
  | _, _, s' :: σ', _, .nil, h, _ => by simp at h
  | _, _, [], _, .skip _, h, _ => by simp at h
  | _, _, [], _, .cons _, h, _ => by simp at h
  | _, _, s' :: σ', _, .skip h, hl, hs => .skip (Sl.congr h (by simpa using hl) fun i x v e1 e2 => by
      have := hs (i + 1) x v (by rw [slot_succ]; exact e1) (by simpa using e2)
      simpa using this)
  | _, _, s' :: σ', _, .cons (x := x) (v := v) h, hl, hs => by
      have h0 := hs 0 x v slot_zero rfl
      simp at h0; subst h0
      exact .cons (Sl.congr h (by simpa using hl) fun i x v e1 e2 => by
        have := hs (i + 1) x v (by rw [slot_succ]; exact e1) (by simpa using e2)
        simpa using this)
theorem slot_set {env : Env} {i j : Nat} {o : Option W} : slot (env.set i o) j = if i = j then (if i < env.length then o else none) else slot env j := by
  unfold slot
  rw [List.getD_eq_getElem?_getD, List.getD_eq_getElem?_getD, List.getElem?_set]
  split
  · rename_i h
    split <;> rfl
  · rfl
theorem wipeE_slot {env : Env} {j : Nat} {x : W} : ∀ {own : List (Str × Nat)}, slot (wipeE env own) j = some x → j ∉ own.map (·.2)
  | [], _ => by simp
  | p :: r, h => by
    have h : slot ((wipeE env r).set p.2 none) j = some x := h
    rw [slot_set] at h
    split at h
    · split at h <;> cases h
    · rename_i hne
      have := wipeE_slot h
      simp only [List.map_cons, List.mem_cons, not_or]
      exact ⟨fun e => hne e.symm, this⟩
theorem wipeE_length {env : Env} : ∀ {own : List (Str × Nat)}, (wipeE env own).length = env.length
  | [] => rfl
  | p :: r => by
    show ((wipeE env r).set p.2 none).length = _
    rw [List.length_set, wipeE_length]
theorem Sl.wipe {env : Env} {σ : St} {L : List WV} (h : Sl env σ L) : ∀ (own : List (Str × Nat)), ∃ M, Sl (wipeE env own) σ M ∧ M.Sublist L
  | [] => ⟨L, h, List.Sublist.refl _⟩
  | p :: r => by
    obtain ⟨M, a, b⟩ := Sl.wipe h r
    obtain ⟨M', a', b'⟩ := a.drop p.2
    exact ⟨M', a', b'.trans b⟩
theorem wipe_at {σ : St} {i : Nat} : ∀ {vs : List Nat}, i ∉ vs → (wipe σ vs)[i]? = σ[i]?
  | [], _ => rfl
  | v :: vs, h => by
    simp only [List.mem_cons, not_or] at h
    show ((wipe σ vs).set v none)[i]? = _
    rw [List.getElem?_set_ne (fun e => h.1 e.symm), wipe_at h.2]
theorem Sl.wiped {env : Env} {own : List (Str × Nat)} {σ σ' : St} {M : List WV} (h : Sl (wipeE env own) σ M) (e : L2.wipe σ' (own.map (·.2)) = L2.wipe σ (own.map (·.2))) : Sl (wipeE env own) σ' M := by
  refine h.congr ?_ fun i x v e1 e2 => ?_
  · have := congrArg List.length e
    rwa [wipe_length, wipe_length] at this
  · have hn := wipeE_slot e1
    rw [← wipe_at hn, e, wipe_at hn, e2]
theorem Sl.wiped2 {env : Env} {own : List (Str × Nat)} {σ σ' : St} {M : List WV} (h : Sl (wipeE env own) σ M) (hl : σ'.length = σ.length) (e : ∀ i, i ∉ own.map (·.2) → σ'[i]? = σ[i]?) : Sl (wipeE env own) σ' M :=
  h.congr hl fun i x v e1 e2 => by rw [e i (wipeE_slot e1), e2]
theorem wipe_set {σ : St} {i : Nat} {o : Option V} {vs : List Nat} (h : i ∈ vs) : L2.wipe (σ.set i o) vs = L2.wipe σ vs := by
  apply List.ext_getElem?
  intro j
  by_cases hj : j ∈ vs
  · have go : ∀ (τ : St), τ.length = σ.length → (L2.wipe τ vs)[j]? = if j < σ.length then some none else none := fun τ hτ => by
      cases e : (L2.wipe τ vs)[j]? with
      | none =>
        rw [List.getElem?_eq_none_iff, wipe_length, hτ] at e
        rw [if_neg (by omega)]
      | some o =>
        cases o with
        | some v => exact absurd hj (wipe_some e).2
        | none =>
          have : j < (L2.wipe τ vs).length := (List.getElem?_eq_some_iff.mp e).1
          rw [wipe_length, hτ] at this
          rw [if_pos this]
    rw [go _ (by rw [List.length_set]), go _ rfl]
  · rw [wipe_at hj, wipe_at hj, List.getElem?_set_ne (fun e => hj (by rw [← e]; exact h))]
end

/-- a slot stored with data -/
theorem store_len {keep : List Nat} {i : Nat} {x : W} {env env1 : Env} (e : store keep i x env = some env1) : i ∉ keep ∧ i < env.length ∧ env1 = env.set i (some x) := by
  unfold store at e
  split at e
  · cases e
  · rename_i h
    simp only [not_or, Nat.not_le] at h
    refine ⟨fun hk => h.1 (by simpa using hk), h.2, (Option.some.inj e).symm⟩
/-- the slot's old thing out, the new in -/
theorem Sl.put2 {K : PySem.W.Frag} {w : World} {Hf H Hf0 H0 : Hp} {L L0 T : List WV} {env : Env} {σ : St} {i : Nat} {x : W} {v : V} (sl : Sl env σ L) (hi : i < env.length) (st : Step Hf0 H0 L0 Hf H ((x, v) :: (T ++ L))) (fam : Fam K w Hf H ((x, v) :: (T ++ L))) :
    ∃ L', Sl (env.set i (some x)) (σ.set i (some v)) L' ∧ Step Hf0 H0 L0 Hf H (T ++ L') ∧ Fam K w Hf H (T ++ L') := by
  obtain ⟨M, a, b⟩ := sl.drop i
  obtain ⟨L', a', p⟩ := a.put (x := x) (v := v) hi
  have sub : ((x, v) :: (T ++ M)).Sublist ((x, v) :: (T ++ L)) := (b.append_left T).cons_cons _
  have pm : ((x, v) :: (T ++ M)).Perm (T ++ L') := (List.perm_middle.symm).trans ((List.perm_append_left_iff T).mpr p.symm)
  refine ⟨L', a', st.less fun c hc => ?_, (fam.sub sub).perm pm⟩
  obtain ⟨q, hq, hc⟩ := (Owned.perm pm).mpr hc
  exact ⟨q, sub.mem hq, hc⟩
/-- .. of data -/
theorem Sl.storeD {K : PySem.W.Frag} {w : World} {Hf H Hf0 H0 : Hp} {L L0 T : List WV} {env env1 : Env} {σ : St} {keep : List Nat} {i : Nat} {d : D} {v : V} (e : store keep i (.d d) env = some env1) (sl : Sl env σ L) (st : Step Hf0 H0 L0 Hf H (T ++ L)) (fam : Fam K w Hf H (T ++ L)) (dn : Den K w Hf d v) :
    ∃ L', Sl env1 (σ.set i (some v)) L' ∧ Step Hf0 H0 L0 Hf H (T ++ L') ∧ Fam K w Hf H (T ++ L') := by
  obtain ⟨_, hi, rfl⟩ := store_len e
  refine sl.put2 hi (st.less fun c hc => ?_) (fam.cons_d dn)
  rcases Owned.cons.mp hc with hc | hc
  · cases hc
  · exact hc

theorem ne_keep {keep : List Nat} {i j : Nat} (h : i ∉ keep) (hj : j ∈ keep) : i ≠ j := fun z => h (by rw [z]; exact hj)
def tgSlots : Tg → List Nat
  | .one i => [i]
  | .two i j => [i, j]
  | .three i j k => [i, j, k]
/-- a target taken from data, kept in a plain form -/
def gTg (K : PySem.W.Frag) : Tg → TG
  | .one i => gName i
  | .two i j => fun v σ H Q => gTup K 2 (gCons (gName i) (gCons (gName j) gNil)) v σ H Q ∨ gStr2 (gCons (gName i) (gCons (gName j) gNil)) v σ H Q
  | .three i j k => gTup K 3 (gCons (gName i) (gCons (gName j) (gCons (gName k) gNil)))
section
variable {X : Cx} {xi : XI} {W : WX} {lv : Nat}
theorem pg_nm {N : List Str} {nm : Nms} (hN : X.N = N) (hd : X.N.Nodup) (n : NmOk X nm) {i : Nat} {x : Str} {pos : Pos} (h1 : N[i]? = some x) (h2 : locB nm x = true) : PG X (.Name x pos) (gName i) := by
  obtain ⟨a, b⟩ := n.loc x h2
  exact pg_name hd (by rw [hN]; exact h1) a b
theorem pg_tg {N : List Str} {nm : Nms} (c : CxOk X lv) (hN : X.N = N) (n : NmOk X nm) {tg : Tg} {t : Expr} (h : tgOk N nm tg t = true) : PG X t (gTg X.K tg) := by
  unfold tgOk at h
  split at h
  · simp only [Bool.and_eq_true, decide_eq_true_eq] at h
    exact pg_nm hN c.nd n h.1.1 h.1.2
  · simp only [Bool.and_eq_true, decide_eq_true_eq] at h
    obtain ⟨⟨⟨⟨⟨h1, h2⟩, h3⟩, h4⟩, h5⟩, h6⟩ := h
    exact pg_or (pg_tup c.calm (pgs_cons (pg_nm hN c.nd n h1 h2) (pgs_cons (pg_nm hN c.nd n h4 h5) pgs_nil))) (pg_str2 c.calm (pgs_cons (pg_nm hN c.nd n h1 h2) (pgs_cons (pg_nm hN c.nd n h4 h5) pgs_nil)) rfl rfl)
  · simp only [Bool.and_eq_true, decide_eq_true_eq] at h
    obtain ⟨⟨⟨⟨⟨⟨⟨⟨h1, h2⟩, h3⟩, h4⟩, h5⟩, h6⟩, h7⟩, h8⟩, h9⟩ := h
    exact pg_tup c.calm (pgs_cons (pg_nm hN c.nd n h1 h2) (pgs_cons (pg_nm hN c.nd n h4 h5) (pgs_cons (pg_nm hN c.nd n h7 h8) pgs_nil)))
  · cases h
theorem tgOk_slots {N : List Str} {nm : Nms} {tg : Tg} {t : Expr} (h : tgOk N nm tg t = true) : ∀ i ∈ tgSlots tg, ∃ x, N[i]? = some x ∧ locB nm x = true := by
  unfold tgOk at h
  split at h
  · simp only [Bool.and_eq_true, decide_eq_true_eq] at h
    intro k hk
    rcases List.mem_singleton.mp hk with rfl
    exact ⟨_, h.1.1, h.1.2⟩
  · simp only [Bool.and_eq_true, decide_eq_true_eq] at h
    obtain ⟨⟨⟨⟨⟨h1, h2⟩, h3⟩, h4⟩, h5⟩, h6⟩ := h
    intro k hk
    simp only [tgSlots, List.mem_cons, List.not_mem_nil, or_false] at hk
    rcases hk with rfl | rfl
    · exact ⟨_, h1, h2⟩
    · exact ⟨_, h4, h5⟩
  · simp only [Bool.and_eq_true, decide_eq_true_eq] at h
    obtain ⟨⟨⟨⟨⟨⟨⟨⟨h1, h2⟩, h3⟩, h4⟩, h5⟩, h6⟩, h7⟩, h8⟩, h9⟩ := h
    intro k hk
    simp only [tgSlots, List.mem_cons, List.not_mem_nil, or_false] at hk
    rcases hk with rfl | rfl | rfl
    · exact ⟨_, h1, h2⟩
    · exact ⟨_, h4, h5⟩
    · exact ⟨_, h7, h8⟩
  · cases h
/-- a target stored: only its slots change -/
theorem tg_fin {K : PySem.W.Frag} {w : World} {keep : List Nat} {tg : Tg} {d : D} {v : V} {env env1 : Env} {σ : St} {Hf H Hf0 H0 : Hp} {L L0 T : List WV} {Q : St → Hp → Prop} (e : assignTg keep tg d env = some env1) (sl : Sl env σ L) (st : Step Hf0 H0 L0 Hf H (T ++ L)) (fam : Fam K w Hf H (T ++ L)) (dn : Den K w Hf d v)
    (q : ∀ σ' L', Sl env1 σ' L' → Step Hf0 H0 L0 Hf H (T ++ L') → Fam K w Hf H (T ++ L') → σ'.length = σ.length → (∀ vs : List Nat, (∀ i ∈ tgSlots tg, i ∈ vs) → L2.wipe σ' vs = L2.wipe σ vs) → (∀ i, i ∈ keep → σ'[i]? = σ[i]?) → Q σ' H) : gTg K tg v σ H Q := by
  cases tg with
  | one i =>
    have e : store keep i (.d d) env = some env1 := e
    obtain ⟨L', a, b, c⟩ := Sl.storeD e sl st fam dn
    exact q _ L' a b c (by rw [List.length_set]) (fun vs h => wipe_set (h i (by simp [tgSlots]))) fun j hj => List.getElem?_set_ne (ne_keep (store_len e).1 hj)
  | two i j =>
    cases dn with
    | tup hq l =>
      cases l with
      | nil => cases e
      | cons d1 l =>
        cases l with
        | nil => cases e
        | cons d2 l =>
          cases l with
          | cons _ _ => cases e
          | nil =>
            rename_i x u y u'
            have e : (store keep i (.d x) env).bind (store keep j (.d y)) = some env1 := e
            cases e1 : store keep i (.d x) env with
            | none => rw [e1] at e; cases e
            | some env2 =>
              rw [e1] at e
              have e : store keep j (.d y) env2 = some env1 := e
              obtain ⟨L', a, b, c⟩ := Sl.storeD e1 sl st fam d1
              obtain ⟨L2, a2, b2, c2⟩ := Sl.storeD e a b c d2
              refine .inl ⟨_, _, rfl, SqT.same st.sub hq, rfl, _, _, rfl, _, _, rfl, rfl, q _ L2 a2 b2 c2 (by rw [List.length_set, List.length_set]) (fun vs h => ?_) fun k hk => ?_⟩
              · rw [wipe_set (h j (by simp [tgSlots])), wipe_set (h i (by simp [tgSlots]))]
              · rw [List.getElem?_set_ne (ne_keep (store_len e).1 hk), List.getElem?_set_ne (ne_keep (store_len e1).1 hk)]
    | str z =>
      have e : (match z.cps.toList with
        | [c, d] => if c < 128 ∧ d < 128 then (store keep i (.d (.str ⟨#[c]⟩)) env).bind (store keep j (.d (.str ⟨#[d]⟩))) else none
        | _ => none) = some env1 := e
      split at e
      · rename_i c d hz
        by_cases hcd : c < 128 ∧ d < 128
        · rw [if_pos hcd] at e
          cases e1 : store keep i (.d (.str ⟨#[c]⟩)) env with
          | none => rw [e1] at e; cases e
          | some env2 =>
            rw [e1] at e
            have e : store keep j (.d (.str ⟨#[d]⟩)) env2 = some env1 := e
            obtain ⟨L', a, b, c'⟩ := Sl.storeD e1 sl st fam (.str _)
            obtain ⟨L2, a2, b2, c2⟩ := Sl.storeD e a b c' (.str _)
            refine .inr ⟨z, c, d, rfl, by rw [← Array.toList_inj, hz], hcd.1, hcd.2, _, _, rfl, _, _, rfl, rfl, q _ L2 a2 b2 c2 (by rw [List.length_set, List.length_set]) (fun vs h => ?_) fun k hk => ?_⟩
            · rw [wipe_set (h j (by simp [tgSlots])), wipe_set (h i (by simp [tgSlots]))]
            · rw [List.getElem?_set_ne (ne_keep (store_len e).1 hk), List.getElem?_set_ne (ne_keep (store_len e1).1 hk)]
        · rw [if_neg hcd] at e; cases e
      · cases e
    | _ => cases e
  | three i j k =>
    cases dn with
    | tup hq l =>
      cases l with
      | nil => cases e
      | cons d1 l =>
        cases l with
        | nil => cases e
        | cons d2 l =>
          cases l with
          | nil => cases e
          | cons d3 l =>
            cases l with
            | cons _ _ => cases e
            | nil =>
              rename_i x u y u' z u''
              have e : (store keep i (.d x) env).bind (fun env => (store keep j (.d y) env).bind (store keep k (.d z))) = some env1 := e
              cases e1 : store keep i (.d x) env with
              | none => rw [e1] at e; cases e
              | some env2 =>
                rw [e1] at e
                have e : (store keep j (.d y) env2).bind (store keep k (.d z)) = some env1 := e
                cases e2 : store keep j (.d y) env2 with
                | none => rw [e2] at e; cases e
                | some env3 =>
                  rw [e2] at e
                  have e : store keep k (.d z) env3 = some env1 := e
                  obtain ⟨L', a, b, c⟩ := Sl.storeD e1 sl st fam d1
                  obtain ⟨L2, a2, b2, c2⟩ := Sl.storeD e2 a b c d2
                  obtain ⟨L3, a3, b3, c3⟩ := Sl.storeD e a2 b2 c2 d3
                  refine ⟨_, _, rfl, SqT.same st.sub hq, rfl, _, _, rfl, _, _, rfl, _, _, rfl, rfl, q _ L3 a3 b3 c3 (by rw [List.length_set, List.length_set, List.length_set]) (fun vs h => ?_) fun m hm => ?_⟩
                  · rw [wipe_set (h k (by simp [tgSlots])), wipe_set (h j (by simp [tgSlots])), wipe_set (h i (by simp [tgSlots]))]
                  · rw [List.getElem?_set_ne (ne_keep (store_len e).1 hm), List.getElem?_set_ne (ne_keep (store_len e2).1 hm), List.getElem?_set_ne (ne_keep (store_len e1).1 hm)]
    | _ => cases e
end
end PyEv

set_option maxRecDepth 100000
set_option maxHeartbeats 2000000
/-! PyC2: list comprehensions, the turns. -/
namespace PyEv
open PySem L2

theorem wipe_eq {σ σ' : St} {vs : List Nat} (hl : σ'.length = σ.length) (h : ∀ i, i ∉ vs → σ'[i]? = σ[i]?) : L2.wipe σ' vs = L2.wipe σ vs := by
  apply List.ext_getElem?
  intro j
  by_cases hj : j ∈ vs
  · have go : ∀ (τ : St), τ.length = σ.length → (L2.wipe τ vs)[j]? = if j < σ.length then some none else none := fun τ hτ => by
      cases e : (L2.wipe τ vs)[j]? with
      | none =>
        rw [List.getElem?_eq_none_iff, wipe_length, hτ] at e
        rw [if_neg (by omega)]
      | some o =>
        cases o with
        | some v => exact absurd hj (wipe_some e).2
        | none =>
          have : j < (L2.wipe τ vs).length := (List.getElem?_eq_some_iff.mp e).1
          rw [wipe_length, hτ] at this
          rw [if_pos this]
    rw [go _ hl, go _ rfl]
  · rw [wipe_at hj, wipe_at hj, h j hj]
theorem wipe_wipe {σ : St} {vs : List Nat} : L2.wipe (L2.wipe σ vs) vs = L2.wipe σ vs := wipe_eq (wipe_length _ _) fun i h => wipe_at h

/-- where nothing is raised: an inner part with any wish -/
theorem bindN {α β γ δ : Type} {K : PySem.W.Frag} {w : World} {xi : XI} {X X' : WX} {R1 : RR α β} {R2 : RR γ δ} {r : Env → Res α} {f : α → Env → Res γ} {σ σ' : St} {Hf H Hf1 H1 : Hp} {L T L1 : List WV} {env1 : Env} {Q : δ → Hp → Prop} {Q' : β → Hp → Prop}
    (st : Step Hf H L Hf1 H1 (T ++ L1)) (fam : Fam K w Hf1 H1 (T ++ L1)) (sl : Sl env1 σ' L1) (fin : Fin K w xi X R2 σ Hf H L ((r env1).noX.bind f) Q)
    (next : ∀ a env2 b T2 Hf2 H2 L2, R1 σ' Hf2 a b T2 → Sl env2 σ' L2 → Step Hf H L Hf2 H2 (T ++ (T2 ++ L2)) → Fam K w Hf2 H2 (T ++ (T2 ++ L2)) → Step Hf1 H1 L1 Hf2 H2 (T2 ++ L2) → Fin K w xi X R2 σ Hf H L (f a env2) Q → Q' b H2) :
    tG K w xi X' R1 r σ' H1 Q' := by
  have famL : Fam K w Hf1 H1 L1 := fam.sub (List.sublist_append_right _ _)
  refine ⟨Hf1, env1, L1, ⟨sl, famL, st.sub⟩, ?_⟩
  cases e : r env1 with
  | ok a env2 =>
    intro b T2 Hf2 H2 L2 hR hs hst hf
    rw [e] at fin
    exact next a env2 b T2 Hf2 H2 L2 hR hs (st.trans hst) (fam.carry hst hf) hst fin
  | exc x env2 =>
    rw [e] at fin
    exact (show False from fin).elim
  | bad =>
    rw [e] at fin
    exact fin

section
variable {K : PySem.W.Frag} {w : World} {xi : XI} {X W0 : WX}
/-- the slots of a block back at a turn's end -/
theorem Sl.turn {own : List (Str × Nat)} {σ σ' : St} {env : Env} {L : List WV} (sl : Sl env σ' L) (h : L2.wipe σ' (own.map (·.2)) = L2.wipe σ (own.map (·.2))) :
    ∃ M, Sl (wipeE (wipeE env own) own) (L2.wipe σ (own.map (·.2))) M ∧ M.Sublist L := by
  obtain ⟨M, a, b⟩ := sl.wipe own
  obtain ⟨M', a', b'⟩ := (a.wiped (σ' := L2.wipe σ (own.map (·.2))) (wipe_wipe.trans h.symm)).wipe own
  exact ⟨M', a', b'.trans b⟩
theorem lc_run {keep : List Nat} {tg : Tg} {own : List (Str × Nat)} {it : Env → Res (List D)} {ct : Env → Res Bool} {ce : Env → Res D} {tt : TT} {σ : St} {H : Hp} {Q : VK}
    (hv : ∀ i ∈ tgSlots tg, i ∈ own.map (·.2)) (htt : ∀ σ H Q, tG K w xi W0 RB ct σ H Q → tt σ H Q)
    (q : tG K w xi X RAr (fun env => (it env).bind fun xs env => (lcL keep tg own ct ce xs [] env).bind fun ys env => .ok (.val (.lst ys)) (wipeE env own)) σ H Q) :
    tLc (tG K w xi X (RWalk K w) it) (gTg K tg) tt (tG K w xi W0 (RD K w) ce) (own.map (·.2)) σ H Q := by
  refine bindF (R1 := RWalk K w) (R2 := RAr) q fun Hf L xs env1 J T1 Hf1 H1 L1 r1 sl1 st1 fam1 fin => ?_
  obtain ⟨ws, rfl⟩ := r1
  intro A hA
  -- what stands at turn i
  let S : Nat → Hp → Prop := fun i H' => ∃ env' acc Hf' L', Sl (wipeE env' own) (L2.wipe σ (own.map (·.2))) L' ∧ Step Hf H L Hf' H' ([(.lst acc, .ref A)] ++ L') ∧ Fam K w Hf' H' ([(.lst acc, .ref A)] ++ L') ∧ Same Hf1 Hf' ∧
    Fin K w xi X RAr σ Hf H L ((lcL keep tg own ct ce (xs.drop i) acc env').bind fun ys env => .ok (.val (.lst ys)) (wipeE env own)) Q
  refine ⟨fun i m H' => m = xs.length - i ∧ i ≤ xs.length ∧ S i H', ⟨xs.length, by simp, Nat.zero_le _, ?_⟩, ?_⟩
  · obtain ⟨sA, fA⟩ := new_own (o := .lst []) (x := .lst []) st1.sub hA fam1 (.lst upd_same (none_of st1.sub hA) .nil)
    obtain ⟨M, a, b⟩ := sl1.wipe own
    have sub : ([((.lst [], .ref A) : WV)] ++ M).Sublist ((.lst [], .ref A) :: ([] ++ L1)) := b.cons_cons _
    exact ⟨env1, [], Hf1, M, a.wiped2 (wipe_length _ _) (fun i h => wipe_at h), (st1.tr sA).less (fun c ⟨q, hq, hc⟩ => ⟨q, sub.mem hq, hc⟩), fA.sub sub, Same.refl _, fin⟩
  · rintro i m H' ⟨rfl, hi, env', acc, Hf', L', sl', st', fam', sm, fin'⟩
    obtain ⟨w1, w2, w3⟩ := ws Hf' H' sm st'.sub i
    by_cases hlt : i < xs.length
    · have ex : xs.drop i = xs[i] :: xs.drop (i + 1) := List.drop_eq_getElem_cons hlt
      rw [ex] at fin'
      cases ea : assignTg keep tg xs[i] (wipeE env' own) with
      | none =>
        have : lcL keep tg own ct ce (xs[i] :: xs.drop (i + 1)) acc env' = .bad := by simp only [lcL, ea]
        rw [this] at fin'; exact fin'.elim
      | some env2 =>
        have : lcL keep tg own ct ce (xs[i] :: xs.drop (i + 1)) acc env' = (ct env2).noX.bind fun b env2 => if b = true then (ce env2).noX.bind fun y env3 => if acc.length < line then lcL keep tg own ct ce (xs.drop (i + 1)) (acc ++ [y]) (wipeE env3 own) else .bad
            else lcL keep tg own ct ce (xs.drop (i + 1)) acc (wipeE env2 own) := by simp only [lcL, ea]
        rw [this] at fin'
        have fin' : Fin K w xi X RAr σ Hf H L ((ct env2).noX.bind fun b env2 => (if b = true then (ce env2).noX.bind fun y env3 => if acc.length < line then lcL keep tg own ct ce (xs.drop (i + 1)) (acc ++ [y]) (wipeE env3 own) else .bad
            else lcL keep tg own ct ce (xs.drop (i + 1)) acc (wipeE env2 own)).bind fun ys env => .ok (.val (.lst ys)) (wipeE env own)) Q := by
          cases h : (ct env2) <;> (rw [h] at fin'; exact fin')
        refine .inr ⟨w2 hlt, S (i + 1), fun H2 s => ⟨xs.length - (i + 1), by omega, rfl, hlt, s⟩, fun x H2 hy => ?_⟩
        obtain ⟨Hg, dn, stp, fm⟩ := w3 x H2 xs[i] ([(.lst acc, .ref A)] ++ L') hy (List.getElem?_eq_getElem hlt) fam'
        refine tg_fin (T := [(.lst acc, .ref A)]) ea sl' (st'.tr stp) fm dn fun σ2 M2 sl2 st2 fam2 hlen hwp _ => ?_
        have hw2 : L2.wipe σ2 (own.map (·.2)) = L2.wipe σ (own.map (·.2)) := (hwp _ hv).trans wipe_wipe
        refine ⟨hw2, htt _ _ _ (bindN (R1 := RB) (R2 := RAr) st2 fam2 sl2 fin' fun b env3 b' T3 Hf3 H3 L3 r3 sl3 st3 fam3 st23 fin3 => ?_)⟩
        obtain ⟨rfl, rfl⟩ := r3
        have sm3 : Same Hf1 Hf3 := (sm.trans stp.subf).trans st23.subf
        cases b with
        | false =>
          simp only [Bool.false_eq_true, if_false] at fin3 ⊢
          obtain ⟨M, a, b⟩ := sl3.turn hw2
          have sub : ([((.lst acc, .ref A) : WV)] ++ M).Sublist ([(.lst acc, .ref A)] ++ ([] ++ L3)) := b.cons_cons _
          exact ⟨_, acc, Hf3, M, a, st3.less (fun c ⟨q, hq, hc⟩ => ⟨q, sub.mem hq, hc⟩), fam3.sub sub, sm3, fin3⟩
        | true =>
          simp only [if_true] at fin3 ⊢
          have fin3 : Fin K w xi X RAr σ Hf H L ((ce env3).noX.bind fun y env3 => (if acc.length < line then lcL keep tg own ct ce (xs.drop (i + 1)) (acc ++ [y]) (wipeE env3 own) else .bad).bind fun ys env => .ok (.val (.lst ys)) (wipeE env own)) Q := by
            cases h : (ce env3) <;> (rw [h] at fin3; exact fin3)
          refine bindN (R1 := RD K w) (R2 := RAr) st3 fam3 sl3 fin3 fun y env4 v T4 Hf4 H4 L4 r4 sl4 st4 fam4 st34 fin4 => ?_
          obtain ⟨dn4, rfl⟩ := r4
          by_cases hz : acc.length < line
          · rw [if_pos hz] at fin4
            have rA := fam4.rep (.lst acc, .ref A) (List.mem_append_left _ List.mem_cons_self)
            generalize eX : (PyEv.W.lst acc, V.ref A) = pA at rA
            have rA : RepW K w Hf4 H4 (.lst acc) (.ref A) := by rw [← eX] at rA; exact rA
            cases rA with
            | @lst _ _ us hus hn dl =>
              refine ⟨us, hus, by rw [← dl.length]; exact hz, ?_⟩
              obtain ⟨sB, fB⟩ := write_own (a := A) (o := .lst (us ++ [v])) (x := .lst acc) (y := .lst (acc ++ [y])) st4.sub fam4 (by simp [ad]) (by simp [ad]) (.lst upd_same hn (dl.append (.cons dn4 .nil)))
              obtain ⟨M, a, b⟩ := sl4.turn hw2
              have sub : ([((.lst (acc ++ [y]), .ref A) : WV)] ++ M).Sublist ([(.lst (acc ++ [y]), .ref A)] ++ ([] ++ L4)) := b.cons_cons _
              exact ⟨_, acc ++ [y], Hf4, M, a, (st4.tr sB).less (fun c ⟨q, hq, hc⟩ => ⟨q, sub.mem hq, hc⟩), fB.sub sub, sm3.trans st34.subf, fin4⟩
          · rw [if_neg hz] at fin4; exact fin4.elim
    · have e : i = xs.length := by omega
      subst e
      rw [List.drop_length] at fin'
      have fin' : Fin K w xi X RAr σ Hf H L (.ok (.val (.lst acc)) (wipeE env' own)) Q := fin'
      exact .inl ⟨w1 (Nat.le_refl _), fin' (.ref A) [(.lst acc, .ref A)] Hf' H' L' .val (sl'.wiped2 (wipe_length _ _).symm fun j hj => (wipe_at hj).symm) st' fam'⟩
end

/-! ### the block's context -/
section
variable {X : Cx} {xi : XI} {W : WX} {lv : Nat}
theorem lookup_relS_free {sc : Scope} : ∀ {names : List (Str × NameKind)} {x : Str}, names.lookup x = some .free →
    (names.map fun (n, k) => if (k == NameKind.free && sc.kind == .function && sc.names.lookup n == some .cell) then (n, NameKind.cell) else (n, k)).lookup x = some .cell ∨
    (names.map fun (n, k) => if (k == NameKind.free && sc.kind == .function && sc.names.lookup n == some .cell) then (n, NameKind.cell) else (n, k)).lookup x = some .free
  | [], _, h => by simp at h
  | (n, k₀) :: r, x, h => by
    have ih := @lookup_relS_free sc r x
    have go : ∀ p : Str × NameKind, List.map (fun (n, k) => if (k == NameKind.free && sc.kind == .function && sc.names.lookup n == some .cell) = true then (n, NameKind.cell) else (n, k)) ((n, k₀) :: r) =
      (if (k₀ == NameKind.free && sc.kind == .function && sc.names.lookup n == some .cell) = true then (n, NameKind.cell) else (n, k₀)) :: (r.map fun (n, k) => if (k == NameKind.free && sc.kind == .function && sc.names.lookup n == some .cell) then (n, NameKind.cell) else (n, k)) := fun _ => rfl
    rw [go (n, k₀)]
    cases hx : x == n with
    | true =>
      simp only [List.lookup_cons, hx] at h
      cases h
      by_cases hc : (NameKind.free == NameKind.free && sc.kind == .function && sc.names.lookup n == some .cell) = true
      · rw [if_pos hc]; left; simp only [List.lookup_cons, hx]
      · rw [if_neg hc]; right; simp only [List.lookup_cons, hx]
    | false =>
      simp only [List.lookup_cons, hx] at h
      by_cases hc : (k₀ == NameKind.free && sc.kind == .function && sc.names.lookup n == some .cell) = true
      · rw [if_pos hc]; simp only [List.lookup_cons, hx]; exact ih h
      · rw [if_neg hc]; simp only [List.lookup_cons, hx]; exact ih h

theorem NmOk.blk {nm : Nms} (scope : Scope) {s : Shared} {H : Hp} {C : Addr} {cl : List (Str × Addr)} {fp : List Addr} : NmOk (X.blk s H scope (compEnvC scope cl C X.env) fp) scope.names := by
  have hs : (X.blk s H scope (compEnvC scope cl C X.env) fp).env.scope = relS scope X.env.scope := rfl
  refine ⟨fun x h => ?_, fun x h => ?_, fun x h => ?_, fun x h => ?_⟩
  · unfold Vis
    rw [hs]
    unfold visB at h
    split at h
    · rename_i e; exact .inl (lookup_relS_keep (by decide) e)
    · rename_i e; exact .inr (.inl (lookup_relS_keep (by decide) e))
    · rename_i e; exact .inr (lookup_relS_free e)
    · cases h
  · unfold glB at h
    split at h
    · rename_i e; exact lookup_relS_keep (by decide) e
    · cases h
  · unfold locB at h
    split at h
    · rename_i e
      have := lookup_relS_keep (sc := X.env.scope) (by decide) e
      exact ⟨.inl this, .inr this⟩
    · rename_i e
      have := lookup_relS_keep (sc := X.env.scope) (by decide) e
      exact ⟨.inr this, .inl (by show (scope.names.lookup x == some .cell) = true; rw [e]; rfl)⟩
    · cases h
  · rcases h with h | h
    · exact .inl (lookup_relS_keep (by decide) h)
    · exact lookup_relS_free h
theorem CxOk.blk (c : CxOk X lv) (scope : Scope) {s : Shared} {H : Hp} {env : PySem.Env} {fp : List Addr} : CxOk (X.blk s H scope env fp) lv := ⟨c.calm, c.room, c.guards, c.nd, c.blt⟩
theorem blkOk_of {N : List Str} {nm : Nms} (hN : X.N = N) (n : NmOk X nm) {scope : Scope} {own : List (Str × Nat)} (h : blkC N { scope with names := nm } scope own = true) : BlkOk X.N X.env.scope scope own := by
  have b := blkOk_by h
  exact ⟨b.kind, b.uniq, by rw [hN]; exact b.ix, fun y hy e => n.cf y.1 (b.free y hy e), by rw [hN]; exact b.own⟩
/-- what the block's parts are -/
structure LcOk (X : Cx) (N : List Str) (nm : Nms) (tg : Tg) (t : Expr) (scope : Scope) (own : List (Str × Nat)) : Prop where
  blk : BlkOk X.N X.env.scope scope own
  tgs : ∀ i ∈ tgSlots tg, i ∈ own.map (·.2)
theorem lcOk_of {N : List Str} {nm : Nms} (c : CxOk X lv) (hN : X.N = N) (n : NmOk X nm) {tg : Tg} {t : Expr} {scope : Scope} {own : List (Str × Nat)} (h : blkC N { scope with names := nm } scope own = true) (ht : tgOk N scope.names tg t = true) : LcOk X N nm tg t scope own := by
  have b := blkOk_of hN n h
  refine ⟨b, fun i hi => ?_⟩
  obtain ⟨x, hx, hl⟩ := tgOk_slots ht i hi
  have key : ∀ k, scope.names.lookup x = some k → k = .local ∨ k = .cell → i ∈ own.map (·.2) := fun k e hk => by
    rw [← hN] at hx
    rcases b.own _ (PySem.mem_of_lookup e) hk with h | h
    · obtain ⟨p, hp, hpy⟩ := List.mem_map.mp h
      have e3 := b.ix p hp
      have : p.1 = x := hpy
      rw [this] at e3
      exact List.mem_map.mpr ⟨p, hp, nodup_ix c.nd e3 hx⟩
    · exact absurd (List.mem_of_getElem? hx) h
  unfold locB at hl
  split at hl
  · rename_i e; exact key _ e (.inl rfl)
  · rename_i e; exact key _ e (.inr rfl)
  · cases hl
/-- no set display walked -/
theorem noSet_of {e : Expr} {env : PySem.Env} (h : notSet e = true) (x : Value) : foldedSetIterable e env x = pure x := by
  cases e <;> first | rfl | cases h
end
end PyEv

set_option maxRecDepth 100000
set_option maxHeartbeats 2000000
/-! PyS1: a comprehension as a value; statements: the frame. -/
namespace PyEv
open PySem L2

section
variable {X : Cx} {xi : XI} {W : WX} {lv : Nat}
abbrev WNo : WX := fun _ _ _ _ => False
/-- a comprehension's sound parts -/
structure LcS (X : Cx) (xi : XI) (W : WX) (tg : Tg) (t iter e : Expr) (ifs : List Expr) (scope : Scope) (own : List (Str × Nat)) (it : Env → Res (List D)) (ct : Env → Res Bool) (ce : Env → Res D) : Prop where
  ok : BlkOk X.N X.env.scope scope own
  hv : ∀ i ∈ tgSlots tg, i ∈ own.map (·.2)
  hi : SndIt X xi W t iter it
  hg : ∀ (s : Shared) (H : Hp) (C : Addr) (cl : List (Str × Addr)) (fp : List Addr), PG (X.blk s H scope (compEnvC scope cl C X.env) fp) t (gTg X.K tg)
  tt : ∃ tt : TT, (∀ (s : Shared) (H : Hp) (C : Addr) (cl : List (Str × Addr)) (fp : List Addr), PTs (X.blk s H scope (compEnvC scope cl C X.env) fp) ifs tt) ∧ ∀ σ H Q, tG X.K X.w xi WNo RB ct σ H Q → tt σ H Q
  he : ∀ (s : Shared) (H : Hp) (C : Addr) (cl : List (Str × Addr)) (fp : List Addr), PE (X.blk s H scope (compEnvC scope cl C X.env) fp) e (tG X.K X.w xi WNo (RD X.K X.w) ce)
  ns : notSet iter = true
def lcR (keep : List Nat) (tg : Tg) (own : List (Str × Nat)) (it : Env → Res (List D)) (ct : Env → Res Bool) (ce : Env → Res D) : Env → Res Ar :=
  fun env => (it env).bind fun xs env => (lcL keep tg own ct ce xs [] env).bind fun ys env => .ok (.val (.lst ys)) (wipeE env own)
theorem snd_lc (c : CxOk X lv) {keep : List Nat} {tg : Tg} {t iter e : Expr} {ifs : List Expr} {scope : Scope} {own : List (Str × Nat)} {it : Env → Res (List D)} {ct : Env → Res Bool} {ce : Env → Res D} {pos : Pos} (h : LcS X xi W tg t iter e ifs scope own it ct ce) :
    Snd X xi W (.ListComp e [⟨t, iter, ifs, 0⟩] scope pos) (lcR keep tg own it ct ce) := by
  obtain ⟨tt, h1, h2⟩ := h.tt
  exact Snd.of_pe rfl (impE (pe_lc c.calm c.nd h.hi h.ok h.hg h1 h.he (noSet_of h.ns)) fun σ H Q q => lc_run (W0 := WNo) h.hv h2 q)

/-! ### statements -/
structure StOk (X : Cx) (nm : Nms) : Prop where
  kind : X.env.scope.kind = .function
  pass : PassesOwn (model X.prog X.w) X.A X.env X.xe
  lc : ∀ x, nm.lookup x = some .local → X.env.scope.names.lookup x = some .local
def Kept (keep : List Nat) (σ σ' : St) : Prop := ∀ i ∈ keep, σ'[i]? = σ[i]?
theorem Kept.refl {keep : List Nat} (σ : St) : Kept keep σ σ := fun _ _ => rfl
theorem Kept.trans {keep : List Nat} {σ σ1 σ2 : St} (a : Kept keep σ σ1) (b : Kept keep σ1 σ2) : Kept keep σ σ2 := fun i h => (b i h).trans (a i h)

section
variable (K : PySem.W.Frag) (w : World) (xi : XI) (W : WX) (keep : List Nat)
def FinS (σ : St) (Hf H : Hp) (L : List WV) (fl : Fl) (Z : Ends) : Prop := match fl with
  | .nx env => ∀ σ' Hg H' L', Sl env σ' L' → Step Hf H L Hg H' L' → Fam K w Hg H' L' → Kept keep σ σ' → Z.nx σ' H'
  | .bk env => ∀ σ' Hg H' L', Sl env σ' L' → Step Hf H L Hg H' L' → Fam K w Hg H' L' → Kept keep σ σ' → Z.bk σ' H'
  | .ct env => ∀ σ' Hg H' L', Sl env σ' L' → Step Hf H L Hg H' L' → Fam K w Hg H' L' → Kept keep σ σ' → Z.ct σ' H'
  | .rt x env => ∀ σ' v Hg H' L', Sl env σ' L' → Step Hf H L Hg H' ((x, v) :: L') → Fam K w Hg H' ((x, v) :: L') → Kept keep σ σ' → Z.rt v H'
  | .ex x env => ∀ σ' Hg H' L' cls dd, Sl env σ' L' → Step Hf H L Hg H' L' → Fam K w Hg H' L' → Kept keep σ σ' → xi cls dd x Hg H' → W cls dd σ' H'
  | .bad => False
def tSG (r : Env → Fl) : TS := fun Z σ H => ∃ Hf env L, St0 K w env σ Hf H L ∧ FinS K w xi W keep σ Hf H L (r env) Z
end
section
variable {K : PySem.W.Frag} {w : World} {keep : List Nat}
theorem FinS.rebase {σ σ1 : St} {Hf H Hf1 H1 : Hp} {L L1 : List WV} {fl : Fl} {Z : Ends} (fin : FinS K w xi W keep σ Hf H L fl Z) (st : Step Hf H L Hf1 H1 L1) (k : Kept keep σ σ1) : FinS K w xi W keep σ1 Hf1 H1 L1 fl Z := by
  cases fl with
  | nx env => exact fun σ' Hg H' L' a b c d => fin σ' Hg H' L' a (st.tr b) c (k.trans d)
  | bk env => exact fun σ' Hg H' L' a b c d => fin σ' Hg H' L' a (st.tr b) c (k.trans d)
  | ct env => exact fun σ' Hg H' L' a b c d => fin σ' Hg H' L' a (st.tr b) c (k.trans d)
  | rt x env => exact fun σ' v Hg H' L' a b c d => fin σ' v Hg H' L' a (st.tr b) c (k.trans d)
  | ex x env => exact fun σ' Hg H' L' cls dd a b c d => fin σ' Hg H' L' cls dd a (st.tr b) c (k.trans d)
  | bad => exact fin
/-- from a state on -/
theorem FinS.go {σ σ1 : St} {Hf H Hf1 H1 : Hp} {L L1 : List WV} {env1 : Env} {r : Env → Fl} {Z : Ends} (fin : FinS K w xi W keep σ Hf H L (r env1) Z) (sl : Sl env1 σ1 L1) (st : Step Hf H L Hf1 H1 L1) (fam : Fam K w Hf1 H1 L1) (k : Kept keep σ σ1) : tSG K w xi W keep r Z σ1 H1 :=
  ⟨Hf1, env1, L1, ⟨sl, fam, st.sub⟩, fin.rebase st k⟩
/-- an expression ahead -/
theorem bindS {α β : Type} {R1 : RR α β} {r : Env → Res α} {f : α → Env → Fl} {σ : St} {H : Hp} {Z : Ends} {Q' : β → Hp → Prop} (q : tSG K w xi W keep (fun env => (r env).fl f) Z σ H)
    (next : ∀ Hf L, ∀ a env2 b T2 Hf2 H2 L2, R1 σ Hf2 a b T2 → Sl env2 σ L2 → Step Hf H L Hf2 H2 (T2 ++ L2) → Fam K w Hf2 H2 (T2 ++ L2) → FinS K w xi W keep σ Hf H L (f a env2) Z → Q' b H2) :
    tG K w xi W R1 r σ H Q' := by
  obtain ⟨Hf, env, L, s0, fin⟩ := q
  have fin : FinS K w xi W keep σ Hf H L ((r env).fl f) Z := fin
  refine ⟨Hf, env, L, s0, ?_⟩
  cases e : r env with
  | ok a env2 =>
    intro b T2 Hf2 H2 L2 hR hs hst hf
    rw [e] at fin
    exact next Hf L a env2 b T2 Hf2 H2 L2 hR hs hst hf fin
  | exc x env2 =>
    intro Hf2 H2 L2 cls dd hs hst hf hx
    rw [e] at fin
    exact fin σ Hf2 H2 L2 cls dd hs hst hf (Kept.refl _) hx
  | bad =>
    rw [e] at fin
    exact fin
end
/-- sound statements -/
abbrev SndS (X : Cx) (xi : XI) (W : WX) (keep : List Nat) (st : Stmt) (r : Env → Fl) : Prop := PS X st (tSG X.K X.w xi W keep r)
abbrev SndSs (X : Cx) (xi : XI) (W : WX) (keep : List Nat) (sts : List Stmt) (r : Env → Fl) : Prop := PSs X sts (tSG X.K X.w xi W keep r)
theorem impS {st : Stmt} {t t' : TS} (h : PS X st t) (f : ∀ Z σ H, t' Z σ H → t Z σ H) : PS X st t' := ⟨fun pins s σ H D I q => h.run pins s σ H D I (f D σ H q)⟩
theorem impSs {sts : List Stmt} {t t' : TS} (h : PSs X sts t) (f : ∀ Z σ H, t' Z σ H → t Z σ H) : PSs X sts t' := ⟨fun pins s σ H D I q => h.run pins s σ H D I (f D σ H q)⟩

section
variable {keep : List Nat}
theorem ss_nil : SndSs X xi W keep [] (fun env => .nx env) := impSs pss_nil fun Z σ H q => by
  obtain ⟨Hf, env, L, s0, fin⟩ := q
  exact fin σ Hf H L s0.sl (Step.refl s0.sub) s0.fam (Kept.refl _)
theorem ss_cons {s : Stmt} {ss : List Stmt} {r1 r2 : Env → Fl} (h1 : SndS X xi W keep s r1) (h2 : SndSs X xi W keep ss r2) : SndSs X xi W keep (s :: ss) (fun env => (r1 env).then r2) := impSs (pss_cons h1 h2) fun Z σ H q => by
  obtain ⟨Hf, env, L, s0, fin⟩ := q
  have fin : FinS X.K X.w xi W keep σ Hf H L ((r1 env).then r2) Z := fin
  refine ⟨Hf, env, L, s0, ?_⟩
  cases e : r1 env with
  | nx env2 =>
    rw [e] at fin
    exact fun σ' Hg H' L' a b c d => FinS.go (r := r2) (env1 := env2) fin a b c d
  | bk env2 => rw [e] at fin; exact fin
  | ct env2 => rw [e] at fin; exact fin
  | rt x env2 => rw [e] at fin; exact fin
  | ex x env2 => rw [e] at fin; exact fin
  | bad => rw [e] at fin; exact fin
theorem s_pass {pos : Pos} : SndS X xi W keep (.Pass pos) (fun env => .nx env) := impS ps_pass fun Z σ H q => by
  obtain ⟨Hf, env, L, s0, fin⟩ := q
  exact fin σ Hf H L s0.sl (Step.refl s0.sub) s0.fam (Kept.refl _)
theorem s_doc {x : Str} {j : Nat} {pos pos' : Pos} : SndS X xi W keep (.Expr (.Constant (.str x) j pos) pos') (fun env => .nx env) := impS ps_doc fun Z σ H q => by
  obtain ⟨Hf, env, L, s0, fin⟩ := q
  exact fin σ Hf H L s0.sl (Step.refl s0.sub) s0.fam (Kept.refl _)
theorem sw_no {e : Expr} {t : Option Expr} {l : Nat} {env : PySem.Env} (h : isComp e = false) : swapsWith e t l env = pure false := by
  cases e <;> first | rfl | cases h
theorem s_expr {e : Expr} {r : Env → Res Ar} {pos : Pos} (he : Snd X xi W e r) (hc : isComp e = false) : SndS X xi W keep (.Expr e pos) (fun env => (r env).fl fun _ env => .nx env) := impS (ps_expr he.pe (sw_no hc)) fun Z σ H q => by
  refine bindS (R1 := RAr) q fun Hf L a env2 b T2 Hf2 H2 L2 r1 sl st fam fin => ?_
  exact fin σ Hf2 H2 L2 sl (st.less fun b q => Owned.append.mpr (.inr q)) (fam.sub (List.sublist_append_right _ _)) (Kept.refl _)
theorem take_ok {K : PySem.W.Frag} {w : World} {a : Ar} {v : V} {T L L0 : List WV} {σ : St} {Hx Hf H Hf1 H1 : Hp} {env env2 : Env} {x : PyEv.W} (r : RAr σ Hx a v T) (sl : Sl env σ L) (st : Step Hf H L0 Hf1 H1 (T ++ L)) (fam : Fam K w Hf1 H1 (T ++ L)) (e : take a env = .ok x env2) :
    ∃ L2, Sl env2 σ L2 ∧ Step Hf H L0 Hf1 H1 ((x, v) :: L2) ∧ Fam K w Hf1 H1 ((x, v) :: L2) := by
  cases r with
  | @vr _ _ i _ hi =>
    rw [List.nil_append] at st fam
    have e' : (match slot env i with | some (.d x) => .ok (.d x) env | some w => .ok w (env.set i none) | none => .bad : Res PyEv.W) = .ok x env2 := e
    cases es : slot env i with
    | none => rw [es] at e'; cases e'
    | some y =>
      rw [es] at e'
      obtain ⟨u, N, h1, h2, p⟩ := sl.out es
      rw [hi] at h1; cases h1
      have own : y = x → env.set i none = env2 → ∃ L2, Sl env2 σ L2 ∧ Step Hf H L0 Hf1 H1 ((x, v) :: L2) ∧ Fam K w Hf1 H1 ((x, v) :: L2) := fun e1 e2 => by
        subst e1 e2
        exact ⟨N, h2, st.less fun b q => (Owned.perm p).mpr q, fam.perm p⟩
      cases y with
      | d y =>
        have e2 : (Res.ok (PyEv.W.d y) env : Res PyEv.W) = .ok x env2 := e'
        cases e2
        have dn : Den K w Hf1 y v := by
          have := fam.rep (.d y, v) (p.mem_iff.mpr List.mem_cons_self)
          cases this with
          | d h => exact h
        exact ⟨L, sl, st.less fun b q => by
          rcases Owned.cons.mp q with q | q
          · cases q
          · exact q, fam.cons_d dn⟩
      | lst ys => injection (show (Res.ok (PyEv.W.lst ys) (env.set i none) : Res PyEv.W) = .ok x env2 from e') with e1 e2; exact own e1 e2
      | dct ks ys => injection (show (Res.ok (PyEv.W.dct ks ys) (env.set i none) : Res PyEv.W) = .ok x env2 from e') with e1 e2; exact own e1 e2
  | @val _ _ y _ =>
    have e' : (Res.ok y env : Res PyEv.W) = .ok x env2 := e
    cases e'
    exact ⟨L, sl, st, fam⟩
theorem take_noexc {a : Ar} {env e2 : Env} {x : D} (e : take a env = .exc x e2) : False := by
  unfold take at e
  split at e
  · split at e <;> cases e
  · cases e
theorem ret_run {r : Env → Res Ar} {Z : Ends} {σ : St} {H : Hp} (q : tSG X.K X.w xi W keep (fun env => (r env).fl fun a env => (take a env).fl fun x env => .rt x env) Z σ H) : tG X.K X.w xi W RAr r σ H Z.rt := by
  refine bindS (R1 := RAr) q fun Hf L a env2 v T2 Hf2 H2 L2 r1 sl st fam fin => ?_
  cases e : take a env2 with
  | bad => rw [e] at fin; exact fin.elim
  | exc x e2 => exact (take_noexc e).elim
  | ok x env3 =>
    rw [e] at fin
    obtain ⟨L3, a1, a2, a3⟩ := take_ok r1 sl st fam e
    exact fin σ v Hf2 H2 L3 a1 a2 a3 (Kept.refl _)
theorem s_ret {e : Expr} {r : Env → Res Ar} {pos : Pos} (he : PE X e (tG X.K X.w xi W RAr r)) : SndS X xi W keep (.Return (some e) pos) (fun env => (r env).fl fun a env => (take a env).fl fun x env => .rt x env) := impS (ps_ret he) fun Z σ H q => ret_run q
theorem s_retN {pos : Pos} : SndS X xi W keep (.Return none pos) (fun env => .rt (.d .non) env) := impS ps_retN fun Z σ H q => by
  obtain ⟨Hf, env, L, s0, fin⟩ := q
  exact fin σ .non Hf H L s0.sl ((Step.refl s0.sub).less fun b q => by
    rcases Owned.cons.mp q with q | q
    · cases q
    · exact q) (s0.fam.cons_d .non) (Kept.refl _)
theorem s_if {c : Expr} {a b : List Stmt} {rc : Env → Res Ar} {ra rb : Env → Fl} {pos : Pos} (hc : Snd X xi W c rc) (ha : SndSs X xi W keep a ra) (hb : SndSs X xi W keep b rb) :
    SndS X xi W keep (.If c a b pos) (fun env => (useB (rc env)).fl fun k env => if k = true then ra env else rb env) := impS (ps_if hc.pt ha hb) fun Z σ H q => by
  refine bindS (R1 := RB) q fun Hf L k env2 k' T2 Hf2 H2 L2 r1 sl st fam fin => ?_
  obtain ⟨rfl, rfl⟩ := r1
  cases k with
  | true => exact FinS.go (r := ra) fin sl st fam (Kept.refl _)
  | false => exact FinS.go (r := rb) fin sl st fam (Kept.refl _)

/-- a slot stored in a run -/
theorem store_fin {σ : St} {Hf H Hf1 H1 : Hp} {L L1 : List WV} {env : Env} {x : PyEv.W} {v : V} {i : Nat} {Z : Ends} {K : PySem.W.Frag} {w : World} (fin : FinS K w xi W keep σ Hf H L (nxO (store keep i x env)) Z) (sl : Sl env σ L1) (st : Step Hf H L Hf1 H1 ((x, v) :: L1)) (fam : Fam K w Hf1 H1 ((x, v) :: L1)) :
    Z.nx (σ.set i (some v)) H1 := by
  cases e : store keep i x env with
  | none => rw [e] at fin; exact fin.elim
  | some env1 =>
    rw [e] at fin
    obtain ⟨hk, hi, rfl⟩ := store_len e
    obtain ⟨L', a, b, c⟩ := sl.put2 (T := []) hi st fam
    exact fin _ Hf1 H1 L' a b c fun j hj => List.getElem?_set_ne (ne_keep hk hj)
def setR (keep : List Nat) (i : Nat) (r : Env → Res Ar) : Env → Fl := fun env => (r env).fl fun a env => (match a with
  | .vr j => (item (.vr j) env).fl fun d env => nxO (store keep i (.d d) env)
  | .val w => nxO (store keep i w env))
theorem set_run {i : Nat} {r : Env → Res Ar} {Z : Ends} {σ : St} {H : Hp} (q : tSG X.K X.w xi W keep (setR keep i r) Z σ H) : tG X.K X.w xi W RAr r σ H (fun x H1 => gName i x σ H1 Z.nx) := by
  refine bindS (R1 := RAr) q fun Hf L a env2 v T2 Hf2 H2 L2 r1 sl st fam fin => ?_
  cases r1 with
  | @vr _ _ j _ hj =>
    have fin : FinS X.K X.w xi W keep σ Hf H L ((item (.vr j) env2).fl fun d env => nxO (store keep i (.d d) env)) Z := fin
    cases e : item (.vr j) env2 with
    | bad => rw [e] at fin; exact fin.elim
    | exc x e2 => exact (item_noexc e).elim
    | ok d env3 =>
      rw [e] at fin
      obtain ⟨Hf3, L3, dn, sl3, st3, fam3⟩ := item_ok (M := []) (Hx := Hf) (.vr hj) sl st fam e
      exact store_fin fin sl3 (st3.less fun b q => by
        rcases Owned.cons.mp q with q | q
        · cases q
        · exact q) (fam3.cons_d dn)
  | @val _ _ x _ => exact store_fin fin sl st fam
theorem s_set {N : List Str} {nm : Nms} (c : CxOk X lv) (hN : X.N = N) (n : NmOk X nm) {i : Nat} {x : Str} {e : Expr} {r : Env → Res Ar} {pos' pos : Pos} (h1 : N[i]? = some x) (h2 : locB nm x = true) (he : Snd X xi W e r) (hc : isComp e = false) :
    SndS X xi W keep (.Assign [.Name x pos'] e pos) (setR keep i r) := by
  obtain ⟨a, b⟩ := n.loc x h2
  exact impS (ps_set c.nd (by rw [hN]; exact h1) a he.pe (sw_no hc) b) fun Z σ H q => set_run q
/-- .. a comprehension on the same line -/
theorem s_setLc {N : List Str} {nm : Nms} (c : CxOk X lv) (so : StOk X nm) (hN : X.N = N) {i : Nat} {x : Str} {py pos spos : Pos} {tg : Tg} {t iter e : Expr} {ifs : List Expr} {scope : Scope} {own : List (Str × Nat)} {it : Env → Res (List D)} {ct : Env → Res Bool} {ce : Env → Res D}
    (h1 : N[i]? = some x) (h2 : nm.lookup x = some .local) (hl : (py.line == pos.line) = true) (ha : (scope.names.any fun (n, k) => n == x && (k == .local || k == .cell)) = false) (h : LcS X xi W tg t iter e ifs scope own it ct ce) :
    SndS X xi W keep (.Assign [.Name x py] (.ListComp e [⟨t, iter, ifs, 0⟩] scope pos) spos) (setR keep i (lcR keep tg own it ct ce)) := by
  obtain ⟨tt, h3, h4⟩ := h.tt
  exact impS (ps_setLc c.calm c.nd (by rw [hN]; exact h1) (so.lc x h2) (sw_true so.kind (so.lc x h2) hl ha) h.hi h.ok h.hg h3 h.he (noSet_of h.ns)) fun Z σ H q => lc_run (W0 := WNo) h.hv h4 (set_run q)
theorem sw_false {elt : Expr} {gs : List Comprehension} {scope : Scope} {pos py : Pos} {y : Str} {l : Nat} {env : PySem.Env} (h : ((py.line == pos.line) && !(scope.names.any fun (n, k) => n == y && (k == .local || k == .cell))) = false) : swapsWith (.ListComp elt gs scope pos) (some (.Name y py)) l env = pure false := by
  unfold swapsWith
  simp only [Expr.pos]
  show pure _ = pure _
  congr 1
  rw [Bool.and_assoc, h, Bool.and_false]
theorem sw_cell {elt : Expr} {gs : List Comprehension} {scope : Scope} {pos py : Pos} {y : Str} {l : Nat} {env : PySem.Env} (h : env.scope.names.lookup y = some .cell ∨ env.scope.names.lookup y = some .free) : swapsWith (.ListComp elt gs scope pos) (some (.Name y py)) l env = pure false := by
  have hk : (env.kindOf y == some NameKind.local) = false := by
    have e : env.kindOf y = env.scope.names.lookup y := rfl
    rcases h with h | h <;> rw [e, h] <;> rfl
  unfold swapsWith
  simp only [Expr.pos, hk]
  show pure _ = pure _
  congr 1
  simp
theorem s_setLc0 {N : List Str} {nm : Nms} (c : CxOk X lv) (hN : X.N = N) (n : NmOk X nm) {i : Nat} {x : Str} {py pos spos : Pos} {e : Expr} {gs : List Comprehension} {scope : Scope} {r : Env → Res Ar}
    (h1 : N[i]? = some x) (h2 : locB nm x = true) (hl : ((py.line == pos.line) && !(scope.names.any fun (n, k) => n == x && (k == .local || k == .cell))) = false ∨ nm.lookup x = some .cell) (h : Snd X xi W (.ListComp e gs scope pos) r) :
    SndS X xi W keep (.Assign [.Name x py] (.ListComp e gs scope pos) spos) (setR keep i r) := by
  obtain ⟨a, b⟩ := n.loc x h2
  exact impS (ps_set c.nd (by rw [hN]; exact h1) a h.pe (hl.elim sw_false fun h => sw_cell (n.cf x (.inl h))) b) fun Z σ H q => set_run q
end
end
end PyEv

set_option maxRecDepth 100000
set_option maxHeartbeats 2000000
/-! PyS2: for, while, pairs, items stored. -/
namespace PyEv
open PySem L2

section
variable {X : Cx} {xi : XI} {W : WX} {lv : Nat} {keep : List Nat}

theorem fl_rt {γ : Type} {f : Fl} : True := trivial
/-- one turn's end -/
theorem turn_fin {K : PySem.W.Frag} {w : World} {σ σ1 : St} {Hf H Hf1 H1 : Hp} {L L1 : List WV} {fl : Fl} {g : Env → Fl} {Z : Ends} {Nx : St → Hp → Prop} (st : Step Hf H L Hf1 H1 L1) (k : Kept keep σ σ1)
    (fin : FinS K w xi W keep σ Hf H L (match fl with | .nx e => g e | .ct e => g e | .bk e => .nx e | f => f) Z)
    (hN : ∀ env σ' Hg H' L', FinS K w xi W keep σ Hf H L (g env) Z → Sl env σ' L' → Step Hf1 H1 L1 Hg H' L' → Step Hf H L Hg H' L' → Fam K w Hg H' L' → Kept keep σ σ' → Nx σ' H') :
    FinS K w xi W keep σ1 Hf1 H1 L1 fl { Z with nx := Nx, ct := Nx, bk := Z.nx } := by
  cases fl with
  | nx env => exact fun σ' Hg H' L' a b c d => hN env σ' Hg H' L' fin a b (st.tr b) c (k.trans d)
  | ct env => exact fun σ' Hg H' L' a b c d => hN env σ' Hg H' L' fin a b (st.tr b) c (k.trans d)
  | bk env => exact fun σ' Hg H' L' a b c d => fin σ' Hg H' L' a (st.tr b) c (k.trans d)
  | rt x env => exact fun σ' v Hg H' L' a b c d => fin σ' v Hg H' L' a (st.tr b) c (k.trans d)
  | ex x env => exact fun σ' Hg H' L' cls dd a b c d => fin σ' Hg H' L' cls dd a (st.tr b) c (k.trans d)
  | bad => exact fin

theorem for_run {K : PySem.W.Frag} {w : World} {tg : Tg} {it : Env → Res (List D)} {body : Env → Fl} {Z : Ends} {σ : St} {H : Hp}
    (q : tSG K w xi W keep (fun env => (it env).fl fun xs env => forL keep tg body xs env) Z σ H) :
    tFor (tG K w xi W (RWalk K w) it) (gTg K tg) (tSG K w xi W keep body) Z σ H := by
  refine bindS (R1 := RWalk K w) q fun Hf L xs env1 J T1 Hf1 H1 L1 r1 sl1 st1 fam1 fin => ?_
  obtain ⟨ws, rfl⟩ := r1
  let S : Nat → St → Hp → Prop := fun i σ' H' => ∃ env' Hf' L', Sl env' σ' L' ∧ Step Hf H L Hf' H' L' ∧ Fam K w Hf' H' L' ∧ Same Hf1 Hf' ∧ Kept keep σ σ' ∧ FinS K w xi W keep σ Hf H L (forL keep tg body (xs.drop i) env') Z
  refine ⟨fun i m σ' H' => m = xs.length - i ∧ i ≤ xs.length ∧ S i σ' H', ⟨xs.length, by simp, Nat.zero_le _, env1, Hf1, L1, sl1, st1, fam1, Same.refl _, Kept.refl _, fin⟩, ?_⟩
  rintro i m σ' H' ⟨rfl, hi, env', Hf', L', sl', st', fam', sm, kp, fin'⟩
  obtain ⟨w1, w2, w3⟩ := ws Hf' H' sm st'.sub i
  by_cases hlt : i < xs.length
  · have ex : xs.drop i = xs[i] :: xs.drop (i + 1) := List.drop_eq_getElem_cons hlt
    rw [ex] at fin'
    cases ea : assignTg keep tg xs[i] env' with
    | none =>
      have : forL keep tg body (xs[i] :: xs.drop (i + 1)) env' = .bad := by simp only [forL, ea]
      rw [this] at fin'; exact fin'.elim
    | some env2 =>
      have : forL keep tg body (xs[i] :: xs.drop (i + 1)) env' = (match body env2 with | .nx e => forL keep tg body (xs.drop (i + 1)) e | .ct e => forL keep tg body (xs.drop (i + 1)) e | .bk e => .nx e | f => f) := by simp only [forL, ea] <;> rfl
      rw [this] at fin'
      refine .inr ⟨w2 hlt, S (i + 1), fun σ2 H2 s => ⟨xs.length - (i + 1), by omega, rfl, hlt, s⟩, fun x H2 hy => ?_⟩
      obtain ⟨Hg, dn, stp, fm⟩ := w3 x H2 xs[i] L' hy (List.getElem?_eq_getElem hlt) fam'
      refine tg_fin (T := []) ea sl' (st'.tr stp) fm dn fun σ2 M2 sl2 st2 fam2 hlen hwp hk => ?_
      have kp2 : Kept keep σ σ2 := kp.trans hk
      exact ⟨Hg, env2, M2, ⟨sl2, fam2, st2.sub⟩, turn_fin st2 kp2 fin' fun env σ3 Hg3 H3 L3 f a b b' c d => ⟨env, Hg3, L3, a, b', c, (sm.trans stp.subf).trans b.subf, d, f⟩⟩
  · have e : i = xs.length := by omega
    subst e
    rw [List.drop_length] at fin'
    exact .inl ⟨w1 (Nat.le_refl _), fin' σ' Hf' H' L' sl' st' fam' kp⟩
theorem s_for {N : List Str} {nm : Nms} (c : CxOk X lv) (so : StOk X nm) (hN : X.N = N) (n : NmOk X nm) {tg : Tg} {t iter : Expr} {body : List Stmt} {it : Env → Res (List D)} {rb : Env → Fl} {pos : Pos} (ht : tgOk N nm tg t = true) (hi : SndIt X xi W t iter it) (hb : SndSs X xi W keep body rb) (hs : notSet iter = true) :
    SndS X xi W keep (.For t iter body [] pos) (fun env => (it env).fl fun xs env => forL keep tg rb xs env) :=
  impS (ps_for so.pass c.calm hi (pg_tg c hN n ht) hb (noSet_of hs)) fun Z σ H q => for_run q

theorem whl_run {K : PySem.W.Frag} {w : World} {cnd : Env → Res Bool} {body : Env → Fl} {Z : Ends} {σ : St} {H : Hp} {n : Nat}
    (q : tSG K w xi W keep (fun env => whlL cnd body n env) Z σ H) : tWhile (tG K w xi W RB cnd) (tSG K w xi W keep body) Z σ H := by
  obtain ⟨Hf, env, L, s0, fin⟩ := q
  let S : Nat → St → Hp → Prop := fun m σ' H' => ∃ env' Hf' L', Sl env' σ' L' ∧ Step Hf H L Hf' H' L' ∧ Fam K w Hf' H' L' ∧ Kept keep σ σ' ∧ FinS K w xi W keep σ Hf H L (whlL cnd body m env') Z
  refine ⟨S, ⟨n, env, Hf, L, s0.sl, Step.refl s0.sub, s0.fam, Kept.refl _, fin⟩, ?_⟩
  rintro m σ' H' ⟨env', Hf', L', sl', st', fam', kp, fin'⟩
  cases m with
  | zero => exact fin'.elim
  | succ m =>
    have fin' : FinS K w xi W keep σ Hf H L ((cnd env').fl fun b env1 => if b = true then (match body env1 with | .nx e => whlL cnd body m e | .ct e => whlL cnd body m e | .bk e => .nx e | f => f) else .nx env1) Z := fin'
    have q' : tSG K w xi W keep (fun env => (cnd env).fl fun b env1 => if b = true then (match body env1 with | .nx e => whlL cnd body m e | .ct e => whlL cnd body m e | .bk e => .nx e | f => f) else .nx env1) Z σ' H' :=
      FinS.go (r := fun env => (cnd env).fl fun b env1 => if b = true then (match body env1 with | .nx e => whlL cnd body m e | .ct e => whlL cnd body m e | .bk e => .nx e | f => f) else .nx env1) fin' sl' st' fam' kp
    obtain ⟨Hf0, env0, L0, s00, fin0⟩ := q'
    refine ⟨Hf', env', L', ⟨sl', fam', st'.sub⟩, ?_⟩
    cases e : cnd env' with
    | bad => rw [e] at fin'; exact fin'
    | exc x env2 =>
      rw [e] at fin'
      exact fun Hg H2 L2 cls dd a b c d => fin' σ' Hg H2 L2 cls dd a (st'.tr b) c kp d
    | ok b env2 =>
      rw [e] at fin'
      intro b' T Hg H2 L2 hb a st2 c
      obtain ⟨rfl, rfl⟩ := hb
      have st2 : Step Hf' H' L' Hg H2 L2 := st2
      have c : Fam K w Hg H2 L2 := c
      cases b with
      | false => exact fin' σ' Hg H2 L2 a (st'.tr st2) c kp
      | true =>
        have fin' : FinS K w xi W keep σ Hf H L (match body env2 with | .nx e => whlL cnd body m e | .ct e => whlL cnd body m e | .bk e => .nx e | f => f) Z := fin'
        exact ⟨S m, fun σ3 H3 s => ⟨m, Nat.lt_succ_self _, s⟩, Hg, env2, L2, ⟨a, c, st2.sub⟩, turn_fin (st'.tr st2) kp fin' fun env σ3 Hg3 H3 L3 f a b b' c d => ⟨env, Hg3, L3, a, b', c, d, f⟩⟩
theorem s_whl {nm : Nms} (so : StOk X nm) {c : Expr} {body : List Stmt} {rc : Env → Res Ar} {rb : Env → Fl} {pos : Pos} (hc : Snd X xi W c rc) (hb : SndSs X xi W keep body rb) :
    SndS X xi W keep (.While c body [] pos) (fun env => whlL (fun env => useB (rc env)) rb loopMost env) :=
  impS (ps_while so.pass hc.pt hb) fun Z σ H q => whl_run q

/-! ### a[i] = v -/
def rSetAll : TSet := fun o i v H Q => rSetL o i v H Q ∨ rSetD o i v H Q
theorem set_all (c : CxOk X lv) : PSet X rSetAll := by
  intro pins s σ H o i v ov iv u Q I ro ri rv h
  rcases h with h | h
  · exact set_list pins s σ H o i v ov iv u Q I ro ri rv h
  · exact set_dict (by have := c.room.un; omega) pins s σ H o i v ov iv u Q I ro ri rv h
theorem put_map : ∀ {ks : List Str} {kvs : List (Key × V)} {k : Str} {v : V}, kvs.map (·.1) = ks.map Sum.inr →
    (kvs.map fun kv => if kv.1 = (Sum.inr k : Key) then (kv.1, v) else kv).map (·.1) = ks.map Sum.inr ∧
    (kvs.map fun kv => if kv.1 = (Sum.inr k : Key) then (kv.1, v) else kv).map (·.2) = (ks.zip (kvs.map (·.2))).map (fun p => if p.1 = k then v else p.2) ∧
    (kvs.any fun kv => decide (kv.1 = (Sum.inr k : Key))) = ks.contains k
  | [], [], k, v, _ => ⟨rfl, rfl, rfl⟩
  | [], _ :: _, _, _, e => by simp at e
  | _ :: _, [], _, _, e => by simp at e
  | k' :: ks, (q, u) :: kvs, k, v, e => by
    simp only [List.map_cons, List.cons.injEq] at e
    obtain ⟨e1, e2⟩ := e
    subst e1
    obtain ⟨a, b, c⟩ := put_map (k := k) (v := v) e2
    by_cases hk : k' = k
    · subst hk
      refine ⟨?_, ?_, ?_⟩
      · rw [List.map_cons, if_pos rfl, List.map_cons, a, List.map_cons]
      · rw [List.map_cons, if_pos rfl, List.map_cons, b, List.map_cons, List.zip_cons_cons, List.map_cons, if_pos rfl]
      · rw [List.any_cons, c]; simp
    · have hne : (Sum.inr k' : Key) ≠ Sum.inr k := fun z => hk (Sum.inr.inj z)
      refine ⟨?_, ?_, ?_⟩
      · rw [List.map_cons, if_neg hne, List.map_cons, a, List.map_cons]
      · rw [List.map_cons, if_neg hne, List.map_cons, b, List.map_cons, List.zip_cons_cons, List.map_cons, if_neg hk]
      · have h1 : (k == k') = false := by simpa using fun z => hk z.symm
        rw [List.any_cons, c, List.contains_cons, h1, decide_eq_false hne]
theorem put_den {K : PySem.W.Frag} {w : World} {Hf : Hp} {k : Str} {d : D} {v : V} (dn : Den K w Hf d v) : ∀ {ks : List Str} {ds : List D} {us : List V}, DenL K w Hf ds us → DenL K w Hf ((ks.zip ds).map fun p => if p.1 = k then d else p.2) ((ks.zip us).map fun p => if p.1 = k then v else p.2)
  | [], _, _, _ => .nil
  | _ :: _, _, _, .nil => .nil
  | k' :: ks, _, _, .cons a b => by
    rw [List.zip_cons_cons, List.zip_cons_cons, List.map_cons, List.map_cons]
    refine .cons ?_ (put_den dn b)
    by_cases h : k' = k
    · rw [if_pos h, if_pos h]; exact dn
    · rw [if_neg h, if_neg h]; exact a
/-- what a store into an own object leaves -/
theorem setF_fin {σ : St} {Hf H Hf1 H1 : Hp} {L L1 : List WV} {env1 : Env} {Q : Hp → Prop} {i : Nat} {x x' : PyEv.W} {o iv v : V} {k d : D} {w : World} {X : Cx} (sl : Sl env1 σ L1) (st : Step Hf H L Hf1 H1 L1) (fam : Fam X.K X.w Hf1 H1 L1) (es : slot env1 i = some x) (ho : σ[i]? = some (some o))
    (vk : View X.K X.w Hf1 H1 k iv) (dn : Den X.K X.w Hf1 d v) (e : setF x k d = some x') (q : ∀ H' L', Sl (env1.set i (some x')) σ L' → Step Hf H L Hf1 H' L' → Fam X.K X.w Hf1 H' L' → Q H') : rSetAll o iv v H1 Q := by
  obtain ⟨u, M, h1, h2, p⟩ := sl.out es
  rw [ho] at h1; cases h1
  have f1 := fam.perm p
  have s1 : Step Hf H L Hf1 H1 ((x, o) :: M) := st.less fun b q => (Owned.perm p).mpr q
  have r := f1.rep (x, o) List.mem_cons_self
  have fin : ∀ (a : Addr) (ob : HO), o = .ref a → a ∈ ad x (.ref a) → (∀ b ∈ ad x' (.ref a), b = a) → RepW X.K X.w Hf1 (upd H1 a ob) x' (.ref a) → Q (upd H1 a ob) := fun a ob eo ha hy rr => by
    subst eo
    obtain ⟨s2, f2⟩ := write_own s1.sub f1 ha hy rr
    obtain ⟨L2, s3, p2⟩ := h2.into (x := x') ho
    exact q _ L2 s3 ((s1.tr s2).less fun b q => (Owned.perm p2).mp q) (f2.perm p2.symm)
  cases r with
  | d _ => cases e
  | @lst a ds us hus hn dl =>
    cases k with
    | int j =>
      have e : (L2.ixN ds.length j).map (fun j => PyEv.W.lst (ds.set j d)) = some x' := e
      cases ej : L2.ixN ds.length j with
      | none => rw [ej] at e; cases e
      | some j' =>
        rw [ej] at e
        have e := Option.some.inj e
        subst e
        exact .inl ⟨a, us, j, j', rfl, vk.int, hus, by rw [← dl.length]; exact ej, fin a _ rfl (by simp [ad]) (by simp [ad]) (.lst upd_same hn (dl.set _ dn))⟩
    | _ => cases e
  | @dct a ks ds kvs hk hn ek dl =>
    cases k with
    | str s =>
      have e : (if ks.length < line then (if ks.contains s then some (PyEv.W.dct ks ((ks.zip ds).map fun p => if p.1 = s then d else p.2)) else some (.dct (ks ++ [s]) (ds ++ [d]))) else none) = some x' := e
      by_cases hz : ks.length < line
      case neg => rw [if_neg hz] at e; cases e
      rw [if_pos hz] at e
      have lk : kvs.length = ks.length := by have := congrArg List.length ek; simpa using this
      obtain ⟨a1, a2, a3⟩ := put_map (k := s) (v := v) ek
      by_cases hc : ks.contains s = true
      · rw [if_pos hc] at e
        have e := Option.some.inj e
        subst e
        have ep : putK kvs (Sum.inr s) v = kvs.map fun kv => if kv.1 = (Sum.inr s : Key) then (kv.1, v) else kv := by
          unfold putK; rw [if_pos (by rw [a3]; exact hc)]
        have vs' := vk.str
        subst vs'
        refine .inr ⟨a, _, rfl, DPut.k (k := Sum.inr s) hk (by rw [lk]; exact hz), fin a _ rfl (by simp [ad]) (by simp [ad]) ?_⟩
        rw [ep]
        exact .dct upd_same hn a1 (by rw [a2]; exact put_den dn dl)
      · rw [if_neg hc] at e
        have e := Option.some.inj e
        subst e
        have ep : putK kvs (Sum.inr s) v = kvs ++ [(Sum.inr s, v)] := by
          unfold putK; rw [if_neg (by rw [a3]; exact hc)]
        have vs' := vk.str
        subst vs'
        refine .inr ⟨a, _, rfl, DPut.k (k := Sum.inr s) hk (by rw [lk]; exact hz), fin a _ rfl (by simp [ad]) (by simp [ad]) ?_⟩
        rw [ep]
        exact .dct upd_same hn (by simp [ek]) (by rw [List.map_append]; exact dl.append (.cons dn .nil))
    | _ => cases e

/-- from a run on, with a further expression -/
theorem bindS2 {K : PySem.W.Frag} {w : World} {α β : Type} {R1 : RR α β} {r : Env → Res α} {f : α → Env → Fl} {σ : St} {Hf H Hf1 H1 : Hp} {L T L1 : List WV} {env1 : Env} {Z : Ends} {Q' : β → Hp → Prop} (st : Step Hf H L Hf1 H1 (T ++ L1)) (fam : Fam K w Hf1 H1 (T ++ L1)) (sl : Sl env1 σ L1) (fin : FinS K w xi W keep σ Hf H L ((r env1).fl f) Z)
    (next : ∀ a env2 b T2 Hf2 H2 L2, R1 σ Hf2 a b T2 → Sl env2 σ L2 → Step Hf H L Hf2 H2 (T ++ (T2 ++ L2)) → Fam K w Hf2 H2 (T ++ (T2 ++ L2)) → Step Hf1 H1 L1 Hf2 H2 (T2 ++ L2) → FinS K w xi W keep σ Hf H L (f a env2) Z → Q' b H2) :
    tG K w xi W R1 r σ H1 Q' := by
  have famL : Fam K w Hf1 H1 L1 := fam.sub (List.sublist_append_right _ _)
  refine ⟨Hf1, env1, L1, ⟨sl, famL, st.sub⟩, ?_⟩
  cases e : r env1 with
  | ok a env2 =>
    intro b T2 Hf2 H2 L2 hR hs hst hf
    rw [e] at fin
    exact next a env2 b T2 Hf2 H2 L2 hR hs (st.trans hst) (fam.carry hst hf) hst fin
  | exc x env2 =>
    intro Hf2 H2 L2 cls dd hs hst hf hx
    rw [e] at fin
    exact fin σ Hf2 H2 L2 cls dd hs ((st.trans hst).less fun b q => Owned.append.mpr (.inr q)) hf (Kept.refl _) hx
  | bad =>
    rw [e] at fin
    exact fin
theorem s_setix {N : List Str} {nm : Nms} (c : CxOk X lv) (hN : X.N = N) (n : NmOk X nm) {i : Nat} {x : Str} {ie e : Expr} {re ri : Env → Res Ar} {p1 p2 pos : Pos} (hx : (decide (N[i]? = some x) && visB nm x && nameB x) = true) (he : Snd X xi W e re) (hi : Snd X xi W ie ri) (hs : notSl ie = true) (hc : isComp e = false) :
    SndS X xi W keep (.Assign [.Subscript (.Name x p1) ie p2] e pos) (fun env => (re env).fl fun a env => (item a env).fl fun v env => match slot env i with
    | none => .bad
    | some _ => (ri env).fl fun b env => match use env b, slot env i with
      | some k, some w => match setF w k v with
        | some w' => .nx (env.set i (some w'))
        | none => .bad
      | _, _ => .bad) := by
  obtain ⟨_, pv⟩ := snd_var (xi := xi) (W := W) (pos := p1) hN n hx
  refine impS (ps_asg he.pe (pg_sub pv hi.pe (set_all c) (fun v => by cases ie <;> first | rfl | cases hs)) (by cases e <;> first | rfl | cases hc) (by cases e <;> rfl) rfl) fun Z σ H q => ?_
  refine bindS (R1 := RAr) q fun Hf L a env1 v T1 Hf1 H1 L1 r1 sl1 st1 fam1 fin => ?_
  cases ea : item a env1 with
  | bad => rw [ea] at fin; exact fin.elim
  | exc => exact (item_noexc ea).elim
  | ok d env2 =>
    rw [ea] at fin
    obtain ⟨Hf2, L2, dn, sl2, st2, fam2⟩ := item_ok (M := []) r1 sl1 st1 fam1 ea
    cases es : slot env2 i with
    | none =>
      have fin : FinS X.K X.w xi W keep σ Hf H L (match slot env2 i with | none => .bad | some _ => (ri env2).fl fun b env => match use env b, slot env i with
        | some k, some w => match setF w k d with
          | some w' => .nx (env.set i (some w'))
          | none => .bad
        | _, _ => .bad) Z := fin
      rw [es] at fin; exact fin.elim
    | some y =>
      have fin : FinS X.K X.w xi W keep σ Hf H L (match slot env2 i with | none => .bad | some _ => (ri env2).fl fun b env => match use env b, slot env i with
        | some k, some w => match setF w k d with
          | some w' => .nx (env.set i (some w'))
          | none => .bad
        | _, _ => .bad) Z := fin
      rw [es] at fin
      obtain ⟨o, M, ho, _, _⟩ := sl2.out es
      refine ⟨o, ho, bindS2 (R1 := RAr) (T := []) st2 fam2 sl2 fin fun b env3 iv T3 Hf3 H3 L3 r3 sl3 st3 fam3 st23 fin3 => ?_⟩
      have st3 : Step Hf H L Hf3 H3 (T3 ++ L3) := st3
      have fam3 : Fam X.K X.w Hf3 H3 (T3 ++ L3) := fam3
      cases eu : use env3 b with
      | none => rw [eu] at fin3; exact fin3.elim
      | some k =>
        cases es3 : slot env3 i with
        | none => rw [eu, es3] at fin3; exact fin3.elim
        | some y3 =>
          rw [eu, es3] at fin3
          have fin3 : FinS X.K X.w xi W keep σ Hf H L (match setF y3 k d with | some w' => .nx (env3.set i (some w')) | none => .bad) Z := fin3
          cases ef : setF y3 k d with
          | none => rw [ef] at fin3; exact fin3.elim
          | some y4 =>
            rw [ef] at fin3
            exact setF_fin (w := X.w) sl3 (st3.less fun b q => Owned.append.mpr (.inr q)) (fam3.sub (List.sublist_append_right _ _)) es3 ho (use_view r3 (fun _ h => h) sl3 fam3 eu) (dn.mono st23.subf) ef fun H' L' a b c => fin3 σ Hf3 H' L' a b c (Kept.refl _)

/-! ### several names at once -/
theorem s_unp {N : List Str} {nm : Nms} (c : CxOk X lv) (hN : X.N = N) (n : NmOk X nm) {tg : Tg} {t e : Expr} {re : Env → Res Ar} {pos : Pos} (ht : tgOk N nm tg t = true) (he : Snd X xi W e re) (hc : isComp e = false) (hsw : swappedStores [t] e X.env = pure none) :
    SndS X xi W keep (.Assign [t] e pos) (fun env => (re env).fl fun a env => (item a env).fl fun d env => nxO (assignTg keep tg d env)) := by
  refine impS (ps_asg he.pe (pg_tg c hN n ht) (by cases e <;> first | rfl | cases hc) hsw (by unfold tgOk at ht; split at ht <;> first | rfl | cases ht)) fun Z σ H q => ?_
  refine bindS (R1 := RAr) q fun Hf L a env1 v T1 Hf1 H1 L1 r1 sl1 st1 fam1 fin => ?_
  cases ea : item a env1 with
  | bad => rw [ea] at fin; exact fin.elim
  | exc => exact (item_noexc ea).elim
  | ok d env2 =>
    rw [ea] at fin
    obtain ⟨Hf2, L2, dn, sl2, st2, fam2⟩ := item_ok (M := []) r1 sl1 st1 fam1 ea
    have fin : FinS X.K X.w xi W keep σ Hf H L (nxO (assignTg keep tg d env2)) Z := fin
    cases et : assignTg keep tg d env2 with
    | none => rw [et] at fin; exact fin.elim
    | some env3 =>
      rw [et] at fin
      exact tg_fin (T := []) et sl2 st2 fam2 dn fun σ' L' a b c _ _ k => fin σ' Hf2 H1 L' a b c k
def parR (keep : List Nat) (i j : Nat) (ra rb : Env → Res Ar) : Env → Fl := fun env => (ra env).fl fun x env => (rb env).fl fun y env => match x, y with
      | .val w, .val u => nxO ((store keep i w env).bind (store keep j u))
      | x, y => (item x env).fl fun dx env => (item y env).fl fun dy env => nxO ((store keep i (.d dx) env).bind (store keep j (.d dy)))
theorem store2 {K : PySem.W.Frag} {w : World} {σ : St} {Hf H Hf1 H1 : Hp} {L L1 : List WV} {env : Env} {x y : PyEv.W} {v u : V} {i j : Nat} {Z : Ends} (fin : FinS K w xi W keep σ Hf H L (nxO ((store keep i x env).bind (store keep j y))) Z) (sl : Sl env σ L1)
    (st : Step Hf H L Hf1 H1 ((x, v) :: ([(y, u)] ++ L1))) (fam : Fam K w Hf1 H1 ((x, v) :: ([(y, u)] ++ L1))) : Z.nx ((σ.set i (some v)).set j (some u)) H1 := by
  cases e : store keep i x env with
  | none => rw [e] at fin; exact fin.elim
  | some env1 =>
    rw [e] at fin
    have fin : FinS K w xi W keep σ Hf H L (nxO (store keep j y env1)) Z := fin
    obtain ⟨hk, hi, rfl⟩ := store_len e
    obtain ⟨L', a, b, c⟩ := sl.put2 (T := [(y, u)]) hi st fam
    cases e2 : store keep j y (env.set i (some x)) with
    | none => rw [e2] at fin; exact fin.elim
    | some env2 =>
      rw [e2] at fin
      obtain ⟨hk2, hj, rfl⟩ := store_len e2
      obtain ⟨L2, a2, b2, c2⟩ := a.put2 (T := []) hj b c
      exact fin _ Hf1 H1 L2 a2 b2 c2 fun m hm => by rw [List.getElem?_set_ne (ne_keep hk2 hm), List.getElem?_set_ne (ne_keep hk hm)]
theorem par_run {i j : Nat} {ra rb : Env → Res Ar} {Z : Ends} {σ : St} {H : Hp} (q : tSG X.K X.w xi W keep (parR keep i j ra rb) Z σ H) : tPar i j (tCons (tG X.K X.w xi W RAr ra) (tCons (tG X.K X.w xi W RAr rb) tNil)) Z σ H := by
  refine bindS (R1 := RAr) q fun Hf L x env1 v T1 Hf1 H1 L1 r1 sl1 st1 fam1 fin => ?_
  refine bindS2 (R1 := RAr) (T := T1) st1 fam1 sl1 fin fun y env2 u T2 Hf2 H2 L2 r2 sl2 st2 fam2 _ fin2 => ?_
  refine ⟨v, u, rfl, ?_⟩
  have gen : FinS X.K X.w xi W keep σ Hf H L ((item x env2).fl fun dx env => (item y env).fl fun dy env => nxO ((store keep i (.d dx) env).bind (store keep j (.d dy)))) Z → Z.nx ((σ.set i (some v)).set j (some u)) H2 := fun fin => by
    cases ea : item x env2 with
    | bad => rw [ea] at fin; exact fin.elim
    | exc => exact (item_noexc ea).elim
    | ok dx env3 =>
      rw [ea] at fin
      have fin : FinS X.K X.w xi W keep σ Hf H L ((item y env3).fl fun dy env => nxO ((store keep i (.d dx) env).bind (store keep j (.d dy)))) Z := fin
      -- first x for good, with y's things beside
      have pm : (T1 ++ (T2 ++ L2)).Perm (T2 ++ (T1 ++ L2)) := by
        rw [← List.append_assoc, ← List.append_assoc]
        exact List.Perm.append_right _ List.perm_append_comm
      obtain ⟨Hf3, L3, dn3, sl3, st3, fam3⟩ := item_ok (M := T2) r1 sl2 (st2.less fun b q => (Owned.perm pm).mpr q) (fam2.perm pm) ea
      cases eb : item y env3 with
      | bad => rw [eb] at fin; exact fin.elim
      | exc => exact (item_noexc eb).elim
      | ok dy env4 =>
        rw [eb] at fin
        have stx : Step Hf H L Hf3 H2 ([(.d dx, v)] ++ (T2 ++ L3)) := st3.less fun b q => by
          rcases Owned.cons.mp q with q | q
          · cases q
          · exact q
        obtain ⟨Hf4, L4, dn4, sl4, st4, fam4⟩ := item_ok (M := [(.d dx, v)]) r2 sl3 stx (fam3.cons_d dn3) eb
        have dx4 : Den X.K X.w Hf4 dx v := by
          have := fam4.rep (.d dx, v) (List.mem_append_left _ List.mem_cons_self)
          cases this with
          | d h => exact h
        have fam5 : Fam X.K X.w Hf4 H2 L4 := fam4.sub (List.sublist_append_right _ _)
        exact store2 fin sl4 (st4.less fun b q => by
          rcases Owned.cons.mp q with q | q
          · cases q
          · rcases Owned.append.mp q with q | q
            · rcases Owned.cons.mp q with q | q
              · cases q
              · exact (Owned.nil q).elim
            · exact Owned.append.mpr (.inr q)) ((fam5.cons_d dn4).cons_d dx4)
  cases r1 with
  | vr h => exact gen (by cases y <;> exact fin2)
  | @val _ _ a _ =>
    cases r2 with
    | vr h => exact gen fin2
    | @val _ _ b _ => exact store2 fin2 sl2 st2 fam2
end
end PyEv

set_option maxRecDepth 100000
set_option maxHeartbeats 2000000
/-! PyS3: which assignments swap; the check of statements. -/
namespace PyEv
open PySem L2

section
variable {X : Cx} {nm : Nms}
theorem blk_fn {env : PySem.Env} (h : env.scope.kind = .function) : env.blockKind = .function := by unfold Env.blockKind; rw [h]; rfl
theorem kind_loc {env : PySem.Env} {x : Str} (h : env.scope.names.lookup x = some .local) : (env.kindOf x == some NameKind.local) = true := by
  have e : env.kindOf x = env.scope.names.lookup x := rfl
  rw [e, h]; rfl
theorem kind_noloc {env : PySem.Env} {x : Str} (h : env.scope.names.lookup x = some .cell ∨ env.scope.names.lookup x = some .free) : (env.kindOf x == some NameKind.local) = false := by
  have e : env.kindOf x = env.scope.names.lookup x := rfl
  rcases h with h | h <;> rw [e, h] <;> rfl
theorem swapYes {env : PySem.Env} {x y : Str} {px py pt pt2 : Pos} {kt k2} {a b : Expr} (hk : env.scope.kind = .function) (hx : env.scope.names.lookup x = some .local) (hy : env.scope.names.lookup y = some .local) (hl : (py.line == px.line) = true) (hxy : (x == y) = false)
    (ha : plainX a = true) (hb : plainX b = true) (hf : (foldedForSure 8 a && foldedForSure 8 b) = false) (hc : (constantsAlone 8 a && constantsAlone 8 b) = false) :
    swappedStores [.Tuple [.Name x px, .Name y py] kt pt] (.Tuple [a, b] k2 pt2) env = pure (some [x, y]) := by
  have h2 : [a, b].all (foldedForSure 8) = false := by simpa using hf
  have h3 : [a, b].all (constantsAlone 8) = false := by simpa using hc
  have hxy' : (y == x) = false := by
    cases h : y == x with
    | false => rfl
    | true => have := (beq_iff_eq.mp h); subst this; simp at hxy
  unfold swappedStores
  simp only [h2, h3, blk_fn hk, List.filterMap_cons, List.filterMap_nil, kind_loc hx, kind_loc hy, hl, Expr.pos, List.head?_cons, Option.map_some, Option.getD_some, List.any_cons, List.any_nil]
  refine (if_neg (show ¬ (false = true) from Bool.false_ne_true)).trans ?_
  refine (if_neg ?_).trans ?_
  · intro h
    rw [Bool.or_eq_true] at h
    rcases h with h | h
    · cases a <;> first | (cases ha; done) | (cases h; done)
    · rw [Bool.or_false] at h
      cases b <;> first | (cases hb; done) | (cases h; done)
  · have e : (px.line == px.line) = true := by simp
    simp only [e]
    refine (if_neg ?_).trans ?_
    · show ¬ (([x, y].length != 0 + 1 + 1) || (([x, y].eraseDups.length != [x, y].length))) = true
      simp [List.eraseDups_cons, hxy, hxy']
    · rfl
theorem swapNo {env : PySem.Env} {x y : Str} {px py pt pt2 : Pos} {kt k2} {a b : Expr} (h : (env.scope.names.lookup x = some .cell ∨ env.scope.names.lookup x = some .free) ∨ (env.scope.names.lookup y = some .cell ∨ env.scope.names.lookup y = some .free) ∨ (foldedForSure 8 a && foldedForSure 8 b) = true) (ha : plainX a = true) (hb : plainX b = true) :
    swappedStores [.Tuple [.Name x px, .Name y py] kt pt] (.Tuple [a, b] k2 pt2) env = pure none := by
  unfold swappedStores
  simp only [List.filterMap_cons, List.filterMap_nil, Expr.pos, List.head?_cons, Option.map_some, Option.getD_some, List.any_cons, List.any_nil]
  by_cases hk : (env.blockKind != .function) = true
  · rw [hk]; rfl
  · have hk : (env.blockKind != .function) = false := by simpa using hk
    rw [hk]
    refine (if_neg (show ¬ (false = true) from Bool.false_ne_true)).trans ?_
    refine (if_neg ?_).trans ?_
    · intro h
      rw [Bool.or_eq_true] at h
      rcases h with h | h
      · cases a <;> first | (cases ha; done) | (cases h; done)
      · rw [Bool.or_false] at h
        cases b <;> first | (cases hb; done) | (cases h; done)
    · rcases h with h | h | h
      · simp only [kind_noloc h, Bool.false_and, Bool.false_eq_true, if_false]
        exact if_pos (by by_cases hb : (env.kindOf y == some .local && py.line == px.line) = true <;> simp only [hb] <;> rfl)
      · simp only [kind_noloc h, Bool.false_and, Bool.false_eq_true, if_false]
        exact if_pos (by by_cases hb : (env.kindOf x == some .local && px.line == px.line) = true <;> simp only [hb] <;> rfl)
      · have h2 : [a, b].all (foldedForSure 8) = true := by simpa using h
        simp only [h2, if_true]
        exact ite_self _
end
end PyEv

set_option maxRecDepth 100000
set_option maxHeartbeats 2000000
/-! PyF1: calls. -/
namespace PyEv
open PySem L2

/-! ### the promise of a def, around which nothing is being shown (guards = []) -/
structure FnG (P : Program) (w : World) (K : PySem.W.Frag) (mg : Str → Option Value) (base : Heap) (k : Nat) (f : Addr) (fd : FuncData) (ps : List Str) (sp : Sp) : Prop where
  len : ∀ vs H Q E, sp vs H Q E → vs.length = ps.length
  run : ∀ (A : Around) (outer : List PySem.Env) (s : Shared) (H : Hp) (args : Args) (us : List Value) (vs : List V) (Q : VK) (E : XK), A.guards = some [] → Room k A → Env0 P w K mg base A outer s H → BindsTo s fd args (ps.zip us) → Vals vs us → sp vs H Q E →
    codeAny (model P w) A (.call (.ref f) args) (CR (L2.CX P w) outer P w H s Q E) s

section
variable {X : Cx} {k : Nat} {f : Addr} {fd : FuncData} {ps : List Str} {sp : Sp} {E : St → XK} {x : Str} {p pos : Pos} {e : Expr} {es : List Expr} {t : TA}
theorem pe_callG (F : FnG X.prog X.w X.K X.mg X.base k f fd ps sp) (hg0 : X.A.guards = some []) (hr : Room k X.A) (hg : Gl X x) (hm : X.mg x = some (.ref f)) (hk : PySem.W.keepIn X.K (.ref f) = true) (hb : Binds X.K fd ps []) (hx : ∀ σ, PassesAt (L2.CX X.prog X.w) X σ (E σ))
    (ha : PA X (e :: es) t) (hdb : (x == ("__debug__" : Str)) = false) (he : starEach (e :: es) X.env = (false, eval e X.env) :: starEach es X.env) (hpl : (backTo pos (starEach es X.env)).any (·.1) = false) :
    PE X (.Call (.Name x p) (e :: es) [] pos) (tCallS sp E t) := by
  refine ⟨fun pins s σ H Q I h => ?_⟩
  refine wpAny_Call_Name_kw (ld_glob I hg hm ?_ hdb)
  refine PySem.W.callWith_K (h₀ := X.base) I.ok.mod.kin hk (thn (ha.run pos pins s σ H _ I h) fun us s1 ⟨vs, H1, I1, r, q⟩ => ⟨I1.kIn, ?_⟩) he hpl
  have hl : us.length = ps.length := by rw [← r.length]; exact F.len _ _ _ _ q
  have b := hb s1 us I1.kIn (by rw [List.append_nil]; exact hl)
  rw [List.append_nil] at b
  refine wpAny_call (codeAny_mono (F.run X.A X.stack s1 H1 ⟨us, []⟩ us vs Q (E σ) hg0 hr I1.env0 b r q) fun r s' hq => ?_)
  cases r with
  | error e => exact hx σ pins H1 s1 e s' I1 hq
  | ok fl =>
    cases fl with
    | ret u => exact I1.after hq
    | next => exact False.elim hq
    | brk => exact False.elim hq
    | cont => exact False.elim hq
end

open PySem.Spec PyProof.Rows in
/-- a def by its body -/
theorem fnG_of {P : Program} {w : World} {K : PySem.W.Frag} {mg : Str → Option Value} {base : Heap} {k : Nat} {f : Addr} {x qual : Str} {st : Stmt} {fd : FuncData} {N ps : List Str} {sp : Sp} (F : L2.Fun K x qual st f fd) (S : FnScope N ps (defScope st))
    (len : ∀ vs H Q E, sp vs H Q E → vs.length = ps.length)
    (hbody : ∀ (cdv : Value) (A : Around) (outer : List PySem.Env) (s : Shared) (H : Hp) (vs : List V) (Q : VK) (E : XK), A.guards = some [] → Room k (A.deeper (envOfC qual (defScope st) s.heap.objs.size f cdv)) → sp vs H Q E →
      ∃ t, PSs (cxOf (L2.CX P w) P w K mg base N qual (defScope st) f cdv A outer s H E) (defBody st) t ∧ t { nx := fun _ H' => Q .non H', rt := Q } (start N vs) H) :
    FnG P w K mg base (k + 1) f fd ps sp := by
  obtain ⟨oc, od, kV, doc, pm, an, cdv, ct, osl, rfl, lk, hcd⟩ := F.ex
  refine ⟨len, fun A outer s H args us vs Q E hg hr e0 hb r hsp => ?_⟩
  have hl := len _ _ _ _ hsp
  have KX : K.In s.heap := e0.mod.kin.keeps fun b o e => (e0.bs b o e).1
  have lim : s.heap.NoLimit := e0.mod.nolimit.keeps fun b o e => (e0.bs b o e).1
  have hkind : ∀ y ∈ ps.zip us, (defScope st).names.lookup y.1 = some .local ∨ ((defScope st).names.lookup y.1 = some .cell ∧ ((cellsFrom (s.heap.objs.size + 1) (defScope st).names []).lookup y.1).isSome = true) := fun ⟨n, v⟩ hy => by
    rcases S.par n (List.of_mem_zip hy).1 with q | q
    · exact .inl q
    · exact .inr ⟨q, PySem.W.cellsFrom_some _ _ _ (.inl q)⟩
  refine codeAny_call_function hr.depth (KX _ _ lk) rfl S.co S.gen rfl (PySem.W.codeRec_of KX hcd) (hb _ _ _ _ ?_)
  refine wpAny_newFunctionEnv_cells S.kind hkind fun env he s1 x => ?_
  subst he
  refine ⟨lim.keeps x.toInCall.keep, codeAny_func ?_⟩
  obtain ⟨t, ht, hq⟩ := hbody cdv A outer s H vs Q E hg (hr.deeper _) hsp
  have I := inv_start (CX := L2.CX P w) (E := E) (cd := cdv) (qual := qual) S hr.hd e0 hl r x
  refine wpAny_mono (ht.run [] s1 (start N vs) H _ I hq) (fun fl s' hs => ?_) fun e s' hs => hs
  have fin : ∀ {σ' : L2.St} {H' : Hp} {v : V} {u : Value}, Inv (cxOf (L2.CX P w) P w K mg base N qual (defScope st) f cdv A outer s H E) [] σ' H' s' → RelV v u → Q v H' → CE outer P w H s Q u s' :=
    fun {σ' H' v u} J rv q => ⟨v, H', J.os, J.bare, J.base, J.hok, rv, q⟩
  cases fl with
  | ret u =>
    obtain ⟨v, σ', H', J, rv, q⟩ := hs
    exact fin J rv q
  | next =>
    obtain ⟨σ', H', J, q⟩ := hs
    exact fin (v := V.non) (u := Value.none) J rfl q
  | brk =>
    obtain ⟨_, _, _, q⟩ := hs
    exact False.elim q
  | cont =>
    obtain ⟨_, _, _, q⟩ := hs
    exact False.elim q

/-! ### arguments handed over -/
section
variable {K : PySem.W.Frag} {w : World}
theorem bindA_ok {keep : List Nat} : ∀ {ars : List Ar} {vs : List V} {T : List WV} {j : Nat} {env : Env} {ws : List PyEv.W} {env2 : Env} {l : List (Nat × Nat)} {L M : List WV} {σ : St} {Hx Hf H : Hp}, RArs σ Hx ars vs T → Sl env σ L → Fam K w Hf H (M ++ (T ++ L)) → bindA keep ars j env = some (ws, env2, l) →
    ∃ L2, Sl env2 σ L2 ∧ ws.length = vs.length ∧ Fam K w Hf H (M ++ (ws.zip vs ++ L2)) ∧ (∀ b, Owned (ws.zip vs ++ L2) b → Owned (T ++ L) b) ∧ (∀ p ∈ l, p.2 ∈ keep ∧ j ≤ p.2 ∧ ∃ v, σ[p.1]? = some (some v) ∧ vs[p.2 - j]? = some v) ∧ (l.map (·.2)).Nodup
  | [], _, _, j, env, ws, env2, l, L, M, σ, Hx, Hf, H, .nil, sl, fam, e => by
    have e' : some (([] : List PyEv.W), env, ([] : List (Nat × Nat))) = some (ws, env2, l) := e
    cases e'
    exact ⟨L, sl, rfl, fam, fun b h => h, (fun p h => nomatch h), List.nodup_nil⟩
  | .val x :: r, _, _, j, env, ws, env2, l, L, M, σ, Hx, Hf, H, .cons (v := v) (vs := vs) (Ts := Ts) .val rs, sl, fam, e => by
    have e' : (bindA keep r (j + 1) env).map (fun (ws, e, l) => (x :: ws, e, l)) = some (ws, env2, l) := e
    cases eb : bindA keep r (j + 1) env with
    | none => rw [eb] at e'; cases e'
    | some q =>
      obtain ⟨ws', e2, l'⟩ := q
      rw [eb] at e'
      have e' : some (x :: ws', e2, l') = some (ws, env2, l) := e'
      cases e'
      obtain ⟨L2, a1, a2, a3, a4, a5, a6⟩ := bindA_ok (M := M ++ [(x, v)]) rs sl (by simpa using fam) eb
      refine ⟨L2, a1, by simp [a2], by simpa using a3, fun b h => ?_, fun p hp => ?_, a6⟩
      · rcases Owned.cons.mp h with h | h
        · exact Owned.cons.mpr (.inl h)
        · exact Owned.cons.mpr (.inr (a4 b h))
      · obtain ⟨h1, h2, u, h3, h4⟩ := a5 p hp
        refine ⟨h1, by omega, u, h3, ?_⟩
        rw [show p.2 - j = (p.2 - (j + 1)) + 1 by omega, List.getElem?_cons_succ]
        exact h4
  | .vr i :: r, _, _, j, env, ws, env2, l, L, M, σ, Hx, Hf, H, .cons (v := v) (vs := vs) (Ts := Ts) (.vr hi) rs, sl, fam, e => by
    have e' : (match slot env i with
      | some (.d x) => (bindA keep r (j + 1) env).map fun (ws, e, l) => (PyEv.W.d x :: ws, e, l)
      | some w => if keep.contains j then (bindA keep r (j + 1) (env.set i none)).map fun (ws, e, l) => (w :: ws, e, (i, j) :: l) else none
      | none => none) = some (ws, env2, l) := e
    rw [List.nil_append] at fam
    cases es : slot env i with
    | none => rw [es] at e'; cases e'
    | some x =>
      rw [es] at e'
      obtain ⟨u, N, h1, h2, p⟩ := sl.out es
      rw [hi] at h1; cases h1
      have own : (if keep.contains j then (bindA keep r (j + 1) (env.set i none)).map fun (ws, e, l) => (x :: ws, e, (i, j) :: l) else none) = some (ws, env2, l) →
          ∃ L2, Sl env2 σ L2 ∧ ws.length = (v :: vs).length ∧ Fam K w Hf H (M ++ (ws.zip (v :: vs) ++ L2)) ∧ (∀ b, Owned (ws.zip (v :: vs) ++ L2) b → Owned ([] ++ Ts ++ L) b) ∧ (∀ p ∈ l, p.2 ∈ keep ∧ j ≤ p.2 ∧ ∃ u, σ[p.1]? = some (some u) ∧ (v :: vs)[p.2 - j]? = some u) ∧ (l.map (·.2)).Nodup := fun e' => by
        by_cases hk : keep.contains j = true
        · rw [if_pos hk] at e'
          cases eb : bindA keep r (j + 1) (env.set i none) with
          | none => rw [eb] at e'; cases e'
          | some q =>
            obtain ⟨ws', e2, l'⟩ := q
            rw [eb] at e'
            have e' : some (x :: ws', e2, (i, j) :: l') = some (ws, env2, l) := e'
            cases e'
            have pm : (M ++ (Ts ++ L)).Perm ((M ++ [(x, v)]) ++ (Ts ++ N)) := by
              have h : (M ++ (Ts ++ L)).Perm (M ++ (Ts ++ ((x, v) :: N))) := (List.perm_append_left_iff M).mpr ((List.perm_append_left_iff Ts).mpr p)
              refine h.trans ?_
              rw [List.append_assoc]
              exact (List.perm_append_left_iff M).mpr List.perm_middle
            obtain ⟨L2, a1, a2, a3, a4, a5, a6⟩ := bindA_ok (M := M ++ [(x, v)]) rs h2 (fam.perm pm) eb
            refine ⟨L2, a1, by simp [a2], by simpa using a3, fun b h => ?_, fun q hq => ?_, ?_⟩
            · rw [List.nil_append]
              have pm2 : (Ts ++ L).Perm ((x, v) :: (Ts ++ N)) := ((List.perm_append_left_iff Ts).mpr p).trans List.perm_middle
              refine (Owned.perm pm2).mpr ?_
              rcases Owned.cons.mp h with h | h
              · exact Owned.cons.mpr (.inl h)
              · exact Owned.cons.mpr (.inr (a4 b h))
            · rcases List.mem_cons.mp hq with rfl | hq
              · refine ⟨by simpa using hk, Nat.le_refl _, v, hi, ?_⟩
                rw [Nat.sub_self]; rfl
              · obtain ⟨h1, h2, u, h3, h4⟩ := a5 q hq
                refine ⟨h1, by omega, u, h3, ?_⟩
                rw [show q.2 - j = (q.2 - (j + 1)) + 1 by omega, List.getElem?_cons_succ]
                exact h4
            · rw [List.map_cons, List.nodup_cons]
              refine ⟨fun hm => ?_, a6⟩
              obtain ⟨q, hq, he⟩ := List.mem_map.mp hm
              have := (a5 q hq).2.1
              have he : q.2 = j := he
              omega
        · rw [if_neg hk] at e'; cases e'
      cases x with
      | d y =>
        have e' : (bindA keep r (j + 1) env).map (fun (ws, e, l) => (PyEv.W.d y :: ws, e, l)) = some (ws, env2, l) := e'
        cases eb : bindA keep r (j + 1) env with
        | none => rw [eb] at e'; cases e'
        | some q =>
          obtain ⟨ws', e2, l'⟩ := q
          rw [eb] at e'
          have e' : some (PyEv.W.d y :: ws', e2, l') = some (ws, env2, l) := e'
          cases e'
          have dn : Den K w Hf y v := by
            have := fam.rep (.d y, v) (List.mem_append_right _ (List.mem_append_right _ (p.mem_iff.mpr List.mem_cons_self)))
            cases this with
            | d h => exact h
          have fm : Fam K w Hf H ((M ++ [(.d y, v)]) ++ (Ts ++ L)) := by
            rw [List.append_assoc]
            exact (fam.cons_d dn).perm List.perm_middle.symm
          obtain ⟨L2, a1, a2, a3, a4, a5, a6⟩ := bindA_ok (M := M ++ [(.d y, v)]) rs sl fm eb
          refine ⟨L2, a1, by simp [a2], by simpa using a3, fun b h => ?_, fun p hp => ?_, a6⟩
          · rcases Owned.cons.mp h with h | h
            · cases h
            · exact a4 b h
          · obtain ⟨h1, h2, u, h3, h4⟩ := a5 p hp
            refine ⟨h1, by omega, u, h3, ?_⟩
            rw [show p.2 - j = (p.2 - (j + 1)) + 1 by omega, List.getElem?_cons_succ]
            exact h4
      | lst ys => exact own e'
      | dct ks ys => exact own e'

theorem backA_ok : ∀ {l : List (Nat × Nat)} {outs env : Env} {σ σ' : St} {L Lo M : List WV} {Hf H : Hp}, Sl env σ L → Sl outs σ' Lo → Fam K w Hf H (M ++ (L ++ Lo)) → (∀ p ∈ l, ∃ v, σ[p.1]? = some (some v) ∧ σ'[p.2]? = some (some v)) → (l.map (·.2)).Nodup →
    ∃ L2, Sl (backA outs env l) σ L2 ∧ Fam K w Hf H (M ++ L2) ∧ ∀ b, Owned L2 b → Owned (L ++ Lo) b
  | [], outs, env, σ, σ', L, Lo, M, Hf, H, sl, so, fam, hv, nd => ⟨L, sl, fam.sub ((List.Sublist.refl M).append (List.sublist_append_left L Lo)), fun b h => Owned.append.mpr (.inl h)⟩
  | (i, j) :: r, outs, env, σ, σ', L, Lo, M, Hf, H, sl, so, fam, hv, nd => by
    rw [List.map_cons, List.nodup_cons] at nd
    have rest : ∀ p ∈ r, ∃ v, σ[p.1]? = some (some v) ∧ σ'[p.2]? = some (some v) := fun p hp => hv p (List.mem_cons_of_mem _ hp)
    have same : ∀ (o : Option PyEv.W) (r : List (Nat × Nat)), j ∉ r.map (·.2) → backA (outs.set j o) env r = backA outs env r := fun o r => by
      induction r with
      | nil => intro _; rfl
      | cons p r ih =>
        intro hn
        simp only [List.map_cons, List.mem_cons, not_or] at hn
        show (backA (outs.set j o) env r).set p.1 ((outs.set j o).getD p.2 none) = (backA outs env r).set p.1 (outs.getD p.2 none)
        rw [ih hn.2]
        have : slot (outs.set j o) p.2 = slot outs p.2 := by rw [slot_set, if_neg hn.1]
        rw [show (outs.set j o).getD p.2 none = outs.getD p.2 none from this]
    show ∃ L2, Sl ((backA outs env r).set i (slot outs j)) σ L2 ∧ _
    cases es : slot outs j with
    | none =>
      obtain ⟨L2, a1, a2, a3⟩ := backA_ok sl so fam rest nd.2
      obtain ⟨M2, b1, b2⟩ := a1.drop i
      exact ⟨M2, b1, a2.sub ((List.Sublist.refl M).append b2), fun b ⟨q, hq, hb⟩ => a3 b ⟨q, b2.mem hq, hb⟩⟩
    | some x =>
      obtain ⟨u, N, h1, h2, p⟩ := so.out es
      obtain ⟨v, hv1, hv2⟩ := hv (i, j) List.mem_cons_self
      obtain rfl : u = v := by rw [hv2] at h1; exact (Option.some.inj (Option.some.inj h1)).symm
      have pm : (M ++ (L ++ Lo)).Perm ((M ++ [(x, u)]) ++ (L ++ N)) := by
        have h : (M ++ (L ++ Lo)).Perm (M ++ (L ++ ((x, u) :: N))) := (List.perm_append_left_iff M).mpr ((List.perm_append_left_iff L).mpr p)
        refine h.trans ?_
        rw [List.append_assoc]
        exact (List.perm_append_left_iff M).mpr List.perm_middle
      obtain ⟨L2, a1, a2, a3⟩ := backA_ok (l := r) (outs := outs.set j none) sl h2 (fam.perm pm) rest nd.2
      rw [same none r nd.1] at a1
      obtain ⟨M2, b1, b2⟩ := a1.drop i
      obtain ⟨L3, c1, c2⟩ := b1.into (x := x) hv1
      have pm2 : (L ++ Lo).Perm ((x, u) :: (L ++ N)) := ((List.perm_append_left_iff L).mpr p).trans List.perm_middle
      refine ⟨L3, c1, ?_, fun b h => (Owned.perm pm2).mpr ?_⟩
      · have f2 : Fam K w Hf H ((M ++ [(x, u)]) ++ M2) := a2.sub ((List.Sublist.refl _).append b2)
        refine f2.perm ?_
        rw [List.append_assoc]
        exact (List.perm_append_left_iff M).mpr c2.symm
      · rcases Owned.cons.mp ((Owned.perm c2).mp h) with h | h
        · exact Owned.cons.mpr (.inl h)
        · obtain ⟨q, hq, hb⟩ := h
          exact Owned.cons.mpr (.inr (a3 b ⟨q, b2.mem hq, hb⟩))
end
end PyEv

set_option maxRecDepth 100000
set_option maxHeartbeats 2000000
/-! PyF2: the promise by the evaluator; a call. -/
namespace PyEv
open PySem L2

section
variable (K : PySem.W.Frag) (w : World) (xi : XI)
def FinC (keep : List Nat) (vs : List V) (Hf H : Hp) (L : List WV) (r : CRes) (Q : VK) (E : XK) : Prop := match r with
  | .ok x outs => ∀ σ' v Hg H' L', Sl outs σ' L' → (∀ i ∈ keep, σ'[i]? = (vs.map some)[i]?) → Step Hf H L Hg H' ((x, v) :: L') → Fam K w Hg H' ((x, v) :: L') → Q v H'
  | .exc x outs => ∀ σ' Hg H' L' cls dd, Sl outs σ' L' → (∀ i ∈ keep, σ'[i]? = (vs.map some)[i]?) → Step Hf H L Hg H' L' → Fam K w Hg H' L' → xi cls dd x Hg H' → E cls dd H'
  | .bad => False
/-- the promise of a def: what the evaluator says -/
def spF (cf : Str → List PyEv.W → CRes) (f : Str) (keep : List Nat) : Sp := fun vs H Q E => ∃ Hf ws, ws.length = vs.length ∧ Same Hf H ∧ Fam K w Hf H (ws.zip vs) ∧ FinC K w xi keep vs Hf H (ws.zip vs) (cf f ws) Q E
end

/-- every def of the program as the world has it -/
structure DefW (P : Program) (w : World) (K : PySem.W.Frag) (mg : Str → Option Value) (base : Heap) (xi : XI) (PP : Prog) (cf : Str → List PyEv.W → CRes) (k : Nat) : Prop where
  fns : ∀ f fn, PP.fns.lookup f = some fn → ∃ a fd ps, mg f = some (.ref a) ∧ PySem.W.keepIn K (.ref a) = true ∧ Binds K fd ps [] ∧ FnG P w K mg base k a fd ps (spF K w xi cf f fn.keep)

theorem plainAll {env : PySem.Env} {pos : Pos} : ∀ {zs : List Expr}, (∀ z ∈ zs, plainX z = true) → (backTo pos (starEach zs env)).any (·.1) = false
  | [], _ => rfl
  | z :: zs, h => by
    rw [starEach_plain (h z List.mem_cons_self)]
    have := plainAll (env := env) (pos := pos) (zs := zs) fun y hy => h y (List.mem_cons_of_mem _ hy)
    unfold backTo at this ⊢
    rw [List.map_cons, List.any_cons, this]
    rfl

section
variable {X : Cx} {xi : XI} {W : WX} {lv : Nat}
theorem snd_call {PP : Prog} {cf : Str → List PyEv.W → CRes} (c : CxOk X lv) (d : DefW X.prog X.w X.K X.mg X.base xi PP cf lv) (tk : Takes X W) {nm : Nms} (n : NmOk X nm) {f x : Str} {a : Expr} {as : List Expr} {rs : Env → Res (List Ar)} {p pos : Pos}
    (hx : (decide (f = x) && glB nm x && nameB x) = true) (hp : plainX a = true) (hps : ∀ z ∈ as, plainX z = true) (hs : SndAs X xi W (a :: as) rs) :
    Snd X xi W (.Call (.Name x p) (a :: as) [] pos) (fun env => match PP.fns.lookup f with
      | none => .bad
      | some fn => (rs env).bind fun ars env => callA cf f fn ars env) := by
  simp only [Bool.and_eq_true, decide_eq_true_eq] at hx
  obtain ⟨⟨rfl, h2⟩, h3⟩ := hx
  obtain ⟨n1, _, _⟩ := nameB_of h3
  refine Snd.of_pe rfl ?_
  cases el : PP.fns.lookup f with
  | none => exact ⟨fun pins s σ H Q I q => by obtain ⟨Hf, env, L, s0, fin⟩ := q; exact fin.elim⟩
  | some fn =>
    obtain ⟨ad, fd, ps, hm, hk, hb, F⟩ := d.fns f fn el
    refine impE (pe_callG (E := fun σ cls dd H => W cls dd σ H) F c.guards c.room (n.gl _ h2) hm hk hb (passAt tk) hs n1 (starEach_plain hp) (plainAll hps)) fun σ H Q q => ?_
    refine bindF (R1 := RArs) (R2 := RAr) q fun Hf L ars env1 vs T1 Hf1 H1 L1 r1 sl1 st1 fam1 fin => ?_
    cases eb : bindA fn.keep ars 0 env1 with
    | none =>
      have fin : Fin X.K X.w xi W RAr σ Hf H L (callA cf f fn ars env1) Q := fin
      unfold callA at fin
      rw [eb] at fin
      exact fin.elim
    | some q =>
      obtain ⟨ws, env2, l⟩ := q
      have fin : Fin X.K X.w xi W RAr σ Hf H L (callA cf f fn ars env1) Q := fin
      unfold callA at fin
      rw [eb] at fin
      have fin : Fin X.K X.w xi W RAr σ Hf H L (match cf f ws with | .ok w outs => .ok (.val w) (backA outs env2 l) | .exc x outs => .exc x (backA outs env2 l) | .bad => .bad) Q := fin
      obtain ⟨L2, a1, a2, a3, a4, a5, a6⟩ := bindA_ok (M := []) r1 sl1 fam1 eb
      have a3 : Fam X.K X.w Hf1 H1 (ws.zip vs ++ L2) := a3
      have pm : (ws.zip vs ++ L2).Perm (L2 ++ ws.zip vs) := List.perm_append_comm
      have st2 : Step Hf H L Hf1 H1 (L2 ++ ws.zip vs) := st1.less fun b h => a4 b ((Owned.perm pm).mpr h)
      refine ⟨Hf1, ws, a2, st1.sub, a3.sub (List.sublist_append_left _ _), ?_⟩
      have look : ∀ (σ' : List (Option V)), (∀ i ∈ fn.keep, σ'[i]? = (vs.map some)[i]?) → ∀ p ∈ l, ∃ v, σ[p.1]? = some (some v) ∧ σ'[p.2]? = some (some v) := fun σ' hk p hp => by
        obtain ⟨h1, _, v, h3, h4⟩ := a5 p hp
        refine ⟨v, h3, ?_⟩
        rw [hk p.2 h1, List.getElem?_map]
        have h4 : vs[p.2]? = some v := h4
        rw [h4]; rfl
      cases er : cf f ws with
      | bad => rw [er] at fin; exact fin
      | ok x outs =>
        rw [er] at fin
        intro σ' v Hg H' L' so hk st fam
        have f3 := (a3.perm pm).carry st fam
        have s3 := st2.trans st
        have pm3 : (L2 ++ ((x, v) :: L')).Perm ([(x, v)] ++ (L2 ++ L')) := List.perm_middle
        obtain ⟨L3, b1, b2, b3⟩ := backA_ok (M := [(x, v)]) (a1) so (f3.perm pm3) (look σ' hk) a6
        exact fin v [(x, v)] Hg H' L3 .val b1 (s3.less fun b h => by
          refine (Owned.perm pm3).mpr ?_
          rcases Owned.cons.mp h with h | h
          · exact Owned.cons.mpr (.inl h)
          · exact Owned.cons.mpr (.inr (b3 b h))) b2
      | exc x outs =>
        rw [er] at fin
        intro σ' Hg H' L' cls dd so hk st fam hx
        have f3 := (a3.perm pm).carry st fam
        have s3 := st2.trans st
        obtain ⟨L3, b1, b2, b3⟩ := backA_ok (M := []) (a1) so f3 (look σ' hk) a6
        exact fin Hg H' L3 cls dd b1 (s3.less b3) b2 hx
end
end PyEv

set_option maxRecDepth 100000
set_option maxHeartbeats 2000000
/-! PyM0: what okE says of the text. -/
namespace PyEv
open PySem L2
section
variable {N : List Str} {nm : Nms} {x : Expr}
theorem ok_var {i : Nat} (h : okE (.var i) N nm x = true) : ∃ x' pos, x = .Name x' pos ∧ (decide (N[i]? = some x') && visB nm x' && nameB x') = true := by
  unfold okE at h
  split at h
  all_goals first | (cases h; done) | (rename_i heq; cases heq; done) | skip
  rename_i heq
  cases heq
  exact ⟨_, _, rfl, h⟩
theorem ok_k {c : C} (h : okE (.k c) N nm x = true) : ∃ v j pos, x = .Constant v j pos ∧ (match (generalizing := false) c, v with | .non, .none => true | .bl b, .bool b' => b == b' | .int i, .int j => decide (i = j) | .str s, .str t => decide (s = t) | _, _ => false) = true := by
  unfold okE at h
  split at h
  all_goals first | (cases h; done) | (rename_i heq; cases heq; done) | skip
  rename_i heq
  cases heq
  exact ⟨_, _, _, rfl, h⟩
theorem ok_glob {g : Str} (h : okE (.glob g) N nm x = true) : ∃ y pos, x = .Name y pos ∧ (decide (g = y) && glB nm y && nameB y) = true := by
  unfold okE at h
  split at h
  all_goals first | (cases h; done) | (rename_i heq; cases heq; done) | skip
  rename_i heq
  cases heq
  exact ⟨_, _, rfl, h⟩
theorem ok_tup {es : Es} (h : okE (.tup es) N nm x = true) : ∃ l k pos, x = .Tuple l k pos ∧ okIts es N nm l = true := by
  unfold okE at h
  split at h
  all_goals first | (cases h; done) | (rename_i heq; cases heq; done) | skip
  rename_i heq
  cases heq
  exact ⟨_, _, _, rfl, h⟩
theorem ok_lst {es : Es} (h : okE (.lst es) N nm x = true) : ∃ l pos, x = .List l pos ∧ okIts es N nm l = true := by
  unfold okE at h
  split at h
  all_goals first | (cases h; done) | (rename_i heq; cases heq; done) | skip
  rename_i heq
  cases heq
  exact ⟨_, _, rfl, h⟩
theorem ok_dct {ks : List Str} {es : Es} (h : okE (.dct ks es) N nm x = true) : ∃ keys vals pos, x = .Dict keys vals pos ∧ (keysOk ks keys && okIts es N nm vals && decide (keys.length = vals.length) && decide (ks.length ≤ 15) && decide ks.Nodup && es.plain) = true := by
  unfold okE at h
  split at h
  all_goals first | (cases h; done) | (rename_i heq; cases heq; done) | skip
  rename_i heq
  cases heq
  exact ⟨_, _, _, rfl, h⟩
theorem ok_bin {o : Bo} {a b : E} (h : okE (.bin o a b) N nm x = true) : ∃ l op r pos, x = .BinOp l op r pos ∧ (boOk o op && okE a N nm l && okE b N nm r) = true := by
  unfold okE at h
  split at h
  all_goals first | (cases h; done) | (rename_i heq; cases heq; done) | skip
  rename_i heq
  cases heq
  exact ⟨_, _, _, _, rfl, h⟩
theorem ok_neg {a : E} (h : okE (.neg a) N nm x = true) : ∃ y pos, x = .UnaryOp .USub y pos ∧ okE a N nm y = true := by
  unfold okE at h
  split at h
  all_goals first | (cases h; done) | (rename_i heq; cases heq; done) | skip
  rename_i heq
  cases heq
  exact ⟨_, _, rfl, h⟩
theorem ok_cmp {o : Co} {a b : E} (h : okE (.cmp o a b) N nm x = true) : ∃ l op r pos, x = .Compare l [op] [r] pos ∧ (coOk o op && okE a N nm l && okE b N nm r && notSet r) = true := by
  unfold okE at h
  split at h
  all_goals first | (cases h; done) | (rename_i heq; cases heq; done) | skip
  rename_i heq
  cases heq
  exact ⟨_, _, _, _, rfl, h⟩
theorem ok_chain {o1 o2 : Co} {a b c : E} (h : okE (.chain o1 o2 a b c) N nm x = true) : ∃ l p q r t pos, x = .Compare l [p, q] [r, t] pos ∧ (coOk o1 p && coOk o2 q && okE a N nm l && okE b N nm r && okE c N nm t && notSet t) = true := by
  unfold okE at h
  split at h
  all_goals first | (cases h; done) | (rename_i heq; cases heq; done) | skip
  rename_i heq
  cases heq
  exact ⟨_, _, _, _, _, _, rfl, h⟩
theorem ok_and {a b : E} (h : okE (.and a b) N nm x = true) : ∃ v u rest pos, x = .BoolOp .And (v :: u :: rest) pos ∧ (okE a N nm v && okE b N nm (match (generalizing := false) rest with | [] => u | _ => .BoolOp .And (u :: rest) pos)) = true := by
  unfold okE at h
  split at h
  all_goals first | (cases h; done) | (rename_i heq; cases heq; done) | skip
  rename_i heq
  cases heq
  exact ⟨_, _, _, _, rfl, h⟩
theorem ok_or {a b : E} (h : okE (.or a b) N nm x = true) : ∃ v u rest pos, x = .BoolOp .Or (v :: u :: rest) pos ∧ (okE a N nm v && okE b N nm (match (generalizing := false) rest with | [] => u | _ => .BoolOp .Or (u :: rest) pos)) = true := by
  unfold okE at h
  split at h
  all_goals first | (cases h; done) | (rename_i heq; cases heq; done) | skip
  rename_i heq
  cases heq
  exact ⟨_, _, _, _, rfl, h⟩
theorem ok_not {a : E} (h : okE (.not a) N nm x = true) : ∃ y pos, x = .UnaryOp .Not y pos ∧ okE a N nm y = true := by
  unfold okE at h
  split at h
  all_goals first | (cases h; done) | (rename_i heq; cases heq; done) | skip
  rename_i heq
  cases heq
  exact ⟨_, _, rfl, h⟩
theorem ok_ifx {c a b : E} (h : okE (.ifx c a b) N nm x = true) : ∃ t y z pos, x = .IfExp t y z pos ∧ (okE c N nm t && okE a N nm y && okE b N nm z) = true := by
  unfold okE at h
  split at h
  all_goals first | (cases h; done) | (rename_i heq; cases heq; done) | skip
  rename_i heq
  cases heq
  exact ⟨_, _, _, _, rfl, h⟩
theorem ok_call {f : Str} {es : Es} (h : okE (.call f es) N nm x = true) : ∃ y p a as pos, x = .Call (.Name y p) (a :: as) [] pos ∧ (decide (f = y) && glB nm y && nameB y && okAs es N nm (a :: as)) = true := by
  unfold okE at h
  split at h
  all_goals first | (cases h; done) | (rename_i heq; cases heq; done) | skip
  rename_i heq
  cases heq
  exact ⟨_, _, _, _, _, rfl, h⟩
theorem ok_bi {f : Bi} {a : E} (h : okE (.bi f a) N nm x = true) : ∃ y p v pos, x = .Call (.Name y p) [v] [] pos ∧ (decide (Str.ofString (biName f) = y) && glB nm y && okE a N nm v) = true := by
  unfold okE at h
  split at h
  all_goals first | (cases h; done) | (rename_i heq; cases heq; done) | skip
  rename_i heq
  cases heq
  exact ⟨_, _, _, _, rfl, h⟩
theorem ok_mm {mx : Bool} {a b : E} (h : okE (.mm mx a b) N nm x = true) : ∃ y p v u pos, x = .Call (.Name y p) [v, u] [] pos ∧ (decide (Str.ofString (if mx = true then "max" else "min") = y) && glB nm y && okE a N nm v && okE b N nm u) = true := by
  unfold okE at h
  split at h
  all_goals first | (cases h; done) | (rename_i heq; cases heq; done) | skip
  rename_i heq
  cases heq
  exact ⟨_, _, _, _, _, rfl, h⟩
theorem ok_isi {a : E} {t : Ty} (h : okE (.isi a t) N nm x = true) : ∃ y p v z p2 pos, x = .Call (.Name y p) [v, .Name z p2] [] pos ∧ (decide (Str.ofString "isinstance" = y) && glB nm y && okE a N nm v && decide (Str.ofString (tyName t) = z) && glB nm z) = true := by
  unfold okE at h
  split at h
  all_goals first | (cases h; done) | (rename_i heq; cases heq; done) | skip
  rename_i heq
  cases heq
  exact ⟨_, _, _, _, _, _, rfl, h⟩
theorem ok_ix {a i : E} (h : okE (.ix a i) N nm x = true) : ∃ v s pos, x = .Subscript v s pos ∧ (okE a N nm v && okE i N nm s && notSl s) = true := by
  unfold okE at h
  split at h
  all_goals first | (cases h; done) | (rename_i heq; cases heq; done) | skip
  rename_i heq
  cases heq
  exact ⟨_, _, _, rfl, h⟩
theorem ok_slc {a lo hi : E} (h : okE (.slc a lo hi) N nm x = true) : ∃ v l h' p2 pos, x = .Subscript v (.Slice l h' none p2) pos ∧ (okE a N nm v && (match (generalizing := false) l with | none => lo.isNone | some x => !lo.isNone && okE lo N nm x) && (match (generalizing := false) h' with | none => hi.isNone | some x => !hi.isNone && okE hi N nm x)) = true := by
  unfold okE at h
  split at h
  all_goals first | (cases h; done) | (rename_i heq; cases heq; done) | skip
  rename_i heq
  cases heq
  exact ⟨_, _, _, _, _, rfl, h⟩
theorem ok_rev {a : E} (h : okE (.rev a) N nm x = true) : ∃ v i k p1 p2 p3 pos, x = .Subscript v (.Slice none none (some (.UnaryOp .USub (.Constant (.int i) k p1) p2)) p3) pos ∧ (decide (i = 1) && okE a N nm v) = true := by
  unfold okE at h
  split at h
  all_goals first | (cases h; done) | (rename_i heq; cases heq; done) | skip
  rename_i heq
  cases heq
  exact ⟨_, _, _, _, _, _, _, rfl, h⟩
theorem ok_bm {m : Bm} {o : E} {es : Es} (h : okE (.bm m o es) N nm x = true) : False := by
  unfold okE at h
  split at h
  all_goals first | (cases h; done) | (rename_i heq; cases heq; done) | (rw [Bool.false_and] at h; cases h) | (simp at h)
theorem ok_mut {m : Mm} {i : Nat} {es : Es} (h : okE (.mut m i es) N nm x = true) : ∃ y p z apos a as pos, x = .Call (.Attribute (.Name y p) z apos) (a :: as) [] pos ∧ (decide (Str.ofString (mmName m) = z) && decide (N[i]? = some y) && visB nm y && nameB y && okIts es N nm (a :: as) && decide (apos.endLine = pos.line) && decide ((a :: as).length < 20) && (a :: as).all plainX) = true := by
  unfold okE at h
  split at h
  all_goals first | (cases h; done) | (rename_i heq; cases heq; done) | skip
  rename_i heq
  cases heq
  exact ⟨_, _, _, _, _, _, _, rfl, h⟩
theorem ok_lc {elt : E} {tg : Tg} {it : It} {cond : E} {own : List (Str × Nat)} (h : okE (.lc elt tg it cond own) N nm x = true) : ∃ e t iter ifs ia scope pos, x = .ListComp e [⟨t, iter, ifs, ia⟩] scope pos ∧ (decide (ia = 0) && blkC N { scope with names := nm } scope own && okE elt N scope.names e && tgOk N scope.names tg t && okIt it N nm iter && notSet iter &&
      (own.all fun p => decide (p.2 < N.length)) && (match (generalizing := false) ifs with | [] => cond.isNone | [c] => !cond.isNone && okE cond N scope.names c | _ => false) && (match (generalizing := false) it with | .zip .. => tgTup tg | .enum .. => tgTup tg | _ => true)) = true := by
  unfold okE at h
  split at h
  all_goals first | (cases h; done) | (rename_i heq; cases heq; done) | skip
  rename_i heq
  cases heq
  exact ⟨_, _, _, _, _, _, _, rfl, h⟩
theorem ok_listRange {a : E} (h : okE (.listRange a) N nm x = true) : ∃ y p z p2 v pos2 pos, x = .Call (.Name y p) [.Call (.Name z p2) [v] [] pos2] [] pos ∧ (decide (Str.ofString "list" = y) && glB nm y && decide (Str.ofString "range" = z) && glB nm z && okE a N nm v) = true := by
  unfold okE at h
  split at h
  all_goals first | (cases h; done) | (rename_i heq; cases heq; done) | skip
  rename_i heq
  cases heq
  exact ⟨_, _, _, _, _, _, _, rfl, h⟩
theorem ok_none  (h : okE E.none N nm x = true) : False := by
  cases x <;> simp [okE] at h
end
section
variable {N : List Str} {nm : Nms} {x : Expr} {xs : List Expr}
theorem ok_inil (h : okIts .nil N nm xs = true) : xs = [] := by
  cases xs with
  | nil => rfl
  | cons a as => cases h
theorem ok_icons {e : E} {es : Es} (h : okIts (.cons e es) N nm xs = true) : ∃ y ys, xs = y :: ys ∧ (okE e N nm y && okIts es N nm ys) = true := by
  cases xs with
  | nil => cases h
  | cons a as => exact ⟨a, as, rfl, by simpa only [okIts] using h⟩
theorem ok_istar {e : E} {es : Es} (h : okIts (.star e es) N nm xs = true) : ∃ y p ys, xs = .Starred y p :: ys ∧ (okE e N nm y && okIts es N nm ys) = true := by
  unfold okIts at h
  split at h
  all_goals first | (cases h; done) | (rename_i heq; cases heq; done) | skip
  rename_i heq
  cases heq
  exact ⟨_, _, _, rfl, h⟩
theorem ok_anil (h : okAs .nil N nm xs = true) : xs = [] := by
  cases xs with
  | nil => rfl
  | cons a as => cases h
theorem ok_acons {e : E} {es : Es} (h : okAs (.cons e es) N nm xs = true) : ∃ y ys, xs = y :: ys ∧ (okE e N nm y && okAs es N nm ys) = true := by
  cases xs with
  | nil => cases h
  | cons a as => exact ⟨a, as, rfl, by simpa only [okAs] using h⟩
theorem ok_astar {e : E} {es : Es} (h : okAs (.star e es) N nm xs = true) : False := by
  cases xs <;> cases h
theorem okAs_plain : ∀ {es : Es} {xs : List Expr}, okAs es N nm xs = true → ∀ z ∈ xs, plainX z = true
  | .nil, xs, h, z, hz => by rw [ok_anil h] at hz; cases hz
  | .cons e es, xs, h, z, hz => by
    obtain ⟨y, ys, e0, h1⟩ := ok_acons h
    rw [e0] at hz
    rw [Bool.and_eq_true] at h1
    rcases List.mem_cons.mp hz with e1 | hz
    · rw [e1]; exact okE_plain h1.1
    · exact okAs_plain h1.2 z hz
  | .star e es, xs, h, z, hz => (ok_astar h).elim
theorem ok_seq {e : E} (h : okIt (.seq e) N nm x = true) : okE e N nm x = true := by simpa only [okIt] using h
theorem ok_range1 {a : E} (h : okIt (.range1 a) N nm x = true) : ∃ y p v pos, x = .Call (.Name y p) [v] [] pos ∧ (decide (Str.ofString "range" = y) && glB nm y && okE a N nm v) = true := by
  unfold okIt at h
  split at h
  all_goals first | (cases h; done) | (rename_i heq; cases heq; done) | skip
  rename_i heq
  cases heq
  exact ⟨_, _, _, _, rfl, h⟩
theorem ok_range2 {a b : E} (h : okIt (.range2 a b) N nm x = true) : ∃ y p v u pos, x = .Call (.Name y p) [v, u] [] pos ∧ (decide (Str.ofString "range" = y) && glB nm y && okE a N nm v && okE b N nm u) = true := by
  unfold okIt at h
  split at h
  all_goals first | (cases h; done) | (rename_i heq; cases heq; done) | skip
  rename_i heq
  cases heq
  exact ⟨_, _, _, _, _, rfl, h⟩
theorem ok_zip {a b : E} (h : okIt (.zip a b) N nm x = true) : ∃ y p v u pos, x = .Call (.Name y p) [v, u] [] pos ∧ (decide (Str.ofString "zip" = y) && glB nm y && okE a N nm v && okE b N nm u) = true := by
  unfold okIt at h
  split at h
  all_goals first | (cases h; done) | (rename_i heq; cases heq; done) | skip
  rename_i heq
  cases heq
  exact ⟨_, _, _, _, _, rfl, h⟩
theorem ok_enum {a : E} (h : okIt (.enum a) N nm x = true) : ∃ y p v pos, x = .Call (.Name y p) [v] [] pos ∧ (decide (Str.ofString "enumerate" = y) && glB nm y && okE a N nm v) = true := by
  unfold okIt at h
  split at h
  all_goals first | (cases h; done) | (rename_i heq; cases heq; done) | skip
  rename_i heq
  cases heq
  exact ⟨_, _, _, _, rfl, h⟩
end
end PyEv

set_option maxRecDepth 100000
set_option maxHeartbeats 4000000
/-! PyM1: every expression is sound. -/
namespace PyEv
open PySem L2

/-- all that an expression needs of its context -/
structure All (X : Cx) (xi : XI) (W : WX) (lv : Nat) (N : List Str) (nm : Nms) (PP : Prog) (cf : Str → List PyEv.W → CRes) : Prop where
  c : CxOk X lv
  hN : X.N = N
  n : NmOk X nm
  d : DefW X.prog X.w X.K X.mg X.base xi PP cf lv
  tk : Takes X W
  hc : ∀ x d, PP.consts.lookup x = some d → ConstOk X x d
/-- .. and a boolean one, whatever its whole is -/
structure SndX (X : Cx) (xi : XI) (W : WX) (x : Expr) (r : Env → Res Ar) : Prop where
  s : Snd X xi W x r
  w : ∀ op l pos, x = .BoolOp op l pos → PW X x (tG X.K X.w xi W RB (fun env => useB (r env)))
theorem SndX.of {X : Cx} {xi : XI} {W : WX} {x : Expr} {r : Env → Res Ar} (s : Snd X xi W x r) (h : (match (generalizing := false) x with | .BoolOp .. => false | _ => true) = true) : SndX X xi W x r := ⟨s, fun op l pos e => by subst e; cases h⟩
theorem SndX.of' {X : Cx} {xi : XI} {W : WX} {x : Expr} {r : Env → Res Ar} (s : SndW X xi W x r) : SndX X xi W x r := ⟨s.1, fun _ _ _ _ => s.2⟩

section
variable {X : Cx} {xi : XI} {W : WX} {lv : Nat} {N : List Str} {nm : Nms} {PP : Prog} {cf : Str → List PyEv.W → CRes} {keep : List Nat}
theorem All.blk (a : All X xi W lv N nm PP cf) (scope : Scope) (s : Shared) (H : Hp) (C : Addr) (cl : List (Str × Addr)) (fp : List Addr) : All (X.blk s H scope (compEnvC scope cl C X.env) fp) xi WNo lv N scope.names PP cf :=
  ⟨a.c.blk scope, a.hN, NmOk.blk (nm := nm) scope, a.d, takes0, fun x d h => ⟨(a.hc x d h).ex⟩⟩
theorem keysOk_len : ∀ {ks : List Str} {keys : List (Option Expr)}, keysOk ks keys = true → ks.length = keys.length ∧ keys.all (·.isSome) = true
  | [], [], _ => ⟨rfl, rfl⟩
  | [], _ :: _, h => by cases h
  | _ :: _, [], h => by cases h
  | k :: ks, none :: keys, h => by cases h
  | k :: ks, some e :: keys, h => by
    unfold keysOk at h
    split at h
    · rename_i heq; cases heq
    · rename_i h1 h2
      cases h1; cases h2
      rw [Bool.and_eq_true] at h
      obtain ⟨a, b⟩ := keysOk_len h.2
      exact ⟨by simp [a], by simpa using b⟩
    · cases h
theorem keysOk_cons {k : Str} {ks : List Str} {keys : List (Option Expr)} (h : keysOk (k :: ks) keys = true) : ∃ j p r, keys = some (.Constant (.str k) j p) :: r ∧ keysOk ks r = true := by
  cases keys with
  | nil => cases h
  | cons e r =>
    unfold keysOk at h
    split at h
    · rename_i h1 h2; cases h1
    · rename_i h1 h2
      cases h1; cases h2
      rw [Bool.and_eq_true, decide_eq_true_eq] at h
      obtain ⟨rfl, h⟩ := h
      exact ⟨_, _, _, rfl, h⟩
    · cases h

theorem lcS_of {elt : E} {tg : Tg} {it : It} {cond : E} {own : List (Str × Nat)} {e t iter : Expr} {ifs : List Expr} {scope : Scope} (A : All X xi W lv N nm PP cf)
    (h2 : blkC N { scope with names := nm } scope own = true) (h4 : tgOk N scope.names tg t = true) (h6 : notSet iter = true) (h8 : (match (generalizing := false) ifs with | [] => cond.isNone | [c] => !cond.isNone && okE cond N scope.names c | _ => false) = true)
    (hi : SndIt X xi W t iter (evIt PP cf keep it)) (he : ∀ (s : Shared) (H : Hp) (C : Addr) (cl : List (Str × Addr)) (fp : List Addr), SndX (X.blk s H scope (compEnvC scope cl C X.env) fp) xi WNo e (evE PP cf keep elt))
    (hcnd : ∀ c, okE cond N scope.names c = true → ∀ (s : Shared) (H : Hp) (C : Addr) (cl : List (Str × Addr)) (fp : List Addr), SndX (X.blk s H scope (compEnvC scope cl C X.env) fp) xi WNo c (evE PP cf keep cond)) :
    LcS X xi W tg t iter e ifs scope own (evIt PP cf keep it) (fun env => if cond.isNone = true then .ok true env else useB (evE PP cf keep cond env)) (fun env => (evE PP cf keep elt env).bind item) := by
  have L := lcOk_of A.c A.hN A.n h2 h4
  refine ⟨L.blk, L.tgs, hi, fun s H C cl fp => pg_tg (A.blk scope s H C cl fp).c A.hN (A.blk scope s H C cl fp).n h4, ?_, fun s H C cl fp => snd_item (he s H C cl fp).s.pe, h6⟩
  match ifs, h8 with
  | [], h8 =>
    have h8 : cond.isNone = true := h8
    refine ⟨tYes, fun s H C cl fp => pts_nil, fun σ H Q q => ?_⟩
    simp only [h8, if_true] at q
    obtain ⟨Hf, env, L, s0, fin⟩ := q
    exact fin true [] Hf H L ⟨rfl, rfl⟩ s0.sl (Step.refl s0.sub) s0.fam
  | [c], h8 =>
    have h8 : (!cond.isNone && okE cond N scope.names c) = true := h8
    rw [Bool.and_eq_true, Bool.not_eq_true'] at h8
    refine ⟨tG X.K X.w xi WNo RB (fun env => useB (evE PP cf keep cond env)), fun s H C cl fp => pts_one (hcnd c h8.2 s H C cl fp).s.pt, fun σ H Q q => ?_⟩
    simpa only [h8.1, Bool.false_eq_true, if_false] using q
  | _ :: _ :: _, h8 => cases h8

mutual
theorem sE : ∀ (e : E) {X : Cx} {W : WX} {nm : Nms} {x : Expr}, All X xi W lv N nm PP cf → okE e N nm x = true → SndX X xi W x (evE PP cf keep e)
  | .var i, X, W, nm, x, A, h0 => by
    obtain ⟨y, pos, rfl, h⟩ := ok_var h0
    exact .of (snd_var A.hN A.n h).1 rfl
  | .k c, X, W, nm, x, A, h0 => by
    obtain ⟨v, j, pos, rfl, h⟩ := ok_k h0
    exact .of (snd_k h) rfl
  | .glob g, X, W, nm, x, A, h0 => by
    obtain ⟨y, pos, rfl, h⟩ := ok_glob h0
    exact .of (snd_glob A.n A.hc h) rfl
  | .tup es, X, W, nm, x, A, h0 => by
    obtain ⟨l, k, pos, rfl, h⟩ := ok_tup h0
    exact .of (snd_tup (sIts es A h)) rfl
  | .lst es, X, W, nm, x, A, h0 => by
    obtain ⟨l, pos, rfl, h⟩ := ok_lst h0
    exact .of (snd_lst (sIts es A h)) rfl
  | .dct ks es, X, W, nm, x, A, h0 => by
    obtain ⟨keys, vals, pos, rfl, h⟩ := ok_dct h0
    simp only [Bool.and_eq_true, decide_eq_true_eq] at h
    obtain ⟨⟨⟨⟨⟨h1, h2⟩, h3⟩, h4⟩, h5⟩, h6⟩ := h
    obtain ⟨l1, l2⟩ := keysOk_len h1
    by_cases h0 : keys = []
    · subst h0
      have e1 : ks = [] := List.eq_nil_of_length_eq_zero (by simpa using l1)
      have e2 : vals = [] := List.eq_nil_of_length_eq_zero (by simpa using h3.symm)
      subst e1 e2
      cases es with
      | nil => exact .of (snd_dct0) rfl
      | cons e es => cases h2
      | star e es => cases h2
    · exact .of (snd_dct (sDs es A h6 h1 h3 h2) l2 h3 h0 (by rw [← l1]; exact h4) l1 h5) rfl
  | .bin o a b, X, W, nm, x, A, h0 => by
    obtain ⟨l, op, r, pos, rfl, h⟩ := ok_bin h0
    simp only [Bool.and_eq_true] at h
    exact .of (snd_bin h.1.1 (sE a A h.1.2).s (sE b A h.2).s) rfl
  | .neg a, X, W, nm, x, A, h0 => by
    obtain ⟨y, pos, rfl, h⟩ := ok_neg h0
    exact .of (snd_neg (sE a A h).s) rfl
  | .cmp o a b, X, W, nm, x, A, h0 => by
    obtain ⟨l, op, r, pos, rfl, h⟩ := ok_cmp h0
    simp only [Bool.and_eq_true] at h
    exact .of (snd_cmp A.c h.1.1.1 h.2 (sE a A h.1.1.2).s (sE b A h.1.2).s) rfl
  | .chain o1 o2 a b c, X, W, nm, x, A, h0 => by
    obtain ⟨l, p, q, r, t, pos, rfl, h⟩ := ok_chain h0
    simp only [Bool.and_eq_true] at h
    obtain ⟨⟨⟨⟨⟨h1, h2⟩, h3⟩, h4⟩, h5⟩, h6⟩ := h
    exact .of (snd_chain A.c h1 h2 h6 (sE a A h3).s (sE b A h4).s (sE c A h5).s) rfl
  | .and a b, X, W, nm, x, A, h0 => by
    obtain ⟨v, u, rest, pos, rfl, h⟩ := ok_and h0
    rw [Bool.and_eq_true] at h
    cases rest with
    | nil => exact .of' (snd_and1 (sE a A h.1).s (sE b A h.2).s)
    | cons z zs =>
      have hb := sE b A (x := .BoolOp .And (u :: z :: zs) pos) h.2
      exact .of' (snd_and2 (sE a A h.1).s ⟨hb.s, hb.w _ _ _ rfl⟩)
  | .or a b, X, W, nm, x, A, h0 => by
    obtain ⟨v, u, rest, pos, rfl, h⟩ := ok_or h0
    rw [Bool.and_eq_true] at h
    cases rest with
    | nil => exact .of' (snd_or1 (sE a A h.1).s (sE b A h.2).s)
    | cons z zs =>
      have hb := sE b A (x := .BoolOp .Or (u :: z :: zs) pos) h.2
      exact .of' (snd_or2 (sE a A h.1).s ⟨hb.s, hb.w _ _ _ rfl⟩)
  | .not a, X, W, nm, x, A, h0 => by
    obtain ⟨y, pos, rfl, h⟩ := ok_not h0
    exact .of (snd_not (sE a A h).s) rfl
  | .ifx c a b, X, W, nm, x, A, h0 => by
    obtain ⟨t, y, z, pos, rfl, h⟩ := ok_ifx h0
    simp only [Bool.and_eq_true] at h
    exact .of (snd_ifx (sE c A h.1.1).s (sE a A h.1.2).s (sE b A h.2).s) rfl
  | .call f es, X, W, nm, x, A, h0 => by
    obtain ⟨y, p, a, as, pos, rfl, h⟩ := ok_call h0
    rw [Bool.and_eq_true] at h
    have hp := okAs_plain h.2
    exact .of (snd_call A.c A.d A.tk A.n h.1 (hp a List.mem_cons_self) (fun z hz => hp z (List.mem_cons_of_mem _ hz)) (sAs es A h.2)) rfl
  | .bi f a, X, W, nm, x, A, h0 => by
    obtain ⟨y, p, v, pos, rfl, h⟩ := ok_bi h0
    simp only [Bool.and_eq_true, decide_eq_true_eq] at h
    exact .of (snd_bi A.c A.n h.1.1 h.1.2 (okE_plain h.2) (sE a A h.2).s) rfl
  | .mm mx a b, X, W, nm, x, A, h0 => by
    obtain ⟨y, p, v, u, pos, rfl, h⟩ := ok_mm h0
    rw [Bool.and_eq_true, Bool.and_eq_true, Bool.and_eq_true, decide_eq_true_eq] at h
    exact .of (snd_mm A.c A.n h.1.1.1 h.1.1.2 (okE_plain h.1.2) (okE_plain h.2) (sE a A h.1.2).s (sE b A h.2).s) rfl
  | .isi a t, X, W, nm, x, A, h0 => by
    obtain ⟨y, p, v, z, p2, pos, rfl, h⟩ := ok_isi h0
    simp only [Bool.and_eq_true, decide_eq_true_eq] at h
    obtain ⟨⟨⟨⟨h1, h2⟩, h3⟩, h4⟩, h5⟩ := h
    exact .of (snd_isi A.c A.n h1 h2 (okE_plain h3) h4 h5 (sE a A h3).s) rfl
  | .ix a i, X, W, nm, x, A, h0 => by
    obtain ⟨v, s, pos, rfl, h⟩ := ok_ix h0
    simp only [Bool.and_eq_true] at h
    exact .of (snd_ix A.c h.2 (sE a A h.1.1).s (sE i A h.1.2).s) rfl
  | .slc a lo hi, X, W, nm, x, A, h0 => by
    obtain ⟨v, l, h', p2, pos, rfl, h⟩ := ok_slc h0
    rw [Bool.and_eq_true, Bool.and_eq_true] at h
    obtain ⟨⟨h1, h2⟩, h3⟩ := h
    have g2 : match (generalizing := false) l with | none => lo.isNone = true | some x => lo.isNone = false ∧ Snd X xi W x (evE PP cf keep lo) := by
      cases l with
      | none => exact h2
      | some y =>
        rw [Bool.and_eq_true, Bool.not_eq_true'] at h2
        exact ⟨h2.1, (sE lo A h2.2).s⟩
    have g3 : match (generalizing := false) h' with | none => hi.isNone = true | some x => hi.isNone = false ∧ Snd X xi W x (evE PP cf keep hi) := by
      cases h' with
      | none => exact h3
      | some y =>
        rw [Bool.and_eq_true, Bool.not_eq_true'] at h3
        exact ⟨h3.1, (sE hi A h3.2).s⟩
    exact .of (snd_slc A.c (sE a A h1).s g2 g3) rfl
  | .rev a, X, W, nm, x, A, h0 => by
    obtain ⟨v, i, k, p1, p2, p3, pos, rfl, h⟩ := ok_rev h0
    rw [Bool.and_eq_true, decide_eq_true_eq] at h
    exact .of (snd_rev h.1 (sE a A h.2).s) rfl
  | .bm m o es, X, W, nm, x, A, h => (ok_bm h).elim
  | .mut m i es, X, W, nm, x, A, h0 => by
    obtain ⟨y, p, z, apos, a, as, pos, rfl, h⟩ := ok_mut h0
    simp only [Bool.and_eq_true, decide_eq_true_eq] at h
    obtain ⟨⟨⟨⟨⟨⟨⟨h1, h2⟩, h3⟩, h4⟩, h5⟩, h6⟩, h7⟩, h8⟩ := h
    have hpl : ∀ z ∈ (a :: as), plainX z = true := fun z hz => List.all_eq_true.mp h8 z hz
    exact .of (snd_mut A.c A.hN A.n h1 (by simp only [Bool.and_eq_true, decide_eq_true_eq]; exact ⟨⟨h2, h3⟩, h4⟩) h6 h7 hpl (sIts es A h5)) rfl
  | .lc elt tg it cond own, X, W, nm, x, A, h0 => by
    obtain ⟨e, t, iter, ifs, ia, scope, pos, rfl, h⟩ := ok_lc h0
    rw [Bool.and_eq_true, Bool.and_eq_true, Bool.and_eq_true, Bool.and_eq_true, Bool.and_eq_true, Bool.and_eq_true, Bool.and_eq_true, Bool.and_eq_true, decide_eq_true_eq] at h
    obtain ⟨⟨⟨⟨⟨⟨⟨⟨h1, h2⟩, h3⟩, h4⟩, h5⟩, h6⟩, h7⟩, h8⟩, h9⟩ := h
    subst h1
    exact .of (snd_lc A.c (lcS_of A h2 h4 h6 h8 (sIt it A h5 h9 h4) (fun s H C cl fp => sE elt (A.blk scope s H C cl fp) h3) fun c hc s H C cl fp => sE cond (A.blk scope s H C cl fp) hc)) rfl
  | .listRange a, X, W, nm, x, A, h0 => by
    obtain ⟨y, p, z, p2, v, pos2, pos, rfl, h⟩ := ok_listRange h0
    simp only [Bool.and_eq_true, decide_eq_true_eq] at h
    obtain ⟨⟨⟨⟨h1, h2⟩, h3⟩, h4⟩, h5⟩ := h
    exact .of (snd_listRange A.c A.n h1 h2 h3 h4 (okE_plain h5) (sE a A h5).s) rfl
  | .none, X, W, nm, x, A, h => (ok_none h).elim
theorem sIts : ∀ (es : Es) {X : Cx} {W : WX} {nm : Nms} {xs : List Expr}, All X xi W lv N nm PP cf → okIts es N nm xs = true → SndIts X xi W xs (evIts PP cf keep es)
  | .nil, X, W, nm, xs, A, h => by
    rw [ok_inil h]
    exact its_nil
  | .cons e es, X, W, nm, xs, A, h0 => by
    obtain ⟨y, ys, rfl, h⟩ := ok_icons h0
    rw [Bool.and_eq_true] at h
    exact its_cons (okE_plain h.1) (sE e A h.1).s.pe (sIts es A h.2)
  | .star e es, X, W, nm, xs, A, h0 => by
    obtain ⟨y, p, ys, rfl, h⟩ := ok_istar h0
    rw [Bool.and_eq_true] at h
    exact its_star (sE e A h.1).s.pe (sIts es A h.2)
theorem sDs : ∀ (es : Es) {X : Cx} {W : WX} {nm : Nms} {ks : List Str} {keys : List (Option Expr)} {vals : List Expr} {pos : Pos}, All X xi W lv N nm PP cf → es.plain = true → keysOk ks keys = true → keys.length = vals.length → okIts es N nm vals = true → SndDs X xi W ks keys vals pos (evIts PP cf keep es)
  | .nil, X, W, nm, ks, keys, vals, pos, A, hq, hk, hl, h => by
    rw [ok_inil h] at hl ⊢
    have e1 : keys = [] := List.eq_nil_of_length_eq_zero (by simpa using hl)
    subst e1
    have e2 : ks = [] := List.eq_nil_of_length_eq_zero (by simpa using (keysOk_len hk).1)
    subst e2
    exact ds_nil
  | .cons e es, X, W, nm, ks, keys, vals, pos, A, hq, hk, hl, h0 => by
    obtain ⟨y, ys, rfl, h⟩ := ok_icons h0
    rw [Bool.and_eq_true] at h
    cases ks with
    | nil =>
      have := (keysOk_len hk).1
      rw [← this] at hl
      simp at hl
    | cons k ks =>
      obtain ⟨j, p, r, rfl, hk2⟩ := keysOk_cons hk
      exact ds_cons (sE e A h.1).s.pe (sDs es A hq hk2 (by simpa using hl) h.2)
  | .star e es, X, W, nm, ks, keys, vals, pos, A, hq, hk, hl, h0 => by
    cases hq
theorem sAs : ∀ (es : Es) {X : Cx} {W : WX} {nm : Nms} {xs : List Expr}, All X xi W lv N nm PP cf → okAs es N nm xs = true → SndAs X xi W xs (evAs PP cf keep es)
  | .nil, X, W, nm, xs, A, h => by
    rw [ok_anil h]
    exact as_nil
  | .cons e es, X, W, nm, xs, A, h0 => by
    obtain ⟨y, ys, rfl, h⟩ := ok_acons h0
    rw [Bool.and_eq_true] at h
    exact as_cons (okE_plain h.1) (sE e A h.1).s.pe (sAs es A h.2)
  | .star e es, X, W, nm, xs, A, h => (ok_astar h).elim
theorem sIt : ∀ (it : It) {X : Cx} {W : WX} {nm nm' : Nms} {iter t : Expr} {tg : Tg}, All X xi W lv N nm PP cf → okIt it N nm iter = true → (match (generalizing := false) it with | .zip .. => tgTup tg | .enum .. => tgTup tg | _ => true) = true → tgOk N nm' tg t = true → SndIt X xi W t iter (evIt PP cf keep it)
  | .seq e, X, W, nm, nm', iter, t, tg, A, h, _, _ => it_seq (sE e A (ok_seq h)).s.pe
  | .range1 a, X, W, nm, nm', iter, t, tg, A, h0, _, _ => by
    obtain ⟨y, p, v, pos, rfl, h⟩ := ok_range1 h0
    simp only [Bool.and_eq_true, decide_eq_true_eq] at h
    exact it_range1 A.c A.n h.1.1 h.1.2 (okE_plain h.2) (sE a A h.2).s
  | .range2 a b, X, W, nm, nm', iter, t, tg, A, h0, _, _ => by
    obtain ⟨y, p, v, u, pos, rfl, h⟩ := ok_range2 h0
    simp only [Bool.and_eq_true, decide_eq_true_eq] at h
    obtain ⟨⟨⟨h1, h2⟩, h3⟩, h4⟩ := h
    exact it_range2 A.c A.n h1 h2 (okE_plain h3) (okE_plain h4) (sE a A h3).s (sE b A h4).s
  | .zip a b, X, W, nm, nm', iter, t, tg, A, h0, ht, h5 => by
    obtain ⟨y, p, v, u, pos, rfl, h⟩ := ok_zip h0
    simp only [Bool.and_eq_true, decide_eq_true_eq] at h
    obtain ⟨⟨⟨h1, h2⟩, h3⟩, h4⟩ := h
    have ht : tgTup tg = true := ht
    obtain ⟨elts, kk, tpos, rfl⟩ : ∃ elts kk tpos, t = .Tuple elts kk tpos := by
      unfold tgOk at h5; split at h5 <;> first | exact ⟨_, _, _, rfl⟩ | cases ht | cases h5
    exact it_zip A.c A.n h1 h2 (okE_plain h3) (okE_plain h4) (sE a A h3).s (sE b A h4).s (plainAll fun z hz => by
      rcases List.mem_singleton.mp hz with rfl; exact okE_plain h4)
  | .enum a, X, W, nm, nm', iter, t, tg, A, h0, ht, h5 => by
    obtain ⟨y, p, v, pos, rfl, h⟩ := ok_enum h0
    simp only [Bool.and_eq_true, decide_eq_true_eq] at h
    have ht : tgTup tg = true := ht
    obtain ⟨elts, kk, tpos, rfl⟩ : ∃ elts kk tpos, t = .Tuple elts kk tpos := by
      unfold tgOk at h5; split at h5 <;> first | exact ⟨_, _, _, rfl⟩ | cases ht | cases h5
    exact it_enum A.c A.n h.1.1 h.1.2 (okE_plain h.2) (sE a A h.2).s
end
end
end PyEv

set_option maxRecDepth 100000
set_option maxHeartbeats 4000000
/-! PyM2: every statement is sound. -/
namespace PyEv
open PySem L2

def noSw (nm : Nms) : Expr → Expr → Bool
  | .Tuple [.Name x _, .Name y _] _ _, .Tuple [a, b] _ _ => plainX a && plainX b && ((nm.lookup x == some .cell) || (nm.lookup y == some .cell) || (foldedForSure 8 a && foldedForSure 8 b))
  | _, .Tuple .. => false
  | _, _ => true
def itTup (it : It) (tg : Tg) : Bool := match it with
  | .zip .. => tgTup tg
  | .enum .. => tgTup tg
  | _ => true
mutual
def okS : S → (N : List Str) → (nm : Nms) → Stmt → Bool
  | .set i e, N, nm, .Assign [.Name x _] ex _ => decide (N[i]? = some x) && locB nm x && nameB x && okE e N nm ex
  | .par i j a b, N, nm, .Assign [.Tuple [.Name x px, .Name y py] _ _] (.Tuple [v, u] _ _) _ => decide (N[i]? = some x) && decide (N[j]? = some y) && decide (i ≠ j) && decide (nm.lookup x = some .local) && decide (nm.lookup y = some .local) && (py.line == px.line) && !(x == y) && okE a N nm v && okE b N nm u && !(foldedForSure 8 v && foldedForSure 8 u) && !(constantsAlone 8 v && constantsAlone 8 u)
  | .unp tg e, N, nm, .Assign [t] ex _ => tgOk N nm tg t && tgTup tg && okE e N nm ex && !isComp ex && noSw nm t ex
  | .setix i ie e, N, nm, .Assign [.Subscript (.Name x _) iex _] ex _ => (decide (N[i]? = some x) && visB nm x && nameB x) && okE ie N nm iex && notSl iex && okE e N nm ex && !isComp ex
  | .ret e, N, nm, .Return (some ex) _ => okE e N nm ex
  | .ret (.k .non), _, _, .Return none _ => true
  | .ife c a b, N, nm, .If t p q _ => okE c N nm t && okSs a N nm p && okSs b N nm q
  | .for tg it body, N, nm, .For t iter b [] _ => tgOk N nm tg t && okIt it N nm iter && notSet iter && okSs body N nm b && itTup it tg
  | .whl c body, N, nm, .While t b [] _ => okE c N nm t && okSs body N nm b
  | .expr e, N, nm, .Expr ex _ => okE e N nm ex && !isComp ex
  | .pass, _, _, .Pass _ => true
  | .pass, _, _, .Expr (.Constant (.str _) _ _) _ => true
  | .never, _, _, _ => true
  | _, _, _, _ => false
def okSs : Ss → (N : List Str) → (nm : Nms) → List Stmt → Bool
  | .nil, _, _, [] => true
  | .cons s ss, N, nm, x :: xs => okS s N nm x && okSs ss N nm xs
  | _, _, _, _ => false
end

section
variable {N : List Str} {nm : Nms} {x : Stmt} {xs : List Stmt}

theorem oks_set {i : Nat} {e : E} (h : okS (.set i e) N nm x = true) : ∃ y py ex pos, x = .Assign [.Name y py] ex pos ∧ (decide (N[i]? = some y) && locB nm y && nameB y && okE e N nm ex) = true := by
  unfold okS at h
  split at h
  all_goals first | (cases h; done) | (rename_i heq; cases heq; done) | skip
  rename_i heq
  cases heq
  exact ⟨_, _, _, _, rfl, h⟩

theorem oks_par {i j : Nat} {a b : E} (h : okS (.par i j a b) N nm x = true) : ∃ y py z pz k1 p1 v u k2 p2 pos, x = .Assign [.Tuple [.Name y py, .Name z pz] k1 p1] (.Tuple [v, u] k2 p2) pos ∧ (decide (N[i]? = some y) && decide (N[j]? = some z) && decide (i ≠ j) && decide (nm.lookup y = some .local) && decide (nm.lookup z = some .local) && (pz.line == py.line) && !(y == z) && okE a N nm v && okE b N nm u && !(foldedForSure 8 v && foldedForSure 8 u) && !(constantsAlone 8 v && constantsAlone 8 u)) = true := by
  unfold okS at h
  split at h
  all_goals first | (cases h; done) | (rename_i heq; cases heq; done) | skip
  rename_i heq
  cases heq
  exact ⟨_, _, _, _, _, _, _, _, _, _, _, rfl, h⟩

theorem oks_unp {tg : Tg} {e : E} (h : okS (.unp tg e) N nm x = true) : ∃ t ex pos, x = .Assign [t] ex pos ∧ (tgOk N nm tg t && tgTup tg && okE e N nm ex && !isComp ex && noSw nm t ex) = true := by
  unfold okS at h
  split at h
  all_goals first | (cases h; done) | (rename_i heq; cases heq; done) | skip
  rename_i heq
  cases heq
  exact ⟨_, _, _, rfl, h⟩

theorem oks_setix {i : Nat} {ie e : E} (h : okS (.setix i ie e) N nm x = true) : ∃ y p1 iex p2 ex pos, x = .Assign [.Subscript (.Name y p1) iex p2] ex pos ∧ ((decide (N[i]? = some y) && visB nm y && nameB y) && okE ie N nm iex && notSl iex && okE e N nm ex && !isComp ex) = true := by
  unfold okS at h
  split at h
  all_goals first | (cases h; done) | (rename_i heq; cases heq; done) | skip
  rename_i heq
  cases heq
  exact ⟨_, _, _, _, _, _, rfl, h⟩

theorem oks_ife {c : E} {a b : Ss} (h : okS (.ife c a b) N nm x = true) : ∃ t p q pos, x = .If t p q pos ∧ (okE c N nm t && okSs a N nm p && okSs b N nm q) = true := by
  unfold okS at h
  split at h
  all_goals first | (cases h; done) | (rename_i heq; cases heq; done) | skip
  rename_i heq
  cases heq
  exact ⟨_, _, _, _, rfl, h⟩

theorem oks_for {tg : Tg} {it : It} {body : Ss} (h : okS (.for tg it body) N nm x = true) : ∃ t iter b pos, x = .For t iter b [] pos ∧ (tgOk N nm tg t && okIt it N nm iter && notSet iter && okSs body N nm b && itTup it tg) = true := by
  unfold okS at h
  split at h
  all_goals first | (cases h; done) | (rename_i heq; cases heq; done) | skip
  rename_i heq
  cases heq
  exact ⟨_, _, _, _, rfl, h⟩

theorem oks_whl {c : E} {body : Ss} (h : okS (.whl c body) N nm x = true) : ∃ t b pos, x = .While t b [] pos ∧ (okE c N nm t && okSs body N nm b) = true := by
  unfold okS at h
  split at h
  all_goals first | (cases h; done) | (rename_i heq; cases heq; done) | skip
  rename_i heq
  cases heq
  exact ⟨_, _, _, rfl, h⟩

theorem oks_expr {e : E} (h : okS (.expr e) N nm x = true) : ∃ ex pos, x = .Expr ex pos ∧ (okE e N nm ex && !isComp ex) = true := by
  unfold okS at h
  split at h
  all_goals first | (cases h; done) | (rename_i heq; cases heq; done) | skip
  rename_i heq
  cases heq
  exact ⟨_, _, rfl, h⟩

theorem oks_ret {e : E} (h : okS (.ret e) N nm x = true) : (∃ ex pos, x = .Return (some ex) pos ∧ okE e N nm ex = true) ∨ (e = .k .non ∧ ∃ pos, x = .Return none pos) := by
  unfold okS at h
  split at h
  all_goals first | (cases h; done) | (rename_i heq; cases heq; done) | skip
  · rename_i heq
    cases heq
    exact .inl ⟨_, _, rfl, h⟩
  · rename_i heq
    cases heq
    exact .inr ⟨rfl, _, rfl⟩
theorem oks_pass (h : okS .pass N nm x = true) : (∃ pos, x = .Pass pos) ∨ ∃ z j p pos, x = .Expr (.Constant (.str z) j p) pos := by
  unfold okS at h
  split at h
  all_goals first | (cases h; done) | (rename_i heq; cases heq; done) | skip
  · exact .inl ⟨_, rfl⟩
  · exact .inr ⟨_, _, _, _, rfl⟩
theorem oks_raise {c : Str} {e : E} (h : okS (.raise c e) N nm x = true) : False := by
  cases x <;> cases h
theorem oks_aug {o : Bo} {i : Nat} {e : E} (h : okS (.aug o i e) N nm x = true) : False := by
  cases x <;> cases h
theorem oks_nil (h : okSs .nil N nm xs = true) : xs = [] := by
  cases xs with
  | nil => rfl
  | cons a as => cases h
theorem oks_cons {s : S} {ss : Ss} (h : okSs (.cons s ss) N nm xs = true) : ∃ y ys, xs = y :: ys ∧ (okS s N nm y && okSs ss N nm ys) = true := by
  cases xs with
  | nil => cases h
  | cons a as => exact ⟨a, as, rfl, by simpa only [okSs] using h⟩
theorem noSw_ok {X : Cx} (n : NmOk X nm) {tg : Tg} {t ex : Expr} (ht : tgTup tg = true) (h5 : tgOk N nm tg t = true) (h : noSw nm t ex = true) : swappedStores [t] ex X.env = pure none := by
  obtain ⟨elts, kk, tpos, rfl⟩ : ∃ elts kk tpos, t = .Tuple elts kk tpos := by
    unfold tgOk at h5; split at h5 <;> first | exact ⟨_, _, _, rfl⟩ | cases ht | cases h5
  unfold noSw at h
  split at h
  · rename_i y p1 z p2 k1 p3 a b k2 p4 heq
    cases heq
    simp only [Bool.and_eq_true, Bool.or_eq_true, beq_iff_eq] at h
    obtain ⟨⟨h1, h2⟩, (h3 | h3) | h3⟩ := h
    · exact swapNo (.inl (n.cf _ (.inl h3))) h1 h2
    · exact swapNo (.inr (.inl (n.cf _ (.inl h3)))) h1 h2
    · exact swapNo (.inr (.inr (by rw [Bool.and_eq_true]; exact h3))) h1 h2
  · cases h
  · rename_i x0 x1 x2 hno x3
    generalize x0 = ex at hno ⊢
    cases ex <;> first | rfl | exact (hno _ _ _ rfl).elim
end

section
variable {X : Cx} {xi : XI} {W : WX} {lv : Nat} {N : List Str} {nm : Nms} {PP : Prog} {cf : Str → List PyEv.W → CRes} {keep : List Nat}
mutual
theorem sS : ∀ (s : S) {st : Stmt}, All X xi W lv N nm PP cf → StOk X nm → okS s N nm st = true → SndS X xi W keep st (evS PP cf keep s)
  | .set i e, st, A, so, h0 => by
    obtain ⟨y, py, ex, pos, rfl, h⟩ := oks_set h0
    simp only [Bool.and_eq_true, decide_eq_true_eq] at h
    obtain ⟨⟨⟨h1, h2⟩, h3⟩, h4⟩ := h
    cases hc : isComp ex with
    | false => exact s_set A.c A.hN A.n h1 h2 (sE e A h4).s hc
    | true =>
      have lc : ∃ elt tg it cond own, e = .lc elt tg it cond own := by
        cases ex <;> cases hc <;> cases e <;> first | exact ⟨_, _, _, _, _, rfl⟩ | (simp [okE] at h4)
      obtain ⟨elt, tg, it, cond, own, rfl⟩ := lc
      have hs := (sE (keep := keep) (.lc elt tg it cond own) A h4).s
      obtain ⟨e', t, iter, ifs, ia, scope, cpos, rfl, g⟩ := ok_lc h4
      rw [Bool.and_eq_true, Bool.and_eq_true, Bool.and_eq_true, Bool.and_eq_true, Bool.and_eq_true, Bool.and_eq_true, Bool.and_eq_true, Bool.and_eq_true, decide_eq_true_eq] at g
      obtain ⟨⟨⟨⟨⟨⟨⟨⟨g1, g2⟩, g3⟩, g4⟩, g5⟩, g6⟩, g7⟩, g8⟩, g9⟩ := g
      subst g1
      cases hl : ((py.line == cpos.line) && !(scope.names.any fun (n, k) => n == y && (k == .local || k == .cell))) with
      | false => exact s_setLc0 A.c A.hN A.n h1 h2 (.inl hl) hs
      | true =>
        rw [Bool.and_eq_true, Bool.not_eq_true'] at hl
        unfold locB at h2
        split at h2
        · rename_i el
          exact s_setLc A.c so A.hN h1 el hl.1 hl.2 (lcS_of A g2 g4 g6 g8 (sIt it A g5 g9 g4) (fun s H C cl fp => sE elt (A.blk scope s H C cl fp) g3) fun c hc s H C cl fp => sE cond (A.blk scope s H C cl fp) hc)
        · rename_i el
          exact s_setLc0 A.c A.hN A.n h1 (by unfold locB; rw [el]) (.inr el) hs
        · cases h2
  | .par i j a b, st, A, so, h0 => by
    obtain ⟨y, py, z, pz, k1, p1, v, u, k2, p2, pos, rfl, h⟩ := oks_par h0
    simp only [Bool.and_eq_true, Bool.not_eq_true', Bool.and_eq_false_iff, decide_eq_true_eq] at h
    obtain ⟨⟨⟨⟨⟨⟨⟨⟨⟨⟨h1, h2⟩, h3⟩, h4⟩, h5⟩, h6⟩, h7⟩, h8⟩, h9⟩, h10⟩, h11⟩ := h
    have pv := okE_plain h8
    have pu := okE_plain h9
    exact impS (ps_par A.c.calm A.c.nd (by rw [A.hN]; exact h1) (by rw [A.hN]; exact h2) h3 (so.lc _ h4) (so.lc _ h5) (pa_cons (sE a A h8).s.pe (pa_cons (sE b A h9).s.pe pa_nil (starEach_plain pu)) (starEach_plain pv))
      (swapYes so.kind (so.lc _ h4) (so.lc _ h5) h6 (by simpa using h7) pv pu (by rcases h10 with h | h <;> simp [h]) (by rcases h11 with h | h <;> simp [h]))) fun Z σ H q => par_run q
  | .unp tg e, st, A, so, h0 => by
    obtain ⟨t, ex, pos, rfl, h⟩ := oks_unp h0
    simp only [Bool.and_eq_true, Bool.not_eq_true'] at h
    obtain ⟨⟨⟨⟨h1, h2⟩, h3⟩, h4⟩, h5⟩ := h
    exact s_unp A.c A.hN A.n h1 (sE e A h3).s h4 (noSw_ok A.n h2 h1 h5)
  | .setix i ie e, st, A, so, h0 => by
    obtain ⟨y, p1, iex, p2, ex, pos, rfl, h⟩ := oks_setix h0
    rw [Bool.and_eq_true, Bool.and_eq_true, Bool.and_eq_true, Bool.and_eq_true, Bool.not_eq_true'] at h
    obtain ⟨⟨⟨⟨h1, h2⟩, h3⟩, h4⟩, h5⟩ := h
    exact s_setix A.c A.hN A.n h1 (sE e A h4).s (sE ie A h2).s h3 h5
  | .aug o i e, st, A, so, h0 => (oks_aug h0).elim
  | .ret e, st, A, so, h0 => by
    rcases oks_ret h0 with ⟨ex, pos, rfl, h⟩ | ⟨rfl, pos, rfl⟩
    · exact s_ret (sE e A h).s.pe
    · exact s_retN
  | .ife c a b, st, A, so, h0 => by
    obtain ⟨t, p, q, pos, rfl, h⟩ := oks_ife h0
    simp only [Bool.and_eq_true] at h
    exact s_if (sE c A h.1.1).s (sSs a A so h.1.2) (sSs b A so h.2)
  | .for tg it body, st, A, so, h0 => by
    obtain ⟨t, iter, b, pos, rfl, h⟩ := oks_for h0
    simp only [Bool.and_eq_true] at h
    obtain ⟨⟨⟨⟨h1, h2⟩, h3⟩, h4⟩, h5⟩ := h
    exact s_for A.c so A.hN A.n h1 (sIt it A h2 h5 h1) (sSs body A so h4) h3
  | .whl c body, st, A, so, h0 => by
    obtain ⟨t, b, pos, rfl, h⟩ := oks_whl h0
    rw [Bool.and_eq_true] at h
    exact s_whl so (sE c A h.1).s (sSs body A so h.2)
  | .expr e, st, A, so, h0 => by
    obtain ⟨ex, pos, rfl, h⟩ := oks_expr h0
    rw [Bool.and_eq_true, Bool.not_eq_true'] at h
    exact s_expr (sE e A h.1).s h.2
  | .raise c e, st, A, so, h0 => (oks_raise h0).elim
  | .pass, st, A, so, h0 => by
    rcases oks_pass h0 with ⟨pos, rfl⟩ | ⟨z, j, p, pos, rfl⟩
    · exact s_pass
    · exact s_doc
  | .never, st, A, so, h0 => impS ps_never fun Z σ H q => by
    obtain ⟨Hf, env, L, s0, fin⟩ := q
    exact fin
theorem sSs : ∀ (ss : Ss) {sts : List Stmt}, All X xi W lv N nm PP cf → StOk X nm → okSs ss N nm sts = true → SndSs X xi W keep sts (evSs PP cf keep ss)
  | .nil, sts, A, so, h => by
    rw [oks_nil h]
    exact ss_nil
  | .cons s ss, sts, A, so, h0 => by
    obtain ⟨y, ys, rfl, h⟩ := oks_cons h0
    rw [Bool.and_eq_true] at h
    exact ss_cons (sS s A so h.1) (sSs ss A so h.2)
end
end
end PyEv

set_option maxRecDepth 100000
set_option maxHeartbeats 4000000
/-! PyP: every def keeps its promise. -/
namespace PyEv
open PySem L2

/-- a def of the text, checked -/
structure DefOk (K : PySem.W.Frag) (mg : Str → Option Value) (f : Str) (fn : Fn) : Prop where
  ex : ∃ a fd st N ps, mg f = some (.ref a) ∧ L2.Fun K f f st a fd ∧ Binds K fd ps [] ∧ FnScope N ps (defScope st) ∧ ps.length = fn.n ∧ N.length = fn.m ∧ (∀ i ∈ fn.keep, i < fn.n) ∧ okSs fn.body N (defScope st).names (defBody st) = true
structure ConstM (K : PySem.W.Frag) (w : World) (mg : Str → Option Value) (x : Str) (d : D) : Prop where
  ex : ∃ u v, mg x = some u ∧ RelV v u ∧ ∀ Hf, Den K w Hf d v

theorem sl_start : ∀ (ws : List PyEv.W) (vs : List V) (k : Nat), ws.length = vs.length → Sl (ws.map some ++ List.replicate k none) (vs.map some ++ List.replicate k none) (ws.zip vs)
  | [], [], 0, _ => .nil
  | [], [], k + 1, h => .skip (sl_start [] [] k h)
  | [], _ :: _, _, h => by simp at h
  | _ :: _, [], _, h => by simp at h
  | w :: ws, v :: vs, k, h => .cons (sl_start ws vs k (by simpa using h))

section
variable {P : Program} {w : World} {K : PySem.W.Frag} {mg : Str → Option Value} {base : Heap} {xi : XI} {PP : Prog}
theorem defW_all (hd : ∀ f fn, PP.fns.lookup f = some fn → DefOk K mg f fn) (hb : ∀ b ∈ bltNames, mg (Str.ofString b) = none) (hc : ∀ x d, PP.consts.lookup x = some d → ConstM K w mg x d) :
    ∀ n, DefW P w K mg base xi PP (callF PP n) n
  | 0 => ⟨fun f fn e => by
    obtain ⟨a, fd, st, N, ps, h1, h2, h3, h4, h5, h6, h7, h8⟩ := (hd f fn e).ex
    refine ⟨a, fd, ps, h1, h2.kp, h3, ⟨fun vs H Q E z => ?_, fun A outer s H args us vs Q E _ _ _ _ _ z => ?_⟩⟩
    · obtain ⟨Hf, ws, _, _, _, fin⟩ := z; exact (show False from fin).elim
    · obtain ⟨Hf, ws, _, _, _, fin⟩ := z; exact (show False from fin).elim⟩
  | n + 1 => ⟨fun f fn e => by
    have ih := defW_all hd hb hc n
    obtain ⟨a, fd, st, N, ps, h1, h2, h3, S, h5, h6, h7, h8⟩ := (hd f fn e).ex
    have call_eq : ∀ ws, callF PP (n + 1) f ws = if ws.length = fn.n then finC (evSs PP (callF PP n) fn.keep fn.body (ws.map some ++ List.replicate (fn.m - fn.n) none)) else .bad := fun ws => by
      show (match PP.fns.lookup f with | none => CRes.bad | some fn => if ws.length = fn.n then finC (evSs PP (callF PP n) fn.keep fn.body (ws.map some ++ List.replicate (fn.m - fn.n) none)) else .bad) = _
      rw [e]
    have len : ∀ vs H Q E, spF K w xi (callF PP (n + 1)) f fn.keep vs H Q E → vs.length = fn.n := fun vs H Q E z => by
      obtain ⟨Hf, ws, hl, _, _, fin⟩ := z
      rw [call_eq] at fin
      by_cases q : ws.length = fn.n
      · rw [← hl]; exact q
      · rw [if_neg q] at fin; exact (show False from fin).elim
    refine ⟨a, fd, ps, h1, h2.kp, h3, fnG_of h2 S (fun vs H Q E z => by rw [h5]; exact len vs H Q E z) fun cdv A outer s H vs Q E hg hr z => ?_⟩
    have hvl := len vs H Q E z
    obtain ⟨Hf, ws, hl, same, fam, fin⟩ := z
    rw [call_eq, if_pos (by rw [hl]; exact hvl)] at fin
    generalize eX : cxOf (L2.CX P w) P w K mg base N f (defScope st) a cdv A outer s H E = X
    have A0 : All X xi (fun cls dd _ H' => E cls dd H') n N (defScope st).names PP (callF PP n) := by
      subst eX
      refine ⟨⟨rfl, hr, hg, S.nd, hb⟩, rfl, ⟨fun x h => ?_, fun x h => ?_, fun x h => ?_, fun x h => h⟩, ih, takes_of rfl rfl rfl rfl, fun x d h => ⟨(hc x d h).ex⟩⟩
      · unfold visB at h
        split at h
        · rename_i q; exact .inl q
        · rename_i q; exact .inr (.inl q)
        · rename_i q; exact .inr (.inr q)
        · cases h
      · unfold glB at h
        split at h
        · rename_i q; exact q
        · cases h
      · unfold locB at h
        split at h
        · rename_i q; exact ⟨.inl q, .inl rfl⟩
        · rename_i q; exact ⟨.inr q, .inl rfl⟩
        · cases h
    have so : StOk X (defScope st).names := by
      subst eX
      exact ⟨S.kind, passes_of rfl, fun x h => h⟩
    have snd : PSs X (defBody st) (tSG X.K X.w xi (fun cls dd _ H' => E cls dd H') fn.keep (evSs PP (callF PP n) fn.keep fn.body)) := sSs (keep := fn.keep) fn.body A0 so h8
    subst eX
    refine ⟨tSG K w xi (fun cls dd _ H' => E cls dd H') fn.keep (evSs PP (callF PP n) fn.keep fn.body), snd, Hf, ws.map some ++ List.replicate (fn.m - fn.n) none, ws.zip vs, ⟨?_, fam, same⟩, ?_⟩
    · unfold L2.start
      rw [h6, hvl]
      exact sl_start ws vs _ hl
    · have kp : ∀ σ', Kept fn.keep (L2.start N vs) σ' → ∀ i ∈ fn.keep, σ'[i]? = (vs.map some)[i]? := fun σ' k i hi => by
        rw [k i hi]
        unfold L2.start
        rw [List.getElem?_append_left (by rw [List.length_map, hvl]; exact h7 i hi)]
      cases ef : evSs PP (callF PP n) fn.keep fn.body (ws.map some ++ List.replicate (fn.m - fn.n) none) with
      | bad => rw [ef] at fin; exact fin
      | bk env => rw [ef] at fin; exact (show False from fin).elim
      | ct env => rw [ef] at fin; exact (show False from fin).elim
      | nx env =>
        rw [ef] at fin
        exact fun σ' Hg H' L' a b c k => fin σ' .non Hg H' L' a (kp σ' k) (b.less fun q hq => by
          rcases Owned.cons.mp hq with hq | hq
          · cases hq
          · exact hq) (c.cons_d .non)
      | rt x env =>
        rw [ef] at fin
        exact fun σ' v Hg H' L' a b c k => fin σ' v Hg H' L' a (kp σ' k) b c
      | ex x env =>
        rw [ef] at fin
        exact fun σ' Hg H' L' cls dd a b c k hx => fin σ' Hg H' L' cls dd a (kp σ' k) b c hx⟩

/-- the law's def, asked for a script: what the evaluator says of it is the promise -/
theorem law_sp {law : Str} {n : Nat} {fn : Fn} {a : Addr} {ns : List Int} {H : Hp} {outs : Env} (e : callF PP n law [.d (.scr ns)] = .ok (.d (.bl true)) outs) (hs : SqL K H a (ns.map V.int)) (hO : Only H) :
    spF K w xi (callF PP n) law fn.keep [.ref a] H (fun v _ => v = .bl true) (fun _ _ _ => False) := by
  refine ⟨H, [.d (.scr ns)], rfl, Same.refl _, ?_, ?_⟩
  · exact Fam.nil.cons_d (.scr hs)
  · rw [e]
    intro σ' v Hg H' L' _ _ _ f
    have := f.rep _ List.mem_cons_self
    cases this with
    | d h => cases h; rfl
end
end PyEv

set_option maxRecDepth 100000
set_option maxHeartbeats 4000000
/-! PyEnd: the law. -/
namespace PyEv
open PySem L2

open PySem.Spec PyProof.Rows in
/-- the law's call from the outermost caller: a promise that asks guards = [] -/
theorem law_end {P : Program} {w : World} {K : PySem.W.Frag} {mg mb : Str → Option Value} {k : Nat} {fa a : Addr} {sp : Sp} {s₁ : Shared} {vs : List Value} {ns : List Int}
    (KX : K.In s₁.heap) (hns : s₁.heap.Ns mainGlobals mg) (hb : s₁.heap.Ns builtinsNs mb) (hbb : ∀ x : Str, x ≠ "__name__" → mb x = bootBuiltins x) (hlim : s₁.heap.NoLimit) (hg : s₁.gens = #[])
    (ha : s₁.heap.get? a = some { cls := .type "list", data := .seq vs.toArray }) (hi : IntsAre vs ns) (hl : ns.length ≤ sizeLine) (hr : Room k callerA)
    (F : ∀ base : Heap, K.In base → base.Ns mainGlobals mg → ∃ fd ps, Binds K fd ps [] ∧ FnG P w K mg base k fa fd ps sp)
    (hsp : ∀ H : Hp, Only H → SqL K H a (ns.map V.int) → sp [.ref a] H (fun v _ => v = .bl true) fun _ _ _ => False) :
    codeAny (model P w) callerA (.call (.ref fa) ⟨[.ref a], []⟩) (fun r s' => r = .ok (.ret (.bool true)) ∧ OldK s₁.heap s'.heap ∧ s'.os = s₁.os ∧ AllBare s'.gens) s₁ := by
  -- the script alone is tracked, if the module does not know it
  obtain ⟨H, hO, hS, hok, hA⟩ : ∃ H : Hp, Only H ∧ SqL K H a (ns.map V.int) ∧ HOk P w H s₁.heap ∧ ∀ b, H b ≠ none → b = a ∧ K.lookup a = none := by
    have rv := vals_ints hi
    cases hk : K.lookup a with
    | some o =>
      have e := KX a o hk
      rw [ha] at e
      cases e
      exact ⟨fun _ => none, fun _ => .inl rfl, .inr ⟨_, vs.toArray, _, hk, rfl, rfl, rfl, by rw [List.size_toArray, hi.length]; exact hl, by simpa using rv⟩, (fun b u z => nomatch (show (none : Option HO) = some u from z)), fun b z => absurd rfl z⟩
    | none =>
      refine ⟨fun b => if b = a then some (.frz { cls := .type "list", data := .seq vs.toArray } (.lst (ns.map V.int))) else none, fun b => ?_, .inl (.inr ⟨{ cls := .type "list", data := .seq vs.toArray }, if_pos rfl⟩), fun b u z => ?_, fun b z => ⟨?_, rfl⟩⟩
      · by_cases hb : b = a
        · exact .inr ⟨_, _, if_pos hb⟩
        · exact .inl (if_neg hb)
      · by_cases hb : b = a
        · have z' := (if_pos hb).symm.trans z
          cases z'
          subst hb
          exact ⟨ha, by rw [List.length_map]; exact hl, vs, _, rv, ha⟩
        · have z' := (if_neg hb).symm.trans z
          cases z'
      · by_cases hb : b = a
        · exact hb
        · exact absurd (if_neg hb) z
  have free : ∀ {b : Addr} {o : Obj} {es : Array DictEntry} {ep : Nat}, s₁.heap.get? b = some o → o.data = .dict es ep → H b = none := fun {b o es ep} e d => by
    cases q : H b with
    | none => rfl
    | some u =>
      obtain ⟨rfl, _⟩ := hA b (by rw [q]; simp)
      rw [ha] at e; cases e; cases d
  have nsH : ∀ {b : Addr} {m : Str → Option Value}, s₁.heap.Ns b m → (hidT s₁.heap H).Ns b m := fun {b m} ⟨o, es, ep, e, d, r⟩ => ⟨o, es, ep, hidT_get e (free e d), d, r⟩
  have kin : K.In (hidT s₁.heap H) := fun b o e => hidT_get (KX b o e) (by
    cases q : H b with
    | none => rfl
    | some u =>
      obtain ⟨rfl, z⟩ := hA b (by rw [q]; simp)
      rw [z] at e; cases e)
  have M : Mod K mg (hidT s₁.heap H) := ⟨kin, nsH hns, ⟨mb, nsH hb, hbb⟩, let ⟨mc, h1, h2⟩ := hlim; ⟨mc, nsH h1, h2⟩⟩
  have e0 : Env0 P w K mg (hidT s₁.heap H) callerA [] s₁ H := ⟨rfl, M, fun b o e => of_hidT e, Nat.le_of_eq (hidT_size _ _), trivial, (fun b hb => nomatch (show b ∈ ([] : List Addr) from hb)), hok, .of_eq hg⟩
  obtain ⟨fd, ps, hbind, F⟩ := F _ kin (nsH hns)
  have bd := hbind s₁ [.ref a] KX (F.len _ _ _ _ (hsp H hO hS))
  refine codeAny_mono (F.run callerA [] s₁ H ⟨[.ref a], []⟩ [.ref a] [.ref a] _ _ rfl hr e0 bd (.cons rfl .nil) (hsp H hO hS)) fun r s' h => ?_
  cases r with
  | error e =>
    obtain ⟨_, _, _, _, _, _, _, _, _, _, _, _, z⟩ := h
    exact z.elim
  | ok fl =>
    cases fl with
    | next => exact False.elim h
    | brk => exact False.elim h
    | cont => exact False.elim h
    | ret u =>
      obtain ⟨v, H', os, bare, un, hok', r', q⟩ := h
      have q' : v = .bl true := q
      subst q'
      obtain rfl : u = Value.bool true := r'
      refine ⟨rfl, OldK.of_keep fun b o e => ?_, os, bare⟩
      cases q : H b with
      | none => exact un.keep b o e q (fun z => nomatch (show b ∈ ([] : List Addr) from z)) (by simp)
      | some u =>
        rcases hO b with z | ⟨ob, xs, z⟩
        · rw [q] at z; cases z
        · have z2 := un.frzs b ob _ z
          obtain ⟨e1, _⟩ := hok b _ z
          obtain ⟨e2, _⟩ := hok' b _ z2
          rw [e] at e1; cases e1
          exact e2

/-- what the module's top gives -/
structure Top (K : PySem.W.Frag) (w : World) (mg : Str → Option Value) (PP : Prog) : Prop where
  fns : ∀ f fn, PP.fns.lookup f = some fn → DefOk K mg f fn
  blt : ∀ b ∈ bltNames, mg (Str.ofString b) = none
  con : ∀ x d, PP.consts.lookup x = some d → ConstM K w mg x d
/-- THE END of a law: its text as the evaluator has it, and what the evaluator says of it for every script -/
theorem walk {l : PySem.W.OpenLaw} {n k : Nat} {q : Program} {loose : List Str} {XP : (Str → Option Value) → Heap → Prop} {YP : World → Heap → Prop} {d : PySem.DefRec} {K : Params → PySem.W.Frag} (PP : Prog) (fn : Fn)
    (hn : l.most = some n) (hn2 : n ≤ sizeLine) (hdf : d.params.defaults = []) (hr : Room k callerA) (hY : ∀ (w : World) (h : Heap), YP w h → (K w.params).In h)
    (T : ∀ (w : World) (mg : Str → Option Value) (h : Heap), (K w.params).In h → h.Ns mainGlobals mg → Top (K w.params) w mg PP) (hf : PP.fns.lookup d.name = some fn)
    (hE : ∀ ns : List Int, ns.length ≤ n → ∃ outs, callF PP k d.name [.d (.scr ns)] = .ok (.d (.bl true)) outs) :
    PySem.W.WalkO q loose XP YP l.row.toRowW d [] (fun f vs => PySem.call f vs) := by
  refine Att.attach_call hn hdf fun w s₀ s₁ mg mb fa o pm cd doc a vs ns G Y ho hd hcd hmg hobj hints hlen hg => ?_
  have KX := hY w _ Y
  have T := T w mg _ KX G.T.g
  obtain ⟨outs, hE⟩ := hE ns hlen
  refine law_end (sp := spF (K w.params) w (fun _ _ _ _ _ => False) (callF PP k) d.name fn.keep) KX G.T.g G.T.b G.T.builtins G.T.nolimit hg hobj hints (Nat.le_trans hlen hn2) hr (fun base hb hns => ?_) fun H hO hS => law_sp hE hS hO
  obtain ⟨fa2, fd2, ps2, g1, g2, g3, g4⟩ := (defW_all (P := l.prog) (w := w) (base := base) (xi := fun _ _ _ _ _ => False) T.fns T.blt T.con k).fns d.name fn hf
  rw [hmg] at g1; cases g1
  exact ⟨fd2, ps2, g3, g4⟩
end PyEv

set_option maxRecDepth 100000
set_option maxHeartbeats 4000000
/-! PyTop: what the module's top gives. -/
namespace PyEv
open PySem L2

section
variable {K : PySem.W.Frag} {w : World} {h : Heap} {mg : Str → Option Value}
def AllDefs (K : PySem.W.Frag) (mg : Str → Option Value) : List (Str × Fn) → Prop
  | [] => True
  | p :: r => DefOk K mg p.1 p.2 ∧ AllDefs K mg r
theorem AllDefs.of : ∀ {l : List (Str × Fn)}, AllDefs K mg l → ∀ f fn, l.lookup f = some fn → DefOk K mg f fn
  | [], _, f, fn, e => by cases e
  | (x, g) :: r, h, f, fn, e => by
    rw [List.lookup_cons] at e
    split at e
    · rename_i hx
      have hx := beq_iff_eq.mp hx
      subst hx
      cases e
      exact h.1
    · exact AllDefs.of h.2 f fn e
def AllCons (K : PySem.W.Frag) (w : World) (mg : Str → Option Value) : List (Str × D) → Prop
  | [] => True
  | p :: r => ConstM K w mg p.1 p.2 ∧ AllCons K w mg r
theorem AllCons.of : ∀ {l : List (Str × D)}, AllCons K w mg l → ∀ f fn, l.lookup f = some fn → ConstM K w mg f fn
  | [], _, f, fn, e => by cases e
  | (x, g) :: r, h, f, fn, e => by
    rw [List.lookup_cons] at e
    split at e
    · rename_i hx
      have hx := beq_iff_eq.mp hx
      subst hx
      cases e
      exact h.1
    · exact AllCons.of h.2 f fn e
def AllBlt (K : PySem.W.Frag) : List String → Prop
  | [] => True
  | b :: r => PySem.W.nsIn K mainGlobals (Str.ofString b) = some none ∧ AllBlt K r
theorem AllBlt.of (X : K.In h) (G : h.Ns mainGlobals mg) : ∀ {l : List String}, AllBlt K l → ∀ b ∈ l, mg (Str.ofString b) = none
  | [], _, b, hb => by cases hb
  | x :: r, z, b, hb => by
    rcases List.mem_cons.mp hb with rfl | hb
    · exact PySem.W.mg_none_of X G z.1
    · exact AllBlt.of X G z.2 b hb
theorem con_str (X : K.In h) (G : h.Ns mainGlobals mg) {x s : Str} {t : Tok} (a : PySem.W.nsIn K mainGlobals x = some (some (.str s t))) : ConstM K w mg x (.str s) :=
  ⟨_, .str s, PySem.W.mg_of X G a, ⟨t, rfl⟩, fun _ => .str s⟩
theorem con_int (X : K.In h) (G : h.Ns mainGlobals mg) {x : Str} {i : Int} {t : Tok} (a : PySem.W.nsIn K mainGlobals x = some (some (.int i t))) : ConstM K w mg x (.int i) :=
  ⟨_, .int i, PySem.W.mg_of X G a, ⟨t, rfl⟩, fun _ => .int i⟩
/-- a written dict's entries -/
inductive KL (P : Params) : List DictEntry → List Str → List V → Prop
  | nil : KL P [] [] []
  | cons {e : DictEntry} {r : List DictEntry} {k : Str} {ks : List Str} {v : V} {vs : List V} {t : Tok} : e.key = .str k t → e.hash = PyData.keyHash P k → RelV v e.val → KL P r ks vs → KL P (e :: r) (k :: ks) (v :: vs)
theorem KL.sS {P : Params} {e : DictEntry} {r : List DictEntry} {k x : Str} {ks : List Str} {vs : List V} {t u : Tok} (a : e.key = .str k t) (b : e.hash = PyData.keyHash P k) (c : e.val = .str x u) (d : KL P r ks vs) : KL P (e :: r) (k :: ks) (.str x :: vs) := .cons a b (by rw [c]; exact ⟨u, rfl⟩) d
theorem KL.sI {P : Params} {e : DictEntry} {r : List DictEntry} {k : Str} {i : Int} {ks : List Str} {vs : List V} {t u : Tok} (a : e.key = .str k t) (b : e.hash = PyData.keyHash P k) (c : e.val = .int i u) (d : KL P r ks vs) : KL P (e :: r) (k :: ks) (.int i :: vs) := .cons a b (by rw [c]; exact ⟨u, rfl⟩) d
theorem KL.lit {P : Params} : ∀ {l : List DictEntry} {ks : List Str} {vs : List V}, KL P l ks vs → PySem.W.KeysLit P l
  | _, _, _, .nil => trivial
  | _, _, _, .cons a b _ r => ⟨⟨_, _, a, b⟩, r.lit⟩
theorem KL.len {P : Params} : ∀ {l : List DictEntry} {ks : List Str} {vs : List V}, KL P l ks vs → ks.length = vs.length
  | _, _, _, .nil => rfl
  | _, _, _, .cons a b _ r => by simp [r.len]
theorem isStr_str {x k : Str} {t : Tok} : (Value.str k t).isStr x = (x == k) := by
  show (k == x) = (x == k)
  exact BEq.comm
theorem KL.find {P : Params} {x : Str} : ∀ {l : List DictEntry} {ks : List Str} {vs : List V}, KL P l ks vs → (match (ks.zip vs).lookup x with | some v => ∃ e, l.find? (·.key.isStr x) = some e ∧ RelV v e.val | none => l.find? (·.key.isStr x) = none)
  | _, _, _, .nil => rfl
  | _, _, _, .cons (e := e) (r := r) (k := k) (ks := ks) (v := v) (vs := vs) a b c d => by
    have ih := KL.find (x := x) d
    rw [List.zip_cons_cons, List.lookup_cons, List.find?_cons, a, isStr_str]
    cases x == k with
    | true => exact ⟨e, rfl, c⟩
    | false => exact ih
theorem KL.noref {P : Params} : ∀ {l : List DictEntry} {ks : List Str} {vs : List V}, KL P l ks vs → l.any (·.refKey) = false
  | _, _, _, .nil => rfl
  | _, _, _, .cons (e := e) a b c d => by
    rw [List.any_cons, d.noref, Bool.or_false]
    unfold DictEntry.refKey
    rw [a]
theorem con_dct (X : K.In h) (G : h.Ns mainGlobals mg) {x : Str} {d : Addr} {es : Array DictEntry} {n : Nat} {ks : List Str} {ds : List D} {vs : List V} (a : PySem.W.nsIn K mainGlobals x = some (some (.ref d))) (l : K.lookup d = some ⟨.type "dict", none, .dict es n, #[]⟩)
    (low : (d == sysModules) = false) (kl : KL w.params es.toList ks vs) (dn : ∀ Hf, DenL K w Hf ds vs) : ConstM K w mg x (.dct ks ds) := by
  refine ⟨_, .ref d, PySem.W.mg_of X G a, rfl, fun Hf => .kdct ⟨⟨es, n, l, kl.lit, low⟩, fun y v e => ?_, fun y e => ?_, kl.len⟩ (dn Hf)⟩
  · have f := kl.find (x := y)
    rw [e] at f
    obtain ⟨e0, f, r⟩ := f
    refine ⟨e0.val, ?_, r⟩
    unfold PySem.W.nsIn
    rw [l]
    show (match es.toList.find? (·.key.isStr y) with | some e => some (some e.val) | none => _) = _
    rw [f]
  · have f := kl.find (x := y)
    rw [e] at f
    have f : es.toList.find? (·.key.isStr y) = none := f
    unfold PySem.W.nsIn
    rw [l]
    show (match es.toList.find? (·.key.isStr y) with | some e => some (some e.val) | none => if es.toList.any (·.refKey) then none else some none) = _
    rw [f, kl.noref]
    rfl
end
end PyEv

set_option maxRecDepth 100000
set_option maxHeartbeats 4000000
/-! PyRun: running the evaluator by simp. -/
namespace PyEv
open PySem (Str PyData)
def Ret (P : Prog) (n : Nat) (f : Str) (ws : List W) (w : W) : Prop := ∃ outs, callF P n f ws = .ok w outs
theorem call_eq {P : Prog} {n : Nat} {f : Str} {fn : Fn} {ws : List W} (h : P.fns.lookup f = some fn) (hl : ws.length = fn.n) : callF P (n + 1) f ws = finC (evSs P (callF P n) fn.keep fn.body (ws.map some ++ List.replicate (fn.m - fn.n) none)) := by
  show (match P.fns.lookup f with | none => CRes.bad | some fn => if ws.length = fn.n then finC (evSs P (callF P n) fn.keep fn.body (ws.map some ++ List.replicate (fn.m - fn.n) none)) else .bad) = _
  rw [h]
  exact if_pos hl
/-- the value that a body ends with -/
def Fl.val : Fl → Option W
  | .nx _ => some (.d .non)
  | .rt w _ => some w
  | _ => none
def Res.val {α : Type} : Res α → Option α
  | .ok a _ => some a
  | _ => none
theorem ret_of {P : Prog} {n : Nat} {f : Str} {fn : Fn} {ws : List W} {w : W} (h : P.fns.lookup f = some fn) (hl : ws.length = fn.n) (e : (evSs P (callF P n) fn.keep fn.body (ws.map some ++ List.replicate (fn.m - fn.n) none)).val = some w) : Ret P (n + 1) f ws w := by
  unfold Ret
  rw [call_eq h hl]
  revert e
  cases evSs P (callF P n) fn.keep fn.body (ws.map some ++ List.replicate (fn.m - fn.n) none) <;> intro e <;> first | cases e <;> exact ⟨_, rfl⟩ | cases e
/-- a comprehension without a test, by an invariant of the slots -/
theorem lcL_map {keep : List Nat} {tg : Tg} {own : List (Str × Nat)} {ct : Env → Res Bool} {ce : Env → Res D} (f : D → D) (Q : Env → Prop) : ∀ (xs acc : List D) (env : Env),
    (∀ x ∈ xs, ∀ env, Q env → ∃ env1 env2 env3, assignTg keep tg x (wipeE env own) = some env1 ∧ ct env1 = .ok true env2 ∧ ce env2 = .ok (f x) env3 ∧ Q (wipeE env3 own)) → Q env → acc.length + xs.length ≤ line →
    ∃ env', lcL keep tg own ct ce xs acc env = .ok (acc ++ xs.map f) env' ∧ Q env'
  | [], acc, env, _, q, _ => ⟨env, by simp [lcL], q⟩
  | x :: xs, acc, env, h, q, hl => by
    obtain ⟨e1, e2, e3, h1, h2, h3, q'⟩ := h x List.mem_cons_self env q
    simp only [List.length_cons] at hl
    obtain ⟨env', ih, qe⟩ := lcL_map f Q xs (acc ++ [f x]) (wipeE e3 own) (fun y hy => h y (List.mem_cons_of_mem _ hy)) q' (by simp only [List.length_append, List.length_cons, List.length_nil]; omega)
    refine ⟨env', ?_, qe⟩
    have hz : acc.length < line := by omega
    simp only [lcL, h1, h2, h3, Res.noX, Res.bind, if_true, hz, ih, List.map_cons, List.append_assoc, List.cons_append, List.nil_append]
theorem forL_run {keep : List Nat} {tg : Tg} {body : Env → Fl} (Q : List D → Env → Prop) (step : ∀ x xs env, Q (x :: xs) env → ∃ env1 env2, assignTg keep tg x env = some env1 ∧ body env1 = .nx env2 ∧ Q xs env2) :
    ∀ xs env, Q xs env → ∃ env', forL keep tg body xs env = .nx env' ∧ Q [] env'
  | [], env, q => ⟨env, rfl, q⟩
  | x :: xs, env, q => by
    obtain ⟨e1, e2, h1, h2, q'⟩ := step x xs env q
    obtain ⟨env', ih, qe⟩ := forL_run Q step xs e2 q'
    exact ⟨env', by simp only [forL, h1, h2, ih], qe⟩
theorem whlL_run {c : Env → Res Bool} {body : Env → Fl} (Q : Nat → Env → Prop) (R : Env → Prop) (step : ∀ m env, Q (m + 1) env → ∃ env1 env2, c env = .ok true env1 ∧ body env1 = .nx env2 ∧ Q m env2) (done : ∀ env, Q 0 env → ∃ env', c env = .ok false env' ∧ R env') :
    ∀ m fuel env, m < fuel → Q m env → ∃ env', whlL c body fuel env = .nx env' ∧ R env'
  | _, 0, _, h, _ => by omega
  | 0, fuel + 1, env, _, q => by
    obtain ⟨e1, h1, r⟩ := done env q
    exact ⟨e1, by simp only [whlL, h1, Res.fl, Bool.false_eq_true, if_false], r⟩
  | m + 1, fuel + 1, env, hm, q => by
    obtain ⟨e1, e2, h1, h2, q'⟩ := step m env q
    obtain ⟨env', ih, r⟩ := whlL_run Q R step done m fuel e2 (by omega) q'
    exact ⟨env', by simp only [whlL, h1, h2, Res.fl, if_true, ih], r⟩
/-- ints far from the lines -/
def small (i : Int) : Prop := i.natAbs.log2 < 400000
theorem small_le {i : Int} {B : Nat} (h : i.natAbs ≤ B) (hB : B.log2 < 399999) : small i := by
  unfold small
  by_cases hz : i.natAbs = 0
  · rw [hz]; decide
  · have h2 : i.natAbs < 2 ^ (B.log2 + 1) := Nat.lt_of_le_of_lt h Nat.lt_log2_self
    have := (Nat.log2_lt hz).mpr h2
    omega
theorem small_of {i : Int} (h1 : -(2 ^ 250) ≤ i) (h2 : i ≤ 2 ^ 250) : small i := small_le (B := 2 ^ 250) (by omega) (by decide +kernel)
theorem binAdd {a b : Int} : binF .add (.int a) (.int b) = some (.d (.int (a + b))) := rfl
theorem binSub {a b : Int} : binF .sub (.int a) (.int b) = some (.d (.int (a - b))) := rfl
theorem binMul {a b : Int} (h1 : small a) (h2 : small b) : binF .mul (.int a) (.int b) = some (.d (.int (a * b))) := by
  unfold small at h1 h2
  show (if _ then _ else _) = _
  rw [if_pos (by omega)]
theorem binMod {a b : Int} (h : 0 < b) : binF .mod (.int a) (.int b) = some (.d (.int (a % b))) := if_pos h
theorem binFdv {a b : Int} (h : 0 < b) (h2 : b ≤ 2 ^ 250) : binF .fdv (.int a) (.int b) = some (.d (.int (a / b))) := by
  have hz : b.natAbs ≠ 0 := by omega
  have h3 : b.natAbs < 2 ^ 251 := by omega
  have := (Nat.log2_lt hz).mpr h3
  exact if_pos ⟨h, by omega⟩
theorem binPow3 {a : Int} (h : small a) : binF .pow (.int a) (.int 3) = some (.d (.int (a ^ 3))) := by
  unfold small at h
  refine if_pos ⟨by omega, ?_⟩
  unfold PySem.Builtin.Int.intBits
  split <;> omega
theorem eqF_str {a b : Str} : eqF (.str a) (.str b) = some (decide (a = b)) := rfl
theorem eqF_int {a b : Int} : eqF (.int a) (.int b) = some (decide (a = b)) := rfl
theorem at0 {α : Type} {a : α} {l : List α} : L2.atI (a :: l) 0 = some a := by simp [L2.atI, L2.ixN]
theorem at1 {α : Type} {a b : α} {l : List α} : L2.atI (a :: b :: l) 1 = some b := (show L2.atI (a :: b :: l) ((1 : Nat) : Int) = some b from L2.atI_nat rfl)
theorem at2 {α : Type} {a b c : α} {l : List α} : L2.atI (a :: b :: c :: l) 2 = some c := (show L2.atI (a :: b :: c :: l) ((2 : Nat) : Int) = some c from L2.atI_nat rfl)
theorem slot0 {o : Option W} {e : Env} : slot (o :: e) 0 = o := rfl
theorem slot1 {a o : Option W} {e : Env} : slot (a :: o :: e) 1 = o := rfl
theorem slot2 {a b o : Option W} {e : Env} : slot (a :: b :: o :: e) 2 = o := rfl
theorem slot3 {a b c o : Option W} {e : Env} : slot (a :: b :: c :: o :: e) 3 = o := rfl
theorem slot4 {a b c d o : Option W} {e : Env} : slot (a :: b :: c :: d :: o :: e) 4 = o := rfl
theorem slot5 {a b c d f o : Option W} {e : Env} : slot (a :: b :: c :: d :: f :: o :: e) 5 = o := rfl
theorem slot6 {a b c d f g o : Option W} {e : Env} : slot (a :: b :: c :: d :: f :: g :: o :: e) 6 = o := rfl
theorem slot7 {a b c d f g h o : Option W} {e : Env} : slot (a :: b :: c :: d :: f :: g :: h :: o :: e) 7 = o := rfl
theorem evIt_range1 {P : Prog} {cf : PySem.Str → List W → CRes} {keep : List Nat} {e : E} {env env' : Env} {a : Ar} {i : Int} {xs : List D} (h : evE P cf keep e env = .ok a env') (hu : use env' a = some (.int i)) (hr : rangeF 0 i = some xs) : evIt P cf keep (.range1 e) env = .ok xs env' := by
  simp only [evIt, h, Res.bind, hu, hr, Res.of]
theorem seq_nx {P : Prog} {cf : PySem.Str → List W → CRes} {keep : List Nat} {s : S} {ss : Ss} {env e : Env} (h : evS P cf keep s env = .nx e) : evSs P cf keep (.cons s ss) env = evSs P cf keep ss e := by simp only [evSs, h, Fl.then]
theorem seq_rt {P : Prog} {cf : PySem.Str → List W → CRes} {keep : List Nat} {s : S} {ss : Ss} {env e : Env} {w : W} (h : evS P cf keep s env = .rt w e) : evSs P cf keep (.cons s ss) env = .rt w e := by simp only [evSs, h, Fl.then]
end PyEv

set_option maxRecDepth 100000
set_option maxHeartbeats 4000000
/-! PyRepr: where repr is told. -/
namespace PyEv
open PySem
/-! texts, and lists and tuples of such -/
mutual
def okP : PyData → Bool
  | .none => true
  | .bool _ => true
  | .int _ => false
  | .str x => x.cps.toList.all (fun c => decide (c < 0x110000))
  | .list xs => okPs xs
  | .tuple xs => okPs xs
  | .dict _ => false
def okPs : List PyData → Bool
  | [] => true
  | x :: xs => okP x && okPs xs
end
mutual
def rb : PyData → Nat
  | .str x => 10 * x.length + 2
  | .list xs => 3 + rbs xs
  | .tuple xs => 3 + rbs xs
  | _ => 5
def rbs : List PyData → Nat
  | [] => 0
  | x :: xs => rb x + 2 + rbs xs
end
theorem piled_join (ts : List Str) : (Str.join ", " ts).length ≤ piled ts := by
  cases ts with
  | nil => exact Nat.zero_le _
  | cons t r => have := join_length_add (t :: r) (by simp); omega
theorem textFrom_le : ∀ (ts : List Str) (k : Nat) (acc : Str), (textFrom k acc ts).length ≤ acc.length + piled ts
  | [], k, acc => by show acc.length ≤ _; omega
  | t :: r, k, acc => by
    have h := textFrom_le r (k + 1) (acc ++ (if k > 0 then ", " else "" : String) ++ t)
    have e : (acc ++ (if k > 0 then ", " else "" : String) ++ t).length ≤ acc.length + 2 + t.length := by
      rw [strLen_append, strLen_append]
      split
      · have e2 : ((", " : String) : Str).length = 2 := rfl
        omega
      · have e2 : (("" : String) : Str).length = 0 := rfl
        omega
    show (textFrom (k + 1) _ r).length ≤ _
    rw [piled_cons]; omega
mutual
theorem shown_len : ∀ (d : PyData), okP d = true → d.shown.length ≤ rb d
  | .none, _ => by simp only [PyData.shown, rb]; decide
  | .bool b, _ => by cases b <;> (simp only [PyData.shown, rb]; decide)
  | .int _, h => by simp [okP] at h
  | .str x, h => by
    simp only [okP, List.all_eq_true, decide_eq_true_eq] at h
    simp only [PyData.shown, rb]
    exact StrLaws.reprText_len x fun c hc => Nat.lt_trans (h c hc) (by decide)
  | .list xs, h => by
    simp only [okP] at h
    have := showns_len xs h
    simp only [PyData.shown, rb, listText]
    rw [strLen_append]
    have h2 := textFrom_le (PyData.shownAll xs) 0 "["
    have e1 : (("[" : String) : Str).length = 1 := rfl
    have e2 : (("]" : String) : Str).length = 1 := rfl
    omega
  | .tuple xs, h => by
    simp only [okP] at h
    have := showns_len xs h
    simp only [PyData.shown, rb, tupleText]
    rw [strLen_append, strLen_append]
    have h2 := piled_join (PyData.shownAll xs)
    have e1 : (("(" : String) : Str).length = 1 := rfl
    have e2 : (((if (PyData.shownAll xs).length == 1 then ",)" else ")" : String) : Str)).length ≤ 2 := by split <;> decide
    omega
  | .dict _, h => by simp [okP] at h
theorem showns_len : ∀ (xs : List PyData), okPs xs = true → piled (PyData.shownAll xs) ≤ rbs xs
  | [], _ => by simp only [PyData.shownAll, rbs]; exact Nat.le_refl _
  | x :: xs, h => by
    simp only [okPs, Bool.and_eq_true] at h
    have h1 := shown_len x h.1
    have h2 := showns_len xs h.2
    simp only [PyData.shownAll, rbs]
    rw [piled_cons]; omega
end
mutual
theorem okP_show : ∀ (d : PyData), okP d = true → d.showable = true ∧ d.hasDict = false ∧ d.canLay0 = true
  | .none, _ => by simp [PyData.showable, PyData.hasDict, PyData.canLay0]
  | .bool b, _ => by simp [PyData.showable, PyData.hasDict, PyData.canLay0]
  | .int _, h => by simp [okP] at h
  | .str x, h => by
    simp only [okP] at h
    refine ⟨by simp [PyData.showable], by simp [PyData.hasDict], ?_⟩
    simp only [PyData.canLay0, PyData.strOk]
    rw [← Array.all_toList]
    exact h
  | .list xs, h => by simpa only [PyData.showable, PyData.hasDict, PyData.canLay0] using okPs_show xs (by simpa only [okP] using h)
  | .tuple xs, h => by simpa only [PyData.showable, PyData.hasDict, PyData.canLay0] using okPs_show xs (by simpa only [okP] using h)
  | .dict _, h => by simp [okP] at h
theorem okPs_show : ∀ (xs : List PyData), okPs xs = true → PyData.showableAll xs = true ∧ PyData.hasDictAll xs = false ∧ PyData.canLayAll0 xs = true
  | [], _ => by simp [PyData.showableAll, PyData.hasDictAll, PyData.canLayAll0]
  | x :: xs, h => by
    simp only [okPs, Bool.and_eq_true] at h
    obtain ⟨a1, a2, a3⟩ := okP_show x h.1
    obtain ⟨b1, b2, b3⟩ := okPs_show xs h.2
    simp [PyData.showableAll, PyData.hasDictAll, PyData.canLayAll0, a1, a2, a3, b1, b2, b3]
end
mutual
theorem eqv_refl : ∀ (d : PyData), okP d = true → PyData.eqv d d = true
  | .none, _ => by simp [PyData.eqv]
  | .bool b, _ => by simp [PyData.eqv]
  | .int _, h => by simp [okP] at h
  | .str x, _ => by simp [PyData.eqv]
  | .list xs, h => by simpa only [PyData.eqv] using eqvs_refl xs (by simpa only [okP] using h)
  | .tuple xs, h => by simpa only [PyData.eqv] using eqvs_refl xs (by simpa only [okP] using h)
  | .dict _, h => by simp [okP] at h
theorem eqvs_refl : ∀ (xs : List PyData), okPs xs = true → PyData.eqvAll xs xs = true
  | [], _ => by simp [PyData.eqvAll]
  | x :: xs, h => by
    simp only [okPs, Bool.and_eq_true] at h
    simp [PyData.eqvAll, eqv_refl x h.1, eqvs_refl xs h.2]
end
theorem okPs_all : ∀ (xs : List PyData), (∀ x ∈ xs, okP x = true) → okPs xs = true
  | [], _ => rfl
  | x :: xs, h => by simp only [okPs, h x List.mem_cons_self, okPs_all xs fun y hy => h y (List.mem_cons_of_mem _ hy), Bool.and_self]
theorem depthAll_le {m : Nat} : ∀ (xs : List PyData), (∀ x ∈ xs, x.depth ≤ m) → PyData.depthAll xs ≤ m
  | [], _ => Nat.zero_le _
  | x :: xs, h => by
    have a := h x List.mem_cons_self
    have b := depthAll_le xs fun y hy => h y (List.mem_cons_of_mem _ hy)
    simp only [PyData.depthAll]; omega
theorem rbs_le {m : Nat} : ∀ (xs : List PyData), (∀ x ∈ xs, rb x ≤ m) → rbs xs ≤ xs.length * (m + 2)
  | [], _ => Nat.zero_le _
  | x :: xs, h => by
    have a := h x List.mem_cons_self
    have b := rbs_le xs fun y hy => h y (List.mem_cons_of_mem _ hy)
    simp only [rbs, List.length_cons, Nat.succ_mul]; omega
theorem pyL_map {α : Type} {f : α → D} {g : α → PyData} : ∀ (l : List α), (∀ x ∈ l, (f x).py = some (g x)) → D.pyL (l.map f) = some (l.map g)
  | [], _ => rfl
  | x :: l, h => by
    simp only [List.map_cons, D.pyL, h x List.mem_cons_self, pyL_map l fun y hy => h y (List.mem_cons_of_mem _ hy)]
theorem reprF_some {d : D} {p : PyData} (e : d.py = some p) (ok : okP p = true) (hr : rb p ≤ line) (hd : p.depth ≤ 150) : reprF d = some (.str p.shown) := by
  obtain ⟨a, b, _⟩ := okP_show p ok
  have h := shown_len p ok
  unfold reprF
  rw [e]
  show (if (p.showable && decide (p.shown.length ≤ line) && decide (p.depth ≤ 150) && !p.hasDict) = true then _ else _) = _
  rw [if_pos (by simp [a, b, hd]; omega)]
theorem shaped_of {p : PyData} (ok : okP p = true) (hd : p.depth ≤ 64) : SeqAt.shaped p = true := by
  unfold SeqAt.shaped
  simp [(okP_show p ok).2.2, hd]
theorem eqF_refl {d : D} {p : PyData} (e : d.py = some p) (ok : okP p = true) (hd : p.depth ≤ 64) : eqF d d = some true := by
  unfold eqF
  split
  · simp
  · simp
  · rw [e]
    show (if (SeqAt.shaped p && SeqAt.shaped p) = true then some (PyData.eqv p p) else none) = _
    rw [shaped_of ok hd, eqv_refl p ok]; rfl
end PyEv

set_option maxRecDepth 100000
namespace K01
open PyEv PySem
def lc_is_name_0 : E := (.lc (.cmp .isin (.var 1) (.glob "LETTERS")) (.one 1) (.seq (.var 0)) .none [("sign", 1)])
/-- is_name -/
def b_is_name : Ss := (.cons (.ret (.and (.isi (.var 0) .str) (.and (.chain .le .le (.k (.int 1)) (.bi .len (.var 0)) (.glob "LONGEST_NAME")) (.bi .all lc_is_name_0)))) .nil)
def f_is_name : Fn := ⟨1, 2, [0], b_is_name⟩
/-- is_threefold -/
def b_is_threefold : Ss := (.cons (.ret (.and (.isi (.var 0) .tuple) (.and (.cmp .eq (.bi .len (.var 0)) (.k (.int 3))) (.and (.isi (.ix (.var 0) (.k (.int 0))) .str) (.cmp .isin (.ix (.var 0) (.k (.int 0))) (.glob "OTHER_SIDE")))))) .nil)
def f_is_threefold : Fn := ⟨1, 1, [0], b_is_threefold⟩
/-- is_tree -/
def b_is_tree : Ss := (.cons (.ret (.or (.call "is_name" (.cons (.var 0) .nil)) (.and (.call "is_threefold" (.cons (.var 0) .nil)) (.and (.call "is_tree" (.cons (.ix (.var 0) (.k (.int 1))) .nil)) (.call "is_tree" (.cons (.ix (.var 0) (.k (.int 2))) .nil)))))) .nil)
def f_is_tree : Fn := ⟨1, 1, [0], b_is_tree⟩
/-- ends_of -/
def b_ends_of : Ss := (.cons (.ife (.isi (.var 0) .str) (.cons (.ret (.lst (.cons (.var 0) .nil))) .nil) .nil) (.cons (.ret (.bin .add (.call "ends_of" (.cons (.ix (.var 0) (.k (.int 1))) .nil)) (.call "ends_of" (.cons (.ix (.var 0) (.k (.int 2))) .nil)))) .nil))
def f_ends_of : Fn := ⟨1, 1, [0], b_ends_of⟩
/-- is_reading -/
def b_is_reading : Ss := (.cons (.ret (.and (.call "is_tree" (.cons (.var 0) .nil)) (.cmp .le (.bi .len (.call "ends_of" (.cons (.var 0) .nil))) (.glob "MOST_ENDS")))) .nil)
def f_is_reading : Fn := ⟨1, 1, [0], b_is_reading⟩
/-- check_reading -/
def b_check_reading : Ss := (.cons (.ife (.not (.call "is_reading" (.cons (.var 0) .nil))) (.cons .never .nil) .nil) .nil)
def f_check_reading : Fn := ⟨1, 1, [0], b_check_reading⟩
/-- spelled -/
def b_spelled : Ss := (.cons (.ife (.isi (.var 0) .str) (.cons (.ret (.var 0)) .nil) .nil) (.cons (.unp (.two 1 2) (.ix (.glob "BRACKETS") (.ix (.var 0) (.k (.int 0))))) (.cons (.ret (.bin .add (.bin .add (.bin .add (.bin .add (.var 1) (.call "spelled" (.cons (.ix (.var 0) (.k (.int 1))) .nil))) (.glob "BLANK")) (.call "spelled" (.cons (.ix (.var 0) (.k (.int 2))) .nil))) (.var 2))) .nil)))
def f_spelled : Fn := ⟨1, 3, [0], b_spelled⟩
/-- text_of -/
def b_text_of : Ss := (.cons (.expr (.call "check_reading" (.cons (.var 0) .nil))) (.cons (.ret (.call "spelled" (.cons (.var 0) .nil))) .nil))
def f_text_of : Fn := ⟨1, 1, [0], b_text_of⟩
def whl_read_name_0 : S := (.whl (.and (.cmp .lt (.var 2) (.bi .len (.var 0))) (.cmp .isin (.ix (.var 0) (.var 2)) (.glob "LETTERS"))) (.cons (.set 2 (.bin .add (.var 2) (.k (.int 1)))) .nil))
/-- read_name -/
def b_read_name : Ss := (.cons (.set 2 (.var 1)) (.cons whl_read_name_0 (.cons (.ret (.ifx (.call "is_name" (.cons (.slc (.var 0) (.var 1) (.var 2)) .nil)) (.tup (.cons (.slc (.var 0) (.var 1) (.var 2)) (.cons (.var 2) .nil))) (.tup (.cons (.k .non) (.cons (.var 1) .nil))))) .nil)))
def f_read_name : Fn := ⟨2, 3, [0, 1], b_read_name⟩
/-- read_tree -/
def b_read_tree : Ss := (.cons (.set 3 (.slc (.var 0) (.var 1) (.bin .add (.var 1) (.k (.int 1))))) (.cons (.ife (.cmp .notin (.var 3) (.glob "OPENED")) (.cons (.ret (.call "read_name" (.cons (.var 0) (.cons (.var 1) .nil)))) .nil) .nil) (.cons (.ife (.cmp .eq (.var 2) (.glob "MOST_ENDS")) (.cons (.ret (.tup (.cons (.k .non) (.cons (.var 1) .nil)))) .nil) .nil) (.cons (.set 4 (.ix (.glob "OPENED") (.var 3))) (.cons (.unp (.two 5 6) (.call "read_tree" (.cons (.var 0) (.cons (.bin .add (.var 1) (.k (.int 1))) (.cons (.bin .add (.var 2) (.k (.int 1))) .nil))))) (.cons (.ife (.or (.cmp .isN (.var 5) (.k .non)) (.cmp .ne (.slc (.var 0) (.var 6) (.bin .add (.var 6) (.k (.int 1)))) (.glob "BLANK"))) (.cons (.ret (.tup (.cons (.k .non) (.cons (.var 1) .nil)))) .nil) .nil) (.cons (.unp (.two 7 6) (.call "read_tree" (.cons (.var 0) (.cons (.bin .add (.var 6) (.k (.int 1))) (.cons (.bin .add (.var 2) (.k (.int 1))) .nil))))) (.cons (.ife (.or (.cmp .isN (.var 7) (.k .non)) (.cmp .ne (.slc (.var 0) (.var 6) (.bin .add (.var 6) (.k (.int 1)))) (.ix (.ix (.glob "BRACKETS") (.var 4)) (.k (.int 1))))) (.cons (.ret (.tup (.cons (.k .non) (.cons (.var 1) .nil)))) .nil) .nil) (.cons (.ret (.tup (.cons (.tup (.cons (.var 4) (.cons (.var 5) (.cons (.var 7) .nil)))) (.cons (.bin .add (.var 6) (.k (.int 1))) .nil)))) .nil)))))))))
def f_read_tree : Fn := ⟨3, 8, [0, 1, 2], b_read_tree⟩
/-- reading_in -/
def b_reading_in : Ss := (.cons (.unp (.two 1 2) (.call "read_tree" (.cons (.var 0) (.cons (.k (.int 0)) (.cons (.k (.int 0)) .nil))))) (.cons (.ret (.ifx (.and (.cmp .eq (.var 2) (.bi .len (.var 0))) (.call "is_reading" (.cons (.var 1) .nil))) (.var 1) (.k .non))) .nil))
def f_reading_in : Fn := ⟨1, 3, [0], b_reading_in⟩
/-- reading_of -/
def b_reading_of : Ss := (.cons (.set 1 (.ifx (.isi (.var 0) .str) (.call "reading_in" (.cons (.var 0) .nil)) (.k .non))) (.cons (.ife (.cmp .isN (.var 1) (.k .non)) (.cons .never .nil) .nil) (.cons (.ret (.var 1)) .nil)))
def f_reading_of : Fn := ⟨1, 2, [0], b_reading_of⟩
/-- row_of -/
def b_row_of : Ss := (.cons (.expr (.call "check_reading" (.cons (.var 0) .nil))) (.cons (.ret (.bi .tuple (.call "ends_of" (.cons (.var 0) .nil)))) .nil))
def f_row_of : Fn := ⟨1, 1, [0], b_row_of⟩
/-- parts_in -/
def b_parts_in : Ss := (.cons (.ret (.ifx (.isi (.var 0) .str) (.lst (.cons (.var 0) .nil)) (.lst (.cons (.var 0) (.star (.call "parts_in" (.cons (.ix (.var 0) (.k (.int 1))) .nil)) (.star (.call "parts_in" (.cons (.ix (.var 0) (.k (.int 2))) .nil)) .nil)))))) .nil)
def f_parts_in : Fn := ⟨1, 1, [0], b_parts_in⟩
/-- parts -/
def b_parts : Ss := (.cons (.expr (.call "check_reading" (.cons (.var 0) .nil))) (.cons (.ret (.bi .tuple (.call "parts_in" (.cons (.var 0) .nil)))) .nil))
def f_parts : Fn := ⟨1, 1, [0], b_parts⟩
/-- turned -/
def b_turned : Ss := (.cons (.ife (.isi (.var 0) .str) (.cons (.ret (.var 0)) .nil) .nil) (.cons (.ret (.tup (.cons (.ix (.glob "OTHER_SIDE") (.ix (.var 0) (.k (.int 0)))) (.cons (.call "turned" (.cons (.ix (.var 0) (.k (.int 2))) .nil)) (.cons (.call "turned" (.cons (.ix (.var 0) (.k (.int 1))) .nil)) .nil))))) .nil))
def f_turned : Fn := ⟨1, 1, [0], b_turned⟩
/-- mirrored -/
def b_mirrored : Ss := (.cons (.expr (.call "check_reading" (.cons (.var 0) .nil))) (.cons (.ret (.call "turned" (.cons (.var 0) .nil))) .nil))
def f_mirrored : Fn := ⟨1, 1, [0], b_mirrored⟩
/-- _law_pot -/
def b__law_pot : Ss := (.cons (.set 2 (.ifx (.cmp .lt (.var 1) (.bi .len (.var 0))) (.ix (.var 0) (.var 1)) (.bin .add (.bin .mul (.k (.int 175)) (.var 1)) (.k (.int 60))))) (.cons (.set 3 (.bin .mul (.bin .mod (.bi .int (.bi .abs (.var 2))) (.bin .pow (.bin .pow (.k (.int 10)) (.k (.int 60))) (.k (.int 5)))) (.bi .int (.cmp .ge (.bi .abs (.var 2)) (.bin .pow (.k (.int 10)) (.k (.int 18))))))) (.cons (.set 4 (.bin .mod (.bi .int (.var 2)) (.k (.int 2305843009213693951)))) (.cons (.ret (.lst (.cons (.var 3) (.cons (.bin .mod (.bi .int (.bin .add (.bin .add (.bin .mul (.var 4) (.k (.int 73599))) (.bin .mul (.bin .mul (.k (.int 8123)) (.var 1)) (.var 1))) (.k (.int 151)))) (.k (.int 2305843009213693921))) (.cons (.k (.int 0)) .nil))))) .nil))))
def f__law_pot : Fn := ⟨2, 5, [0, 1], b__law_pot⟩
/-- _law_take -/
def b__law_take : Ss := (.cons (.ife (.cmp .gt (.ix (.var 0) (.k (.int 0))) (.k (.int 0))) (.cons (.set 2 (.bin .mod (.bi .int (.ix (.var 0) (.k (.int 0)))) (.var 1))) (.cons (.setix 0 (.k (.int 0)) (.bin .fdv (.ix (.var 0) (.k (.int 0))) (.var 1))) (.cons (.ret (.var 2)) .nil))) .nil) (.cons (.setix 0 (.k (.int 2)) (.bin .add (.ix (.var 0) (.k (.int 2))) (.k (.int 1)))) (.cons (.set 3 (.ix (.lst (.cons (.k (.int 2147483647)) (.cons (.k (.int 2147483629)) (.cons (.k (.int 2147483587)) (.cons (.k (.int 2147483579)) (.cons (.k (.int 2147483563)) .nil)))))) (.bin .mod (.bi .int (.ix (.var 0) (.k (.int 2)))) (.k (.int 5))))) (.cons (.set 4 (.bin .mod (.bi .int (.bin .pow (.bi .int (.bin .add (.bin .add (.ix (.var 0) (.k (.int 1))) (.bin .mul (.bin .mul (.k (.int 100853)) (.ix (.var 0) (.k (.int 2)))) (.ix (.var 0) (.k (.int 2))))) (.k (.int 68)))) (.k (.int 3)))) (.var 3))) (.cons (.set 4 (.bin .mod (.bi .int (.bin .mul (.var 4) (.bin .add (.bin .mod (.bi .int (.var 4)) (.k (.int 10331))) (.bin .mul (.k (.int 181)) (.ix (.var 0) (.k (.int 2))))))) (.k (.int 2305843009213693907)))) (.cons (.ret (.bin .mod (.bi .int (.bin .fdv (.var 4) (.k (.int 151)))) (.var 1))) .nil))))))
def f__law_take : Fn := ⟨2, 5, [0, 1], b__law_take⟩
/-- _law_of -/
def b__law_of : Ss := (.cons (.ret (.ix (.var 1) (.call "_law_take" (.cons (.var 0) (.cons (.bi .len (.var 1)) .nil))))) .nil)
def f__law_of : Fn := ⟨2, 2, [0, 1], b__law_of⟩
def for__law_some_0 : S := (.for (.one 5) (.range1 (.var 2)) (.cons (.expr (.mut .append 4 (.cons (.mut .popAt 3 (.cons (.call "_law_take" (.cons (.var 0) (.cons (.bi .len (.var 3)) .nil))) .nil)) .nil))) .nil))
/-- _law_some -/
def b__law_some : Ss := (.cons (.par 3 4 (.bi .list (.var 1)) (.lst .nil)) (.cons for__law_some_0 (.cons (.ret (.var 4)) .nil)))
def f__law_some : Fn := ⟨3, 6, [0, 1, 2], b__law_some⟩
/-- _law_cells -/
def b__law_cells : Ss := (.cons (.ret (.listRange (.mm true (.k (.int 1)) (.mm false (.var 1) (.bi .len (.var 0)))))) .nil)
def f__law_cells : Fn := ⟨2, 2, [0, 1], b__law_cells⟩
/-- _law_ends -/
def b__law_ends : Ss := (.cons (.ret (.ifx (.isi (.var 0) .str) (.lst (.cons (.var 0) .nil)) (.bin .add (.call "_law_ends" (.cons (.ix (.var 0) (.k (.int 1))) .nil)) (.call "_law_ends" (.cons (.ix (.var 0) (.k (.int 2))) .nil))))) .nil)
def f__law_ends : Fn := ⟨1, 1, [0], b__law_ends⟩
/-- _law_spelled -/
def b__law_spelled : Ss := (.cons (.ife (.isi (.var 0) .str) (.cons (.ret (.var 0)) .nil) .nil) (.cons (.set 1 (.ifx (.cmp .eq (.ix (.var 0) (.k (.int 0))) (.k (.str "right"))) (.k (.str "()")) (.k (.str "[]")))) (.cons (.ret (.bin .add (.bin .add (.bin .add (.bin .add (.ix (.var 1) (.k (.int 0))) (.call "_law_spelled" (.cons (.ix (.var 0) (.k (.int 1))) .nil))) (.k (.str " "))) (.call "_law_spelled" (.cons (.ix (.var 0) (.k (.int 2))) .nil))) (.ix (.var 1) (.k (.int 1))))) .nil)))
def f__law_spelled : Fn := ⟨1, 2, [0], b__law_spelled⟩
/-- _law_parts -/
def b__law_parts : Ss := (.cons (.ife (.isi (.var 0) .str) (.cons (.ret (.lst (.cons (.var 0) .nil))) .nil) .nil) (.cons (.ret (.bin .add (.bin .add (.lst (.cons (.var 0) .nil)) (.call "_law_parts" (.cons (.ix (.var 0) (.k (.int 1))) .nil))) (.call "_law_parts" (.cons (.ix (.var 0) (.k (.int 2))) .nil)))) .nil))
def f__law_parts : Fn := ⟨1, 1, [0], b__law_parts⟩
/-- _law_words -/
def b__law_words : Ss := (.cons (.set 3 (.lst (.cons (.k (.str "ann")) (.cons (.k (.str "bob")) (.cons (.k (.str "sees")) (.cons (.k (.str "s")) (.cons (.k (.str "row")) (.cons (.k (.str "not")) (.cons (.k (.str "like")) (.cons (.k (.str "is")) (.cons (.k (.str "a")) (.cons (.k (.str "zzzzzzzz")) (.cons (.k (.str "b")) (.cons (.k (.str "words")) (.cons (.k (.str "right")) (.cons (.k (.str "tells")) .nil)))))))))))))))) (.cons (.ret (.bi .tuple (.call "_law_some" (.cons (.var 0) (.cons (.var 3) (.cons (.bin .add (.var 1) (.call "_law_take" (.cons (.var 0) (.cons (.bin .add (.bin .sub (.var 2) (.var 1)) (.k (.int 1))) .nil)))) .nil)))))) .nil))
def f__law_words : Fn := ⟨3, 4, [0, 1, 2], b__law_words⟩
/-- _law_tree -/
def b__law_tree : Ss := (.cons (.ife (.cmp .eq (.var 2) (.k (.int 1))) (.cons (.ret (.call "_law_of" (.cons (.var 0) (.cons (.var 1) .nil)))) .nil) .nil) (.cons (.set 3 (.bin .add (.k (.int 1)) (.call "_law_take" (.cons (.var 0) (.cons (.bin .sub (.var 2) (.k (.int 1))) .nil))))) (.cons (.set 4 (.ix (.lst (.cons (.k (.str "right")) (.cons (.k (.str "left")) .nil))) (.call "_law_take" (.cons (.var 0) (.cons (.k (.int 2)) .nil))))) (.cons (.ret (.tup (.cons (.var 4) (.cons (.call "_law_tree" (.cons (.var 0) (.cons (.var 1) (.cons (.var 3) .nil)))) (.cons (.call "_law_tree" (.cons (.var 0) (.cons (.var 1) (.cons (.bin .sub (.var 2) (.var 3)) .nil)))) .nil))))) .nil))))
def f__law_tree : Fn := ⟨3, 5, [0, 1, 2], b__law_tree⟩
/-- _law_mirrored -/
def b__law_mirrored : Ss := (.cons (.ife (.isi (.var 0) .str) (.cons (.ret (.var 0)) .nil) .nil) (.cons (.ret (.tup (.cons (.ix (.dct ["right", "left"] (.cons (.k (.str "left")) (.cons (.k (.str "right")) .nil))) (.ix (.var 0) (.k (.int 0)))) (.cons (.call "_law_mirrored" (.cons (.ix (.var 0) (.k (.int 2))) .nil)) (.cons (.call "_law_mirrored" (.cons (.ix (.var 0) (.k (.int 1))) .nil)) .nil))))) .nil))
def f__law_mirrored : Fn := ⟨1, 1, [0], b__law_mirrored⟩
def lc__law_is_right_0 : E := (.lc (.cmp .isin (.var 4) (.ix (.var 2) (.k (.int 2)))) (.one 4) (.seq (.call "parts" (.cons (.var 5) .nil))) .none [("_law_its", 4)])
def lc__law_is_right_1 : E := (.lc (.bi .all lc__law_is_right_0) (.one 5) (.seq (.ix (.var 2) (.k (.int 2)))) .none [("_law_part", 5)])
/-- _law_is_right -/
def b__law_is_right : Ss := (.cons (.set 1 (.tup (.cons (.call "_law_spelled" (.cons (.var 0) .nil)) (.cons (.bi .tuple (.call "_law_ends" (.cons (.var 0) .nil))) (.cons (.bi .tuple (.call "_law_parts" (.cons (.var 0) .nil))) (.cons (.call "_law_mirrored" (.cons (.var 0) .nil)) .nil)))))) (.cons (.set 2 (.tup (.cons (.call "text_of" (.cons (.var 0) .nil)) (.cons (.call "row_of" (.cons (.var 0) .nil)) (.cons (.call "parts" (.cons (.var 0) .nil)) (.cons (.call "mirrored" (.cons (.var 0) .nil)) .nil)))))) (.cons (.ife (.or (.cmp .ne (.bi .repr (.var 2)) (.bi .repr (.var 1))) (.cmp .ne (.bi .repr (.call "reading_of" (.cons (.ix (.var 2) (.k (.int 0))) .nil))) (.bi .repr (.var 0)))) (.cons (.ret (.k (.bl false))) .nil) .nil) (.cons (.set 3 (.call "mirrored" (.cons (.var 0) .nil))) (.cons (.ife (.or (.cmp .ne (.call "mirrored" (.cons (.var 3) .nil)) (.var 0)) (.cmp .ne (.call "row_of" (.cons (.var 3) .nil)) (.rev (.call "row_of" (.cons (.var 0) .nil))))) (.cons (.ret (.k (.bl false))) .nil) .nil) (.cons (.ife (.cmp .ne (.bi .len (.call "parts" (.cons (.var 3) .nil))) (.bi .len (.call "parts" (.cons (.var 0) .nil)))) (.cons (.ret (.k (.bl false))) .nil) .nil) (.cons (.ret (.bi .all lc__law_is_right_1)) .nil)))))))
def f__law_is_right : Fn := ⟨1, 6, [0], b__law_is_right⟩
def for__law_right_0 : S := (.for (.one 2) (.range1 (.k (.int 12))) (.cons (.ife (.not (.call "_law_is_right" (.cons (.call "_law_tree" (.cons (.var 0) (.cons (.var 1) (.cons (.call "_law_of" (.cons (.var 0) (.cons (.lst (.cons (.k (.int 1)) (.cons (.k (.int 2)) (.cons (.k (.int 3)) (.cons (.k (.int 4)) (.cons (.k (.int 5)) (.cons (.k (.int 6)) .nil))))))) .nil))) .nil)))) .nil))) (.cons (.ret (.k (.bl false))) .nil) .nil) .nil))
/-- _law_right -/
def b__law_right : Ss := (.cons (.set 1 (.call "_law_words" (.cons (.var 0) (.cons (.k (.int 1)) (.cons (.k (.int 6)) .nil))))) (.cons for__law_right_0 (.cons (.ret (.k (.bl true))) .nil)))
def f__law_right : Fn := ⟨1, 3, [0], b__law_right⟩
def lc_law_0 : E := (.lc (.call "_law_right" (.cons (.call "_law_pot" (.cons (.var 0) (.cons (.var 1) .nil))) .nil)) (.one 1) (.seq (.call "_law_cells" (.cons (.var 0) (.cons (.k (.int 6)) .nil)))) .none [("_law_place", 1)])
/-- law -/
def b_law : Ss := (.cons (.ret (.bi .all lc_law_0)) .nil)
def f_law : Fn := ⟨1, 2, [0], b_law⟩
def P : Prog := ⟨[("is_name", f_is_name), ("is_threefold", f_is_threefold), ("is_tree", f_is_tree), ("ends_of", f_ends_of), ("is_reading", f_is_reading), ("check_reading", f_check_reading), ("spelled", f_spelled), ("text_of", f_text_of), ("read_name", f_read_name), ("read_tree", f_read_tree), ("reading_in", f_reading_in), ("reading_of", f_reading_of), ("row_of", f_row_of), ("parts_in", f_parts_in), ("parts", f_parts), ("turned", f_turned), ("mirrored", f_mirrored), ("_law_pot", f__law_pot), ("_law_take", f__law_take), ("_law_of", f__law_of), ("_law_some", f__law_some), ("_law_cells", f__law_cells), ("_law_ends", f__law_ends), ("_law_spelled", f__law_spelled), ("_law_parts", f__law_parts), ("_law_words", f__law_words), ("_law_tree", f__law_tree), ("_law_mirrored", f__law_mirrored), ("_law_is_right", f__law_is_right), ("_law_right", f__law_right), ("law", f_law)], [("MOST_ENDS", (.int 6)), ("LONGEST_NAME", (.int 8)), ("LETTERS", (.str "abcdefghijklmnopqrstuvwxyz")), ("BLANK", (.str " ")), ("OPENED", (.dct ["(", "["] [(.str "right"), (.str "left")])), ("BRACKETS", (.dct ["right", "left"] [(.str "()"), (.str "[]")])), ("OTHER_SIDE", (.dct ["right", "left"] [(.str "left"), (.str "right")]))]⟩
theorem lk_is_name : P.fns.lookup ("is_name" : Str) = some f_is_name := by rfl
theorem lk_is_threefold : P.fns.lookup ("is_threefold" : Str) = some f_is_threefold := by rfl
theorem lk_is_tree : P.fns.lookup ("is_tree" : Str) = some f_is_tree := by rfl
theorem lk_ends_of : P.fns.lookup ("ends_of" : Str) = some f_ends_of := by rfl
theorem lk_is_reading : P.fns.lookup ("is_reading" : Str) = some f_is_reading := by rfl
theorem lk_check_reading : P.fns.lookup ("check_reading" : Str) = some f_check_reading := by rfl
theorem lk_spelled : P.fns.lookup ("spelled" : Str) = some f_spelled := by rfl
theorem lk_text_of : P.fns.lookup ("text_of" : Str) = some f_text_of := by rfl
theorem lk_read_name : P.fns.lookup ("read_name" : Str) = some f_read_name := by rfl
theorem lk_read_tree : P.fns.lookup ("read_tree" : Str) = some f_read_tree := by rfl
theorem lk_reading_in : P.fns.lookup ("reading_in" : Str) = some f_reading_in := by rfl
theorem lk_reading_of : P.fns.lookup ("reading_of" : Str) = some f_reading_of := by rfl
theorem lk_row_of : P.fns.lookup ("row_of" : Str) = some f_row_of := by rfl
theorem lk_parts_in : P.fns.lookup ("parts_in" : Str) = some f_parts_in := by rfl
theorem lk_parts : P.fns.lookup ("parts" : Str) = some f_parts := by rfl
theorem lk_turned : P.fns.lookup ("turned" : Str) = some f_turned := by rfl
theorem lk_mirrored : P.fns.lookup ("mirrored" : Str) = some f_mirrored := by rfl
theorem lk__law_pot : P.fns.lookup ("_law_pot" : Str) = some f__law_pot := by rfl
theorem lk__law_take : P.fns.lookup ("_law_take" : Str) = some f__law_take := by rfl
theorem lk__law_of : P.fns.lookup ("_law_of" : Str) = some f__law_of := by rfl
theorem lk__law_some : P.fns.lookup ("_law_some" : Str) = some f__law_some := by rfl
theorem lk__law_cells : P.fns.lookup ("_law_cells" : Str) = some f__law_cells := by rfl
theorem lk__law_ends : P.fns.lookup ("_law_ends" : Str) = some f__law_ends := by rfl
theorem lk__law_spelled : P.fns.lookup ("_law_spelled" : Str) = some f__law_spelled := by rfl
theorem lk__law_parts : P.fns.lookup ("_law_parts" : Str) = some f__law_parts := by rfl
theorem lk__law_words : P.fns.lookup ("_law_words" : Str) = some f__law_words := by rfl
theorem lk__law_tree : P.fns.lookup ("_law_tree" : Str) = some f__law_tree := by rfl
theorem lk__law_mirrored : P.fns.lookup ("_law_mirrored" : Str) = some f__law_mirrored := by rfl
theorem lk__law_is_right : P.fns.lookup ("_law_is_right" : Str) = some f__law_is_right := by rfl
theorem lk__law_right : P.fns.lookup ("_law_right" : Str) = some f__law_right := by rfl
theorem lk_law : P.fns.lookup ("law" : Str) = some f_law := by rfl
theorem gl_MOST_ENDS : P.consts.lookup ("MOST_ENDS" : Str) = some (.int 6) := by rfl
theorem gl_LONGEST_NAME : P.consts.lookup ("LONGEST_NAME" : Str) = some (.int 8) := by rfl
theorem gl_LETTERS : P.consts.lookup ("LETTERS" : Str) = some (.str "abcdefghijklmnopqrstuvwxyz") := by rfl
theorem gl_BLANK : P.consts.lookup ("BLANK" : Str) = some (.str " ") := by rfl
theorem gl_OPENED : P.consts.lookup ("OPENED" : Str) = some (.dct ["(", "["] [(.str "right"), (.str "left")]) := by rfl
theorem gl_BRACKETS : P.consts.lookup ("BRACKETS" : Str) = some (.dct ["right", "left"] [(.str "()"), (.str "[]")]) := by rfl
theorem gl_OTHER_SIDE : P.consts.lookup ("OTHER_SIDE" : Str) = some (.dct ["right", "left"] [(.str "left"), (.str "right")]) := by rfl
theorem look : P.fns.lookup ("law" : Str) = some f_law := by rfl
end K01

set_option maxRecDepth 100000
set_option maxHeartbeats 4000000
namespace K01
open PyEv PySem L2
def top (i : Nat) : Stmt := PySem.Challenge.pw_typesunwritten_k01_whole_readings_there.main.body.getD i (.Pass ⟨0, 0, 0, 0⟩)
abbrev s_is_name : Stmt := top 14
theorem d_is_name {K : PySem.W.Frag} {h : Heap} {mg : Str → Option Value} (X : K.In h) (G : h.Ns mainGlobals mg) {a : Addr} {od an : Option Addr} {sl : Array (Option Value)} {oc kV dc pm cd ct : Value}
    (a1 : PySem.W.nsIn K mainGlobals "is_name" = some (some (.ref a))) (l1 : K.lookup a = some ⟨oc, od, .func (PySem.W.fnOf "is_name" "is_name" (defArgs s_is_name) (defBody s_is_name) (defScope s_is_name) .none kV dc pm an cd ct), sl⟩) (c1 : PySem.W.codeIn K cd "is_name" = true) (k1 : PySem.W.keepIn K (.ref a) = true) : DefOk K mg "is_name" f_is_name :=
  have F := fun_mk (st := s_is_name) l1 c1 k1
  ⟨a, _, s_is_name, ["value", "sign"], ["value"], PySem.W.mg_of X G a1, F, F.binds (ps := ["value"]) fun _ _ _ _ _ _ us hl => match us, hl with | [_], _ => rfl, ⟨rfl, rfl, rfl, by decide +kernel, rfl, by decide +kernel, by decide +kernel⟩, rfl, rfl, by decide, by decide +kernel⟩
abbrev s_is_threefold : Stmt := top 15
theorem d_is_threefold {K : PySem.W.Frag} {h : Heap} {mg : Str → Option Value} (X : K.In h) (G : h.Ns mainGlobals mg) {a : Addr} {od an : Option Addr} {sl : Array (Option Value)} {oc kV dc pm cd ct : Value}
    (a1 : PySem.W.nsIn K mainGlobals "is_threefold" = some (some (.ref a))) (l1 : K.lookup a = some ⟨oc, od, .func (PySem.W.fnOf "is_threefold" "is_threefold" (defArgs s_is_threefold) (defBody s_is_threefold) (defScope s_is_threefold) .none kV dc pm an cd ct), sl⟩) (c1 : PySem.W.codeIn K cd "is_threefold" = true) (k1 : PySem.W.keepIn K (.ref a) = true) : DefOk K mg "is_threefold" f_is_threefold :=
  have F := fun_mk (st := s_is_threefold) l1 c1 k1
  ⟨a, _, s_is_threefold, ["value"], ["value"], PySem.W.mg_of X G a1, F, F.binds (ps := ["value"]) fun _ _ _ _ _ _ us hl => match us, hl with | [_], _ => rfl, ⟨rfl, rfl, rfl, by decide +kernel, rfl, by decide +kernel, by decide +kernel⟩, rfl, rfl, by decide, by decide +kernel⟩
abbrev s_is_tree : Stmt := top 16
theorem d_is_tree {K : PySem.W.Frag} {h : Heap} {mg : Str → Option Value} (X : K.In h) (G : h.Ns mainGlobals mg) {a : Addr} {od an : Option Addr} {sl : Array (Option Value)} {oc kV dc pm cd ct : Value}
    (a1 : PySem.W.nsIn K mainGlobals "is_tree" = some (some (.ref a))) (l1 : K.lookup a = some ⟨oc, od, .func (PySem.W.fnOf "is_tree" "is_tree" (defArgs s_is_tree) (defBody s_is_tree) (defScope s_is_tree) .none kV dc pm an cd ct), sl⟩) (c1 : PySem.W.codeIn K cd "is_tree" = true) (k1 : PySem.W.keepIn K (.ref a) = true) : DefOk K mg "is_tree" f_is_tree :=
  have F := fun_mk (st := s_is_tree) l1 c1 k1
  ⟨a, _, s_is_tree, ["value"], ["value"], PySem.W.mg_of X G a1, F, F.binds (ps := ["value"]) fun _ _ _ _ _ _ us hl => match us, hl with | [_], _ => rfl, ⟨rfl, rfl, rfl, by decide +kernel, rfl, by decide +kernel, by decide +kernel⟩, rfl, rfl, by decide, by decide +kernel⟩
abbrev s_ends_of : Stmt := top 17
theorem d_ends_of {K : PySem.W.Frag} {h : Heap} {mg : Str → Option Value} (X : K.In h) (G : h.Ns mainGlobals mg) {a : Addr} {od an : Option Addr} {sl : Array (Option Value)} {oc kV dc pm cd ct : Value}
    (a1 : PySem.W.nsIn K mainGlobals "ends_of" = some (some (.ref a))) (l1 : K.lookup a = some ⟨oc, od, .func (PySem.W.fnOf "ends_of" "ends_of" (defArgs s_ends_of) (defBody s_ends_of) (defScope s_ends_of) .none kV dc pm an cd ct), sl⟩) (c1 : PySem.W.codeIn K cd "ends_of" = true) (k1 : PySem.W.keepIn K (.ref a) = true) : DefOk K mg "ends_of" f_ends_of :=
  have F := fun_mk (st := s_ends_of) l1 c1 k1
  ⟨a, _, s_ends_of, ["reading"], ["reading"], PySem.W.mg_of X G a1, F, F.binds (ps := ["reading"]) fun _ _ _ _ _ _ us hl => match us, hl with | [_], _ => rfl, ⟨rfl, rfl, rfl, by decide +kernel, rfl, by decide +kernel, by decide +kernel⟩, rfl, rfl, by decide, by decide +kernel⟩
abbrev s_is_reading : Stmt := top 18
theorem d_is_reading {K : PySem.W.Frag} {h : Heap} {mg : Str → Option Value} (X : K.In h) (G : h.Ns mainGlobals mg) {a : Addr} {od an : Option Addr} {sl : Array (Option Value)} {oc kV dc pm cd ct : Value}
    (a1 : PySem.W.nsIn K mainGlobals "is_reading" = some (some (.ref a))) (l1 : K.lookup a = some ⟨oc, od, .func (PySem.W.fnOf "is_reading" "is_reading" (defArgs s_is_reading) (defBody s_is_reading) (defScope s_is_reading) .none kV dc pm an cd ct), sl⟩) (c1 : PySem.W.codeIn K cd "is_reading" = true) (k1 : PySem.W.keepIn K (.ref a) = true) : DefOk K mg "is_reading" f_is_reading :=
  have F := fun_mk (st := s_is_reading) l1 c1 k1
  ⟨a, _, s_is_reading, ["value"], ["value"], PySem.W.mg_of X G a1, F, F.binds (ps := ["value"]) fun _ _ _ _ _ _ us hl => match us, hl with | [_], _ => rfl, ⟨rfl, rfl, rfl, by decide +kernel, rfl, by decide +kernel, by decide +kernel⟩, rfl, rfl, by decide, by decide +kernel⟩
abbrev s_check_reading : Stmt := top 19
theorem d_check_reading {K : PySem.W.Frag} {h : Heap} {mg : Str → Option Value} (X : K.In h) (G : h.Ns mainGlobals mg) {a : Addr} {od an : Option Addr} {sl : Array (Option Value)} {oc kV dc pm cd ct : Value}
    (a1 : PySem.W.nsIn K mainGlobals "check_reading" = some (some (.ref a))) (l1 : K.lookup a = some ⟨oc, od, .func (PySem.W.fnOf "check_reading" "check_reading" (defArgs s_check_reading) (defBody s_check_reading) (defScope s_check_reading) .none kV dc pm an cd ct), sl⟩) (c1 : PySem.W.codeIn K cd "check_reading" = true) (k1 : PySem.W.keepIn K (.ref a) = true) : DefOk K mg "check_reading" f_check_reading :=
  have F := fun_mk (st := s_check_reading) l1 c1 k1
  ⟨a, _, s_check_reading, ["value"], ["value"], PySem.W.mg_of X G a1, F, F.binds (ps := ["value"]) fun _ _ _ _ _ _ us hl => match us, hl with | [_], _ => rfl, ⟨rfl, rfl, rfl, by decide +kernel, rfl, by decide +kernel, by decide +kernel⟩, rfl, rfl, by decide, by decide +kernel⟩
abbrev s_spelled : Stmt := top 20
theorem d_spelled {K : PySem.W.Frag} {h : Heap} {mg : Str → Option Value} (X : K.In h) (G : h.Ns mainGlobals mg) {a : Addr} {od an : Option Addr} {sl : Array (Option Value)} {oc kV dc pm cd ct : Value}
    (a1 : PySem.W.nsIn K mainGlobals "spelled" = some (some (.ref a))) (l1 : K.lookup a = some ⟨oc, od, .func (PySem.W.fnOf "spelled" "spelled" (defArgs s_spelled) (defBody s_spelled) (defScope s_spelled) .none kV dc pm an cd ct), sl⟩) (c1 : PySem.W.codeIn K cd "spelled" = true) (k1 : PySem.W.keepIn K (.ref a) = true) : DefOk K mg "spelled" f_spelled :=
  have F := fun_mk (st := s_spelled) l1 c1 k1
  ⟨a, _, s_spelled, ["reading", "opened", "closed"], ["reading"], PySem.W.mg_of X G a1, F, F.binds (ps := ["reading"]) fun _ _ _ _ _ _ us hl => match us, hl with | [_], _ => rfl, ⟨rfl, rfl, rfl, by decide +kernel, rfl, by decide +kernel, by decide +kernel⟩, rfl, rfl, by decide, by decide +kernel⟩
abbrev s_text_of : Stmt := top 21
theorem d_text_of {K : PySem.W.Frag} {h : Heap} {mg : Str → Option Value} (X : K.In h) (G : h.Ns mainGlobals mg) {a : Addr} {od an : Option Addr} {sl : Array (Option Value)} {oc kV dc pm cd ct : Value}
    (a1 : PySem.W.nsIn K mainGlobals "text_of" = some (some (.ref a))) (l1 : K.lookup a = some ⟨oc, od, .func (PySem.W.fnOf "text_of" "text_of" (defArgs s_text_of) (defBody s_text_of) (defScope s_text_of) .none kV dc pm an cd ct), sl⟩) (c1 : PySem.W.codeIn K cd "text_of" = true) (k1 : PySem.W.keepIn K (.ref a) = true) : DefOk K mg "text_of" f_text_of :=
  have F := fun_mk (st := s_text_of) l1 c1 k1
  ⟨a, _, s_text_of, ["reading"], ["reading"], PySem.W.mg_of X G a1, F, F.binds (ps := ["reading"]) fun _ _ _ _ _ _ us hl => match us, hl with | [_], _ => rfl, ⟨rfl, rfl, rfl, by decide +kernel, rfl, by decide +kernel, by decide +kernel⟩, rfl, rfl, by decide, by decide +kernel⟩
abbrev s_read_name : Stmt := top 22
theorem d_read_name {K : PySem.W.Frag} {h : Heap} {mg : Str → Option Value} (X : K.In h) (G : h.Ns mainGlobals mg) {a : Addr} {od an : Option Addr} {sl : Array (Option Value)} {oc kV dc pm cd ct : Value}
    (a1 : PySem.W.nsIn K mainGlobals "read_name" = some (some (.ref a))) (l1 : K.lookup a = some ⟨oc, od, .func (PySem.W.fnOf "read_name" "read_name" (defArgs s_read_name) (defBody s_read_name) (defScope s_read_name) .none kV dc pm an cd ct), sl⟩) (c1 : PySem.W.codeIn K cd "read_name" = true) (k1 : PySem.W.keepIn K (.ref a) = true) : DefOk K mg "read_name" f_read_name :=
  have F := fun_mk (st := s_read_name) l1 c1 k1
  ⟨a, _, s_read_name, ["text", "at", "spot"], ["text", "at"], PySem.W.mg_of X G a1, F, F.binds (ps := ["text", "at"]) fun _ _ _ _ _ _ us hl => match us, hl with | [_, _], _ => rfl, ⟨rfl, rfl, rfl, by decide +kernel, rfl, by decide +kernel, by decide +kernel⟩, rfl, rfl, by decide, by decide +kernel⟩
abbrev s_read_tree : Stmt := top 23
theorem d_read_tree {K : PySem.W.Frag} {h : Heap} {mg : Str → Option Value} (X : K.In h) (G : h.Ns mainGlobals mg) {a : Addr} {od an : Option Addr} {sl : Array (Option Value)} {oc kV dc pm cd ct : Value}
    (a1 : PySem.W.nsIn K mainGlobals "read_tree" = some (some (.ref a))) (l1 : K.lookup a = some ⟨oc, od, .func (PySem.W.fnOf "read_tree" "read_tree" (defArgs s_read_tree) (defBody s_read_tree) (defScope s_read_tree) .none kV dc pm an cd ct), sl⟩) (c1 : PySem.W.codeIn K cd "read_tree" = true) (k1 : PySem.W.keepIn K (.ref a) = true) : DefOk K mg "read_tree" f_read_tree :=
  have F := fun_mk (st := s_read_tree) l1 c1 k1
  ⟨a, _, s_read_tree, ["text", "at", "depth", "opened", "side", "first", "spot", "second"], ["text", "at", "depth"], PySem.W.mg_of X G a1, F, F.binds (ps := ["text", "at", "depth"]) fun _ _ _ _ _ _ us hl => match us, hl with | [_, _, _], _ => rfl, ⟨rfl, rfl, rfl, by decide +kernel, rfl, by decide +kernel, by decide +kernel⟩, rfl, rfl, by decide, by decide +kernel⟩
abbrev s_reading_in : Stmt := top 24
theorem d_reading_in {K : PySem.W.Frag} {h : Heap} {mg : Str → Option Value} (X : K.In h) (G : h.Ns mainGlobals mg) {a : Addr} {od an : Option Addr} {sl : Array (Option Value)} {oc kV dc pm cd ct : Value}
    (a1 : PySem.W.nsIn K mainGlobals "reading_in" = some (some (.ref a))) (l1 : K.lookup a = some ⟨oc, od, .func (PySem.W.fnOf "reading_in" "reading_in" (defArgs s_reading_in) (defBody s_reading_in) (defScope s_reading_in) .none kV dc pm an cd ct), sl⟩) (c1 : PySem.W.codeIn K cd "reading_in" = true) (k1 : PySem.W.keepIn K (.ref a) = true) : DefOk K mg "reading_in" f_reading_in :=
  have F := fun_mk (st := s_reading_in) l1 c1 k1
  ⟨a, _, s_reading_in, ["text", "found", "end"], ["text"], PySem.W.mg_of X G a1, F, F.binds (ps := ["text"]) fun _ _ _ _ _ _ us hl => match us, hl with | [_], _ => rfl, ⟨rfl, rfl, rfl, by decide +kernel, rfl, by decide +kernel, by decide +kernel⟩, rfl, rfl, by decide, by decide +kernel⟩
abbrev s_reading_of : Stmt := top 25
theorem d_reading_of {K : PySem.W.Frag} {h : Heap} {mg : Str → Option Value} (X : K.In h) (G : h.Ns mainGlobals mg) {a : Addr} {od an : Option Addr} {sl : Array (Option Value)} {oc kV dc pm cd ct : Value}
    (a1 : PySem.W.nsIn K mainGlobals "reading_of" = some (some (.ref a))) (l1 : K.lookup a = some ⟨oc, od, .func (PySem.W.fnOf "reading_of" "reading_of" (defArgs s_reading_of) (defBody s_reading_of) (defScope s_reading_of) .none kV dc pm an cd ct), sl⟩) (c1 : PySem.W.codeIn K cd "reading_of" = true) (k1 : PySem.W.keepIn K (.ref a) = true) : DefOk K mg "reading_of" f_reading_of :=
  have F := fun_mk (st := s_reading_of) l1 c1 k1
  ⟨a, _, s_reading_of, ["text", "found"], ["text"], PySem.W.mg_of X G a1, F, F.binds (ps := ["text"]) fun _ _ _ _ _ _ us hl => match us, hl with | [_], _ => rfl, ⟨rfl, rfl, rfl, by decide +kernel, rfl, by decide +kernel, by decide +kernel⟩, rfl, rfl, by decide, by decide +kernel⟩
abbrev s_row_of : Stmt := top 26
theorem d_row_of {K : PySem.W.Frag} {h : Heap} {mg : Str → Option Value} (X : K.In h) (G : h.Ns mainGlobals mg) {a : Addr} {od an : Option Addr} {sl : Array (Option Value)} {oc kV dc pm cd ct : Value}
    (a1 : PySem.W.nsIn K mainGlobals "row_of" = some (some (.ref a))) (l1 : K.lookup a = some ⟨oc, od, .func (PySem.W.fnOf "row_of" "row_of" (defArgs s_row_of) (defBody s_row_of) (defScope s_row_of) .none kV dc pm an cd ct), sl⟩) (c1 : PySem.W.codeIn K cd "row_of" = true) (k1 : PySem.W.keepIn K (.ref a) = true) : DefOk K mg "row_of" f_row_of :=
  have F := fun_mk (st := s_row_of) l1 c1 k1
  ⟨a, _, s_row_of, ["reading"], ["reading"], PySem.W.mg_of X G a1, F, F.binds (ps := ["reading"]) fun _ _ _ _ _ _ us hl => match us, hl with | [_], _ => rfl, ⟨rfl, rfl, rfl, by decide +kernel, rfl, by decide +kernel, by decide +kernel⟩, rfl, rfl, by decide, by decide +kernel⟩
abbrev s_parts_in : Stmt := top 27
theorem d_parts_in {K : PySem.W.Frag} {h : Heap} {mg : Str → Option Value} (X : K.In h) (G : h.Ns mainGlobals mg) {a : Addr} {od an : Option Addr} {sl : Array (Option Value)} {oc kV dc pm cd ct : Value}
    (a1 : PySem.W.nsIn K mainGlobals "parts_in" = some (some (.ref a))) (l1 : K.lookup a = some ⟨oc, od, .func (PySem.W.fnOf "parts_in" "parts_in" (defArgs s_parts_in) (defBody s_parts_in) (defScope s_parts_in) .none kV dc pm an cd ct), sl⟩) (c1 : PySem.W.codeIn K cd "parts_in" = true) (k1 : PySem.W.keepIn K (.ref a) = true) : DefOk K mg "parts_in" f_parts_in :=
  have F := fun_mk (st := s_parts_in) l1 c1 k1
  ⟨a, _, s_parts_in, ["reading"], ["reading"], PySem.W.mg_of X G a1, F, F.binds (ps := ["reading"]) fun _ _ _ _ _ _ us hl => match us, hl with | [_], _ => rfl, ⟨rfl, rfl, rfl, by decide +kernel, rfl, by decide +kernel, by decide +kernel⟩, rfl, rfl, by decide, by decide +kernel⟩
abbrev s_parts : Stmt := top 28
theorem d_parts {K : PySem.W.Frag} {h : Heap} {mg : Str → Option Value} (X : K.In h) (G : h.Ns mainGlobals mg) {a : Addr} {od an : Option Addr} {sl : Array (Option Value)} {oc kV dc pm cd ct : Value}
    (a1 : PySem.W.nsIn K mainGlobals "parts" = some (some (.ref a))) (l1 : K.lookup a = some ⟨oc, od, .func (PySem.W.fnOf "parts" "parts" (defArgs s_parts) (defBody s_parts) (defScope s_parts) .none kV dc pm an cd ct), sl⟩) (c1 : PySem.W.codeIn K cd "parts" = true) (k1 : PySem.W.keepIn K (.ref a) = true) : DefOk K mg "parts" f_parts :=
  have F := fun_mk (st := s_parts) l1 c1 k1
  ⟨a, _, s_parts, ["reading"], ["reading"], PySem.W.mg_of X G a1, F, F.binds (ps := ["reading"]) fun _ _ _ _ _ _ us hl => match us, hl with | [_], _ => rfl, ⟨rfl, rfl, rfl, by decide +kernel, rfl, by decide +kernel, by decide +kernel⟩, rfl, rfl, by decide, by decide +kernel⟩
abbrev s_turned : Stmt := top 29
theorem d_turned {K : PySem.W.Frag} {h : Heap} {mg : Str → Option Value} (X : K.In h) (G : h.Ns mainGlobals mg) {a : Addr} {od an : Option Addr} {sl : Array (Option Value)} {oc kV dc pm cd ct : Value}
    (a1 : PySem.W.nsIn K mainGlobals "turned" = some (some (.ref a))) (l1 : K.lookup a = some ⟨oc, od, .func (PySem.W.fnOf "turned" "turned" (defArgs s_turned) (defBody s_turned) (defScope s_turned) .none kV dc pm an cd ct), sl⟩) (c1 : PySem.W.codeIn K cd "turned" = true) (k1 : PySem.W.keepIn K (.ref a) = true) : DefOk K mg "turned" f_turned :=
  have F := fun_mk (st := s_turned) l1 c1 k1
  ⟨a, _, s_turned, ["reading"], ["reading"], PySem.W.mg_of X G a1, F, F.binds (ps := ["reading"]) fun _ _ _ _ _ _ us hl => match us, hl with | [_], _ => rfl, ⟨rfl, rfl, rfl, by decide +kernel, rfl, by decide +kernel, by decide +kernel⟩, rfl, rfl, by decide, by decide +kernel⟩
abbrev s_mirrored : Stmt := top 30
theorem d_mirrored {K : PySem.W.Frag} {h : Heap} {mg : Str → Option Value} (X : K.In h) (G : h.Ns mainGlobals mg) {a : Addr} {od an : Option Addr} {sl : Array (Option Value)} {oc kV dc pm cd ct : Value}
    (a1 : PySem.W.nsIn K mainGlobals "mirrored" = some (some (.ref a))) (l1 : K.lookup a = some ⟨oc, od, .func (PySem.W.fnOf "mirrored" "mirrored" (defArgs s_mirrored) (defBody s_mirrored) (defScope s_mirrored) .none kV dc pm an cd ct), sl⟩) (c1 : PySem.W.codeIn K cd "mirrored" = true) (k1 : PySem.W.keepIn K (.ref a) = true) : DefOk K mg "mirrored" f_mirrored :=
  have F := fun_mk (st := s_mirrored) l1 c1 k1
  ⟨a, _, s_mirrored, ["reading"], ["reading"], PySem.W.mg_of X G a1, F, F.binds (ps := ["reading"]) fun _ _ _ _ _ _ us hl => match us, hl with | [_], _ => rfl, ⟨rfl, rfl, rfl, by decide +kernel, rfl, by decide +kernel, by decide +kernel⟩, rfl, rfl, by decide, by decide +kernel⟩
abbrev s__law_pot : Stmt := top 32
theorem d__law_pot {K : PySem.W.Frag} {h : Heap} {mg : Str → Option Value} (X : K.In h) (G : h.Ns mainGlobals mg) {a : Addr} {od an : Option Addr} {sl : Array (Option Value)} {oc kV dc pm cd ct : Value}
    (a1 : PySem.W.nsIn K mainGlobals "_law_pot" = some (some (.ref a))) (l1 : K.lookup a = some ⟨oc, od, .func (PySem.W.fnOf "_law_pot" "_law_pot" (defArgs s__law_pot) (defBody s__law_pot) (defScope s__law_pot) .none kV dc pm an cd ct), sl⟩) (c1 : PySem.W.codeIn K cd "_law_pot" = true) (k1 : PySem.W.keepIn K (.ref a) = true) : DefOk K mg "_law_pot" f__law_pot :=
  have F := fun_mk (st := s__law_pot) l1 c1 k1
  ⟨a, _, s__law_pot, ["_law_script", "_law_place", "_law_cell", "_law_own", "_law_small"], ["_law_script", "_law_place"], PySem.W.mg_of X G a1, F, F.binds (ps := ["_law_script", "_law_place"]) fun _ _ _ _ _ _ us hl => match us, hl with | [_, _], _ => rfl, ⟨rfl, rfl, rfl, by decide +kernel, rfl, by decide +kernel, by decide +kernel⟩, rfl, rfl, by decide, by decide +kernel⟩
abbrev s__law_take : Stmt := top 33
theorem d__law_take {K : PySem.W.Frag} {h : Heap} {mg : Str → Option Value} (X : K.In h) (G : h.Ns mainGlobals mg) {a : Addr} {od an : Option Addr} {sl : Array (Option Value)} {oc kV dc pm cd ct : Value}
    (a1 : PySem.W.nsIn K mainGlobals "_law_take" = some (some (.ref a))) (l1 : K.lookup a = some ⟨oc, od, .func (PySem.W.fnOf "_law_take" "_law_take" (defArgs s__law_take) (defBody s__law_take) (defScope s__law_take) .none kV dc pm an cd ct), sl⟩) (c1 : PySem.W.codeIn K cd "_law_take" = true) (k1 : PySem.W.keepIn K (.ref a) = true) : DefOk K mg "_law_take" f__law_take :=
  have F := fun_mk (st := s__law_take) l1 c1 k1
  ⟨a, _, s__law_take, ["_law_pot_here", "_law_upto", "_law_digit", "_law_prime", "_law_mixed"], ["_law_pot_here", "_law_upto"], PySem.W.mg_of X G a1, F, F.binds (ps := ["_law_pot_here", "_law_upto"]) fun _ _ _ _ _ _ us hl => match us, hl with | [_, _], _ => rfl, ⟨rfl, rfl, rfl, by decide +kernel, rfl, by decide +kernel, by decide +kernel⟩, rfl, rfl, by decide, by decide +kernel⟩
abbrev s__law_of : Stmt := top 34
theorem d__law_of {K : PySem.W.Frag} {h : Heap} {mg : Str → Option Value} (X : K.In h) (G : h.Ns mainGlobals mg) {a : Addr} {od an : Option Addr} {sl : Array (Option Value)} {oc kV dc pm cd ct : Value}
    (a1 : PySem.W.nsIn K mainGlobals "_law_of" = some (some (.ref a))) (l1 : K.lookup a = some ⟨oc, od, .func (PySem.W.fnOf "_law_of" "_law_of" (defArgs s__law_of) (defBody s__law_of) (defScope s__law_of) .none kV dc pm an cd ct), sl⟩) (c1 : PySem.W.codeIn K cd "_law_of" = true) (k1 : PySem.W.keepIn K (.ref a) = true) : DefOk K mg "_law_of" f__law_of :=
  have F := fun_mk (st := s__law_of) l1 c1 k1
  ⟨a, _, s__law_of, ["_law_pot_here", "_law_some_here"], ["_law_pot_here", "_law_some_here"], PySem.W.mg_of X G a1, F, F.binds (ps := ["_law_pot_here", "_law_some_here"]) fun _ _ _ _ _ _ us hl => match us, hl with | [_, _], _ => rfl, ⟨rfl, rfl, rfl, by decide +kernel, rfl, by decide +kernel, by decide +kernel⟩, rfl, rfl, by decide, by decide +kernel⟩
abbrev s__law_some : Stmt := top 35
theorem d__law_some {K : PySem.W.Frag} {h : Heap} {mg : Str → Option Value} (X : K.In h) (G : h.Ns mainGlobals mg) {a : Addr} {od an : Option Addr} {sl : Array (Option Value)} {oc kV dc pm cd ct : Value}
    (a1 : PySem.W.nsIn K mainGlobals "_law_some" = some (some (.ref a))) (l1 : K.lookup a = some ⟨oc, od, .func (PySem.W.fnOf "_law_some" "_law_some" (defArgs s__law_some) (defBody s__law_some) (defScope s__law_some) .none kV dc pm an cd ct), sl⟩) (c1 : PySem.W.codeIn K cd "_law_some" = true) (k1 : PySem.W.keepIn K (.ref a) = true) : DefOk K mg "_law_some" f__law_some :=
  have F := fun_mk (st := s__law_some) l1 c1 k1
  ⟨a, _, s__law_some, ["_law_pot_here", "_law_pool", "_law_many", "_law_rest", "_law_found", "_law_lap"], ["_law_pot_here", "_law_pool", "_law_many"], PySem.W.mg_of X G a1, F, F.binds (ps := ["_law_pot_here", "_law_pool", "_law_many"]) fun _ _ _ _ _ _ us hl => match us, hl with | [_, _, _], _ => rfl, ⟨rfl, rfl, rfl, by decide +kernel, rfl, by decide +kernel, by decide +kernel⟩, rfl, rfl, by decide, by decide +kernel⟩
abbrev s__law_cells : Stmt := top 36
theorem d__law_cells {K : PySem.W.Frag} {h : Heap} {mg : Str → Option Value} (X : K.In h) (G : h.Ns mainGlobals mg) {a : Addr} {od an : Option Addr} {sl : Array (Option Value)} {oc kV dc pm cd ct : Value}
    (a1 : PySem.W.nsIn K mainGlobals "_law_cells" = some (some (.ref a))) (l1 : K.lookup a = some ⟨oc, od, .func (PySem.W.fnOf "_law_cells" "_law_cells" (defArgs s__law_cells) (defBody s__law_cells) (defScope s__law_cells) .none kV dc pm an cd ct), sl⟩) (c1 : PySem.W.codeIn K cd "_law_cells" = true) (k1 : PySem.W.keepIn K (.ref a) = true) : DefOk K mg "_law_cells" f__law_cells :=
  have F := fun_mk (st := s__law_cells) l1 c1 k1
  ⟨a, _, s__law_cells, ["_law_script", "_law_most"], ["_law_script", "_law_most"], PySem.W.mg_of X G a1, F, F.binds (ps := ["_law_script", "_law_most"]) fun _ _ _ _ _ _ us hl => match us, hl with | [_, _], _ => rfl, ⟨rfl, rfl, rfl, by decide +kernel, rfl, by decide +kernel, by decide +kernel⟩, rfl, rfl, by decide, by decide +kernel⟩
abbrev s__law_ends : Stmt := top 37
theorem d__law_ends {K : PySem.W.Frag} {h : Heap} {mg : Str → Option Value} (X : K.In h) (G : h.Ns mainGlobals mg) {a : Addr} {od an : Option Addr} {sl : Array (Option Value)} {oc kV dc pm cd ct : Value}
    (a1 : PySem.W.nsIn K mainGlobals "_law_ends" = some (some (.ref a))) (l1 : K.lookup a = some ⟨oc, od, .func (PySem.W.fnOf "_law_ends" "_law_ends" (defArgs s__law_ends) (defBody s__law_ends) (defScope s__law_ends) .none kV dc pm an cd ct), sl⟩) (c1 : PySem.W.codeIn K cd "_law_ends" = true) (k1 : PySem.W.keepIn K (.ref a) = true) : DefOk K mg "_law_ends" f__law_ends :=
  have F := fun_mk (st := s__law_ends) l1 c1 k1
  ⟨a, _, s__law_ends, ["_law_reading"], ["_law_reading"], PySem.W.mg_of X G a1, F, F.binds (ps := ["_law_reading"]) fun _ _ _ _ _ _ us hl => match us, hl with | [_], _ => rfl, ⟨rfl, rfl, rfl, by decide +kernel, rfl, by decide +kernel, by decide +kernel⟩, rfl, rfl, by decide, by decide +kernel⟩
abbrev s__law_spelled : Stmt := top 38
theorem d__law_spelled {K : PySem.W.Frag} {h : Heap} {mg : Str → Option Value} (X : K.In h) (G : h.Ns mainGlobals mg) {a : Addr} {od an : Option Addr} {sl : Array (Option Value)} {oc kV dc pm cd ct : Value}
    (a1 : PySem.W.nsIn K mainGlobals "_law_spelled" = some (some (.ref a))) (l1 : K.lookup a = some ⟨oc, od, .func (PySem.W.fnOf "_law_spelled" "_law_spelled" (defArgs s__law_spelled) (defBody s__law_spelled) (defScope s__law_spelled) .none kV dc pm an cd ct), sl⟩) (c1 : PySem.W.codeIn K cd "_law_spelled" = true) (k1 : PySem.W.keepIn K (.ref a) = true) : DefOk K mg "_law_spelled" f__law_spelled :=
  have F := fun_mk (st := s__law_spelled) l1 c1 k1
  ⟨a, _, s__law_spelled, ["_law_reading", "_law_marks"], ["_law_reading"], PySem.W.mg_of X G a1, F, F.binds (ps := ["_law_reading"]) fun _ _ _ _ _ _ us hl => match us, hl with | [_], _ => rfl, ⟨rfl, rfl, rfl, by decide +kernel, rfl, by decide +kernel, by decide +kernel⟩, rfl, rfl, by decide, by decide +kernel⟩
abbrev s__law_parts : Stmt := top 39
theorem d__law_parts {K : PySem.W.Frag} {h : Heap} {mg : Str → Option Value} (X : K.In h) (G : h.Ns mainGlobals mg) {a : Addr} {od an : Option Addr} {sl : Array (Option Value)} {oc kV dc pm cd ct : Value}
    (a1 : PySem.W.nsIn K mainGlobals "_law_parts" = some (some (.ref a))) (l1 : K.lookup a = some ⟨oc, od, .func (PySem.W.fnOf "_law_parts" "_law_parts" (defArgs s__law_parts) (defBody s__law_parts) (defScope s__law_parts) .none kV dc pm an cd ct), sl⟩) (c1 : PySem.W.codeIn K cd "_law_parts" = true) (k1 : PySem.W.keepIn K (.ref a) = true) : DefOk K mg "_law_parts" f__law_parts :=
  have F := fun_mk (st := s__law_parts) l1 c1 k1
  ⟨a, _, s__law_parts, ["_law_reading"], ["_law_reading"], PySem.W.mg_of X G a1, F, F.binds (ps := ["_law_reading"]) fun _ _ _ _ _ _ us hl => match us, hl with | [_], _ => rfl, ⟨rfl, rfl, rfl, by decide +kernel, rfl, by decide +kernel, by decide +kernel⟩, rfl, rfl, by decide, by decide +kernel⟩
abbrev s__law_words : Stmt := top 40
theorem d__law_words {K : PySem.W.Frag} {h : Heap} {mg : Str → Option Value} (X : K.In h) (G : h.Ns mainGlobals mg) {a : Addr} {od an : Option Addr} {sl : Array (Option Value)} {oc kV dc pm cd ct : Value}
    (a1 : PySem.W.nsIn K mainGlobals "_law_words" = some (some (.ref a))) (l1 : K.lookup a = some ⟨oc, od, .func (PySem.W.fnOf "_law_words" "_law_words" (defArgs s__law_words) (defBody s__law_words) (defScope s__law_words) .none kV dc pm an cd ct), sl⟩) (c1 : PySem.W.codeIn K cd "_law_words" = true) (k1 : PySem.W.keepIn K (.ref a) = true) : DefOk K mg "_law_words" f__law_words :=
  have F := fun_mk (st := s__law_words) l1 c1 k1
  ⟨a, _, s__law_words, ["_law_pot_here", "_law_few", "_law_most", "_law_pool"], ["_law_pot_here", "_law_few", "_law_most"], PySem.W.mg_of X G a1, F, F.binds (ps := ["_law_pot_here", "_law_few", "_law_most"]) fun _ _ _ _ _ _ us hl => match us, hl with | [_, _, _], _ => rfl, ⟨rfl, rfl, rfl, by decide +kernel, rfl, by decide +kernel, by decide +kernel⟩, rfl, rfl, by decide, by decide +kernel⟩
abbrev s__law_tree : Stmt := top 41
theorem d__law_tree {K : PySem.W.Frag} {h : Heap} {mg : Str → Option Value} (X : K.In h) (G : h.Ns mainGlobals mg) {a : Addr} {od an : Option Addr} {sl : Array (Option Value)} {oc kV dc pm cd ct : Value}
    (a1 : PySem.W.nsIn K mainGlobals "_law_tree" = some (some (.ref a))) (l1 : K.lookup a = some ⟨oc, od, .func (PySem.W.fnOf "_law_tree" "_law_tree" (defArgs s__law_tree) (defBody s__law_tree) (defScope s__law_tree) .none kV dc pm an cd ct), sl⟩) (c1 : PySem.W.codeIn K cd "_law_tree" = true) (k1 : PySem.W.keepIn K (.ref a) = true) : DefOk K mg "_law_tree" f__law_tree :=
  have F := fun_mk (st := s__law_tree) l1 c1 k1
  ⟨a, _, s__law_tree, ["_law_pot_here", "_law_words_here", "_law_ends_here", "_law_cut", "_law_side"], ["_law_pot_here", "_law_words_here", "_law_ends_here"], PySem.W.mg_of X G a1, F, F.binds (ps := ["_law_pot_here", "_law_words_here", "_law_ends_here"]) fun _ _ _ _ _ _ us hl => match us, hl with | [_, _, _], _ => rfl, ⟨rfl, rfl, rfl, by decide +kernel, rfl, by decide +kernel, by decide +kernel⟩, rfl, rfl, by decide, by decide +kernel⟩
abbrev s__law_mirrored : Stmt := top 42
theorem d__law_mirrored {K : PySem.W.Frag} {h : Heap} {mg : Str → Option Value} (X : K.In h) (G : h.Ns mainGlobals mg) {a : Addr} {od an : Option Addr} {sl : Array (Option Value)} {oc kV dc pm cd ct : Value}
    (a1 : PySem.W.nsIn K mainGlobals "_law_mirrored" = some (some (.ref a))) (l1 : K.lookup a = some ⟨oc, od, .func (PySem.W.fnOf "_law_mirrored" "_law_mirrored" (defArgs s__law_mirrored) (defBody s__law_mirrored) (defScope s__law_mirrored) .none kV dc pm an cd ct), sl⟩) (c1 : PySem.W.codeIn K cd "_law_mirrored" = true) (k1 : PySem.W.keepIn K (.ref a) = true) : DefOk K mg "_law_mirrored" f__law_mirrored :=
  have F := fun_mk (st := s__law_mirrored) l1 c1 k1
  ⟨a, _, s__law_mirrored, ["_law_reading"], ["_law_reading"], PySem.W.mg_of X G a1, F, F.binds (ps := ["_law_reading"]) fun _ _ _ _ _ _ us hl => match us, hl with | [_], _ => rfl, ⟨rfl, rfl, rfl, by decide +kernel, rfl, by decide +kernel, by decide +kernel⟩, rfl, rfl, by decide, by decide +kernel⟩
abbrev s__law_is_right : Stmt := top 43
theorem d__law_is_right {K : PySem.W.Frag} {h : Heap} {mg : Str → Option Value} (X : K.In h) (G : h.Ns mainGlobals mg) {a : Addr} {od an : Option Addr} {sl : Array (Option Value)} {oc kV dc pm cd ct : Value}
    (a1 : PySem.W.nsIn K mainGlobals "_law_is_right" = some (some (.ref a))) (l1 : K.lookup a = some ⟨oc, od, .func (PySem.W.fnOf "_law_is_right" "_law_is_right" (defArgs s__law_is_right) (defBody s__law_is_right) (defScope s__law_is_right) .none kV dc pm an cd ct), sl⟩) (c1 : PySem.W.codeIn K cd "_law_is_right" = true) (k1 : PySem.W.keepIn K (.ref a) = true) : DefOk K mg "_law_is_right" f__law_is_right :=
  have F := fun_mk (st := s__law_is_right) l1 c1 k1
  ⟨a, _, s__law_is_right, ["_law_reading", "_law_mine", "_law_told", "_law_other", "_law_its", "_law_part"], ["_law_reading"], PySem.W.mg_of X G a1, F, F.binds (ps := ["_law_reading"]) fun _ _ _ _ _ _ us hl => match us, hl with | [_], _ => rfl, ⟨rfl, rfl, rfl, by decide +kernel, rfl, by decide +kernel, by decide +kernel⟩, rfl, rfl, by decide, by decide +kernel⟩
abbrev s__law_right : Stmt := top 44
theorem d__law_right {K : PySem.W.Frag} {h : Heap} {mg : Str → Option Value} (X : K.In h) (G : h.Ns mainGlobals mg) {a : Addr} {od an : Option Addr} {sl : Array (Option Value)} {oc kV dc pm cd ct : Value}
    (a1 : PySem.W.nsIn K mainGlobals "_law_right" = some (some (.ref a))) (l1 : K.lookup a = some ⟨oc, od, .func (PySem.W.fnOf "_law_right" "_law_right" (defArgs s__law_right) (defBody s__law_right) (defScope s__law_right) .none kV dc pm an cd ct), sl⟩) (c1 : PySem.W.codeIn K cd "_law_right" = true) (k1 : PySem.W.keepIn K (.ref a) = true) : DefOk K mg "_law_right" f__law_right :=
  have F := fun_mk (st := s__law_right) l1 c1 k1
  ⟨a, _, s__law_right, ["_law_pot_here", "_law_words_here", "_law_lap"], ["_law_pot_here"], PySem.W.mg_of X G a1, F, F.binds (ps := ["_law_pot_here"]) fun _ _ _ _ _ _ us hl => match us, hl with | [_], _ => rfl, ⟨rfl, rfl, rfl, by decide +kernel, rfl, by decide +kernel, by decide +kernel⟩, rfl, rfl, by decide, by decide +kernel⟩
abbrev s_law : Stmt := top 45
theorem d_law {K : PySem.W.Frag} {h : Heap} {mg : Str → Option Value} (X : K.In h) (G : h.Ns mainGlobals mg) {a : Addr} {od an : Option Addr} {sl : Array (Option Value)} {oc kV dc pm cd ct : Value}
    (a1 : PySem.W.nsIn K mainGlobals "law" = some (some (.ref a))) (l1 : K.lookup a = some ⟨oc, od, .func (PySem.W.fnOf "law" "law" (defArgs s_law) (defBody s_law) (defScope s_law) .none kV dc pm an cd ct), sl⟩) (c1 : PySem.W.codeIn K cd "law" = true) (k1 : PySem.W.keepIn K (.ref a) = true) : DefOk K mg "law" f_law :=
  have F := fun_mk (st := s_law) l1 c1 k1
  ⟨a, _, s_law, ["_law_script", "_law_place"], ["_law_script"], PySem.W.mg_of X G a1, F, F.binds (ps := ["_law_script"]) fun _ _ _ _ _ _ us hl => match us, hl with | [_], _ => rfl, ⟨rfl, rfl, rfl, by decide +kernel, rfl, by decide +kernel, by decide +kernel⟩, rfl, rfl, by decide, by decide +kernel⟩
end K01

set_option maxRecDepth 100000
set_option maxHeartbeats 4000000
namespace K01
open PyEv PySem
inductive Tr where
  | leaf (s : Str) | node (r : Bool) (a b : Tr)
def side (r : Bool) : Str := if r then "right" else "left"
def Tr.D : Tr → D
  | .leaf s => .str s
  | .node r a b => .tup [.str (side r), a.D, b.D]
def Tr.ends : Tr → List Str
  | .leaf s => [s]
  | .node _ a b => a.ends ++ b.ends
def Tr.depth : Tr → Nat
  | .leaf _ => 0
  | .node _ a b => max a.depth b.depth + 1
theorem ends_of : ∀ (t : Tr) (n : Nat), t.depth < n → t.ends.length ≤ 100 → Ret P n "ends_of" [.d t.D] (.lst (t.ends.map D.str))
  | .leaf s, n + 1, h, _ => by
    refine ret_of lk_ends_of rfl ?_
    simp [evSs, evS, evE, evIts, evAs, evIt, Res.bind, Res.fl, Res.of, Fl.then, use, useB, item, take, slot0, slot1, slot2, slot3, slot4, slot5, slot6, slot7, nxO, store, assignTg, Fl.val, D.isTy, W.frz, callA, bindA, backA, ixF, C.d, L2.atI, L2.ixN, binF, biF, cmpF, eqF_str, eqF_int, D.isNon, line, E.isNone, partB, Option.bind, f_ends_of, b_ends_of, Tr.D, Tr.ends]
  | .node r a b, n + 1, h, hl => by
    simp only [Tr.depth, Tr.ends, List.length_append] at h hl
    obtain ⟨o1, h1⟩ := ends_of a n (by omega) (by omega)
    obtain ⟨o2, h2⟩ := ends_of b n (by omega) (by omega)
    refine ret_of lk_ends_of rfl ?_
    have hz : a.ends.length + b.ends.length ≤ 16777216 := by omega
    simp [evSs, evS, evE, evIts, evAs, evIt, Res.bind, Res.fl, Res.of, Fl.then, use, useB, item, take, slot0, slot1, slot2, slot3, slot4, slot5, slot6, slot7, nxO, store, assignTg, Fl.val, D.isTy, W.frz, callA, bindA, backA, ixF, C.d, L2.atI, L2.ixN, binF, biF, cmpF, eqF_str, eqF_int, D.isNon, line, E.isNone, partB, Option.bind, f_ends_of, b_ends_of, Tr.D, Tr.ends, lk_ends_of, h1, h2, hz]
theorem law_ends : ∀ (t : Tr) (n : Nat), t.depth < n → t.ends.length ≤ 100 → Ret P n "_law_ends" [.d t.D] (.lst (t.ends.map D.str))
  | .leaf s, n + 1, h, _ => by
    refine ret_of lk__law_ends rfl ?_
    simp [evSs, evS, evE, evIts, evAs, evIt, Res.bind, Res.fl, Res.of, Fl.then, use, useB, item, take, slot0, slot1, slot2, slot3, slot4, slot5, slot6, slot7, nxO, store, assignTg, Fl.val, D.isTy, W.frz, callA, bindA, backA, ixF, C.d, L2.atI, L2.ixN, binF, biF, cmpF, eqF_str, eqF_int, D.isNon, line, E.isNone, partB, Option.bind, f__law_ends, b__law_ends, Tr.D, Tr.ends]
  | .node r a b, n + 1, h, hl => by
    simp only [Tr.depth, Tr.ends, List.length_append] at h hl
    obtain ⟨o1, h1⟩ := law_ends a n (by omega) (by omega)
    obtain ⟨o2, h2⟩ := law_ends b n (by omega) (by omega)
    refine ret_of lk__law_ends rfl ?_
    have hz : a.ends.length + b.ends.length ≤ 16777216 := by omega
    simp [evSs, evS, evE, evIts, evAs, evIt, Res.bind, Res.fl, Res.of, Fl.then, use, useB, item, take, slot0, slot1, slot2, slot3, slot4, slot5, slot6, slot7, nxO, store, assignTg, Fl.val, D.isTy, W.frz, callA, bindA, backA, ixF, C.d, L2.atI, L2.ixN, binF, biF, cmpF, eqF_str, eqF_int, D.isNon, line, E.isNone, partB, Option.bind, f__law_ends, b__law_ends, Tr.D, Tr.ends, lk__law_ends, h1, h2, hz]
def Tr.mir : Tr → Tr
  | .leaf s => .leaf s
  | .node r a b => .node (!r) b.mir a.mir
theorem side_look {r : Bool} : ([(("right" : Str), D.str "left"), ("left", D.str "right")]).lookup (side r) = some (.str (side (!r))) := by cases r <;> rfl
theorem turned : ∀ (t : Tr) (n : Nat), t.depth < n → Ret P n "turned" [.d t.D] (.d t.mir.D)
  | .leaf s, n + 1, h => by
    refine ret_of lk_turned rfl ?_
    simp [evSs, evS, evE, evIts, evAs, evIt, Res.bind, Res.fl, Res.of, Fl.then, use, useB, item, take, slot0, slot1, slot2, slot3, slot4, slot5, slot6, slot7, nxO, store, assignTg, Fl.val, D.isTy, W.frz, callA, bindA, backA, ixF, C.d, L2.atI, L2.ixN, binF, biF, cmpF, eqF_str, eqF_int, D.isNon, line, E.isNone, partB, Option.bind, f_turned, b_turned, Tr.D, Tr.mir]
  | .node r a b, n + 1, h => by
    simp only [Tr.depth] at h
    obtain ⟨o1, h1⟩ := turned a n (by omega)
    obtain ⟨o2, h2⟩ := turned b n (by omega)
    refine ret_of lk_turned rfl ?_
    simp [evSs, evS, evE, evIts, evAs, evIt, Res.bind, Res.fl, Res.of, Fl.then, use, useB, item, take, slot0, slot1, slot2, slot3, slot4, slot5, slot6, slot7, nxO, store, assignTg, Fl.val, D.isTy, W.frz, callA, bindA, backA, ixF, C.d, L2.atI, L2.ixN, binF, biF, cmpF, eqF_str, eqF_int, D.isNon, line, E.isNone, partB, Option.bind, f_turned, b_turned, Tr.D, Tr.mir, lk_turned, gl_OTHER_SIDE, h1, h2, side_look]
end K01
namespace K01
open PyEv PySem
def pool : List Str := ["ann", "bob", "sees", "s", "row", "not", "like", "is", "a", "zzzzzzzz", "b", "words", "right", "tells"]
def Tr.good (t : Tr) : Prop := ∀ s ∈ t.ends, s ∈ pool
theorem good_node {r : Bool} {a b : Tr} (h : (Tr.node r a b).good) : a.good ∧ b.good := ⟨fun s hs => h s (List.mem_append_left _ hs), fun s hs => h s (List.mem_append_right _ hs)⟩
theorem depth_lt : ∀ (t : Tr), t.depth < t.ends.length
  | .leaf _ => Nat.lt_succ_self 0
  | .node _ a b => by
    have := depth_lt a; have := depth_lt b
    simp only [Tr.depth, Tr.ends, List.length_append]; omega
def letter (c : Nat) : Prop := 97 ≤ c ∧ c ≤ 122
instance : DecidablePred letter := fun c => inferInstanceAs (Decidable (97 ≤ c ∧ c ≤ 122))
def letters : Str := "abcdefghijklmnopqrstuvwxyz"
theorem in_all : ∀ c, c < 128 → (!(PySem.Builtin.Str.occurrences letters ⟨#[c]⟩ 0 letters.length 1).isEmpty) = decide (letter c) := by
  have h : (List.range 128).all (fun c => (!(PySem.Builtin.Str.occurrences letters ⟨#[c]⟩ 0 letters.length 1).isEmpty) == decide (letter c)) = true := by decide +kernel
  intro c hc
  have := List.all_eq_true.mp h c (List.mem_range.mpr hc)
  exact beq_iff_eq.mp this
theorem isin_sign {c : Nat} (hc : c < 128) : isinF (.str ⟨#[c]⟩) (.str "abcdefghijklmnopqrstuvwxyz") = some (decide (letter c)) := by
  show some _ = _
  rw [← in_all c hc]
  rfl
theorem is_name_w {cs : List Nat} {n : Nat} (h1 : 1 ≤ cs.length) (h8 : cs.length ≤ 8) (h : ∀ c ∈ cs, letter c) : Ret P (n + 1) "is_name" [.d (.str ⟨cs.toArray⟩)] (.d (.bl true)) := by
  obtain ⟨env', e, o', rfl⟩ := lcL_map (keep := [0]) (tg := .one 1) (own := [("sign", 1)]) (ct := fun env => .ok true env) (ce := fun env => (evE P (callF P n) [0] (.cmp .isin (.var 1) (.glob "LETTERS")) env).bind item) (fun _ => .bl true) (fun env => ∃ o, env = [some (.d (.str ⟨cs.toArray⟩)), o])
    (cs.map fun c => .str ⟨#[c]⟩) [] [some (.d (.str ⟨cs.toArray⟩)), none] (by
      rintro x hx env ⟨o, rfl⟩
      obtain ⟨c, hc, rfl⟩ := List.mem_map.mp hx
      have hd := h c hc
      have hi := isin_sign (c := c) (by unfold letter at hd; omega)
      rw [decide_eq_true hd] at hi
      refine ⟨[some (.d (.str ⟨cs.toArray⟩)), some (.d (.str ⟨#[c]⟩))], _, [some (.d (.str ⟨cs.toArray⟩)), some (.d (.str ⟨#[c]⟩))], ?_, rfl, ?_, _, rfl⟩
      · simp [evSs, evS, evE, evIts, evAs, evIt, Res.bind, Res.fl, Res.of, Fl.then, use, useB, item, take, slot0, slot1, slot2, slot3, slot4, slot5, slot6, slot7, nxO, store, assignTg, Fl.val, D.isTy, W.frz, callA, bindA, backA, ixF, C.d, L2.atI, L2.ixN, binF, biF, cmpF, eqF_str, eqF_int, D.isNon, line, E.isNone, partB, Option.bind, wipeE]
      · simp [evSs, evS, evE, evIts, evAs, evIt, Res.bind, Res.fl, Res.of, Fl.then, use, useB, item, take, slot0, slot1, slot2, slot3, slot4, slot5, slot6, slot7, nxO, store, assignTg, Fl.val, D.isTy, W.frz, callA, bindA, backA, ixF, C.d, L2.atI, L2.ixN, binF, biF, cmpF, eqF_str, eqF_int, D.isNon, line, E.isNone, partB, Option.bind, gl_LETTERS, hi]) ⟨none, rfl⟩ (by simp [line]; omega)
  simp only [List.nil_append] at e
  have hb : ∀ l : List Nat, allBl (l.map ((fun _ => D.bl true) ∘ fun c => D.str ⟨#[c]⟩)) = some (l.map fun _ => true) := fun l => by
    induction l with
    | nil => rfl
    | cons c l ih => simp only [List.map_cons, Function.comp, allBl] at ih ⊢; rw [ih]; rfl
  have hlc : evE P (callF P n) [0] lc_is_name_0 [some (.d (.str ⟨cs.toArray⟩)), none] = .ok (.val (.lst ((cs.map fun c => D.str ⟨#[c]⟩).map fun _ => D.bl true))) [some (.d (.str ⟨cs.toArray⟩)), none] := by
    have e1 : evIt P (callF P n) [0] (.seq (.var 0)) [some (.d (.str ⟨cs.toArray⟩)), none] = .ok (cs.map fun c => .str ⟨#[c]⟩) [some (.d (.str ⟨cs.toArray⟩)), none] := by simp [evSs, evS, evE, evIts, evAs, evIt, Res.bind, Res.fl, Res.of, Fl.then, use, useB, item, take, slot0, slot1, slot2, slot3, slot4, slot5, slot6, slot7, nxO, store, assignTg, Fl.val, D.isTy, W.frz, callA, bindA, backA, ixF, C.d, L2.atI, L2.ixN, binF, biF, cmpF, eqF_str, eqF_int, D.isNon, line, E.isNone, partB, Option.bind, itemsF]
    simp only [lc_is_name_0, evE, e1, Res.bind, E.isNone]
    simp only [if_true]
    rw [show (fun env => (evE P (callF P n) [0] (.cmp .isin (.var 1) (.glob "LETTERS")) env).bind item) = _ from rfl] at e
    erw [e]
    rfl
  refine ret_of lk_is_name rfl ?_
  have hl : (Str.length ⟨cs.toArray⟩) = cs.length := by simp [Str.length]
  have hz : cs.length ≤ 16777216 := by omega
  have hc1 : (1 : Int) ≤ (cs.length : Int) := by omega
  have hc8 : (cs.length : Int) ≤ 8 := by omega
  simp [evSs, evS, evE, evIts, evAs, evIt, Res.bind, Res.fl, Res.of, Fl.then, use, useB, item, take, slot0, slot1, slot2, slot3, slot4, slot5, slot6, slot7, nxO, store, assignTg, Fl.val, D.isTy, W.frz, callA, bindA, backA, ixF, C.d, L2.atI, L2.ixN, binF, biF, cmpF, eqF_str, eqF_int, D.isNon, line, E.isNone, partB, Option.bind, f_is_name, b_is_name, gl_LONGEST_NAME, hl, hz, hlc, hb, hc1, hc8]
theorem pool_w : ∀ s ∈ pool, ∃ cs : List Nat, s = ⟨cs.toArray⟩ ∧ 1 ≤ cs.length ∧ cs.length ≤ 8 ∧ ∀ c ∈ cs, letter c := by
  intro s hs
  refine ⟨s.cps.toList, rfl, ?_⟩
  have h : pool.all (fun s => decide (1 ≤ s.cps.toList.length ∧ s.cps.toList.length ≤ 8 ∧ ∀ c ∈ s.cps.toList, letter c)) = true := by decide +kernel
  exact of_decide_eq_true (List.all_eq_true.mp h s hs)
theorem is_name_pool : ∀ s ∈ pool, ∀ n, Ret P (n + 1) "is_name" [.d (.str s)] (.d (.bl true)) := by
  intro s hs n
  obtain ⟨cs, rfl, h1, h8, h⟩ := pool_w s hs
  exact is_name_w h1 h8 h
theorem is_name_tup {l : List D} {n : Nat} : Ret P (n + 1) "is_name" [.d (.tup l)] (.d (.bl false)) := by
  refine ret_of lk_is_name rfl ?_
  simp [evSs, evS, evE, evIts, evAs, evIt, Res.bind, Res.fl, Res.of, Fl.then, use, useB, item, take, slot0, slot1, slot2, slot3, slot4, slot5, slot6, slot7, nxO, store, assignTg, Fl.val, D.isTy, W.frz, callA, bindA, backA, ixF, C.d, L2.atI, L2.ixN, binF, biF, cmpF, eqF_str, eqF_int, D.isNon, line, E.isNone, partB, Option.bind, f_is_name, b_is_name]
theorem side_in {r : Bool} : ([("right" : Str), "left"]).contains (side r) = true := by cases r <;> rfl
theorem is_threefold {r : Bool} {a b : D} {n : Nat} : Ret P (n + 1) "is_threefold" [.d (.tup [.str (side r), a, b])] (.d (.bl true)) := by
  refine ret_of lk_is_threefold rfl ?_
  simp [evSs, evS, evE, evIts, evAs, evIt, Res.bind, Res.fl, Res.of, Fl.then, use, useB, item, take, slot0, slot1, slot2, slot3, slot4, slot5, slot6, slot7, nxO, store, assignTg, Fl.val, D.isTy, W.frz, callA, bindA, backA, ixF, C.d, L2.atI, L2.ixN, binF, biF, cmpF, eqF_str, eqF_int, D.isNon, line, E.isNone, partB, Option.bind, f_is_threefold, b_is_threefold, gl_OTHER_SIDE, isinF]
  cases r <;> simp [side]
theorem is_tree : ∀ (t : Tr) (n : Nat), t.depth + 1 < n → t.good → Ret P n "is_tree" [.d t.D] (.d (.bl true))
  | .leaf s, n + 2, h, g => by
    obtain ⟨o1, h1⟩ := is_name_pool s (g s List.mem_cons_self) n
    refine ret_of lk_is_tree rfl ?_
    simp [evSs, evS, evE, evIts, evAs, evIt, Res.bind, Res.fl, Res.of, Fl.then, use, useB, item, take, slot0, slot1, slot2, slot3, slot4, slot5, slot6, slot7, nxO, store, assignTg, Fl.val, D.isTy, W.frz, callA, bindA, backA, ixF, C.d, L2.atI, L2.ixN, binF, biF, cmpF, eqF_str, eqF_int, D.isNon, line, E.isNone, partB, Option.bind, f_is_tree, b_is_tree, Tr.D, lk_is_name, h1]
  | .node r a b, n + 2, h, g => by
    simp only [Tr.depth] at h
    obtain ⟨o1, h1⟩ := is_tree a (n + 1) (by omega) (good_node g).1
    obtain ⟨o2, h2⟩ := is_tree b (n + 1) (by omega) (good_node g).2
    obtain ⟨o3, h3⟩ := is_name_tup (l := [.str (side r), a.D, b.D]) (n := n)
    obtain ⟨o4, h4⟩ := is_threefold (r := r) (a := a.D) (b := b.D) (n := n)
    refine ret_of lk_is_tree rfl ?_
    simp [evSs, evS, evE, evIts, evAs, evIt, Res.bind, Res.fl, Res.of, Fl.then, use, useB, item, take, slot0, slot1, slot2, slot3, slot4, slot5, slot6, slot7, nxO, store, assignTg, Fl.val, D.isTy, W.frz, callA, bindA, backA, ixF, C.d, L2.atI, L2.ixN, binF, biF, cmpF, eqF_str, eqF_int, D.isNon, line, E.isNone, partB, Option.bind, f_is_tree, b_is_tree, Tr.D, lk_is_name, lk_is_tree, lk_is_threefold, h1, h2, h3, h4]
theorem is_reading (t : Tr) (n : Nat) (g : t.good) (hl : t.ends.length ≤ 6) : Ret P (n + 9) "is_reading" [.d t.D] (.d (.bl true)) := by
  have hd := depth_lt t
  obtain ⟨o1, h1⟩ := is_tree t (n + 8) (by omega) g
  obtain ⟨o2, h2⟩ := ends_of t (n + 8) (by omega) (by omega)
  refine ret_of lk_is_reading rfl ?_
  simp [evSs, evS, evE, evIts, evAs, evIt, Res.bind, Res.fl, Res.of, Fl.then, use, useB, item, take, slot0, slot1, slot2, slot3, slot4, slot5, slot6, slot7, nxO, store, assignTg, Fl.val, D.isTy, W.frz, callA, bindA, backA, ixF, C.d, L2.atI, L2.ixN, binF, biF, cmpF, eqF_str, eqF_int, D.isNon, line, E.isNone, partB, Option.bind, f_is_reading, b_is_reading, lk_is_tree, lk_ends_of, h1, h2, gl_MOST_ENDS]
  omega
theorem check_reading (t : Tr) (n : Nat) (g : t.good) (hl : t.ends.length ≤ 6) : Ret P (n + 10) "check_reading" [.d t.D] (.d .non) := by
  obtain ⟨o1, h1⟩ := is_reading t n g hl
  refine ret_of lk_check_reading rfl ?_
  simp [evSs, evS, evE, evIts, evAs, evIt, Res.bind, Res.fl, Res.of, Fl.then, use, useB, item, take, slot0, slot1, slot2, slot3, slot4, slot5, slot6, slot7, nxO, store, assignTg, Fl.val, D.isTy, W.frz, callA, bindA, backA, ixF, C.d, L2.atI, L2.ixN, binF, biF, cmpF, eqF_str, eqF_int, D.isNon, line, E.isNone, partB, Option.bind, f_check_reading, b_check_reading, lk_is_reading, h1]
theorem row_of (t : Tr) (n : Nat) (g : t.good) (hl : t.ends.length ≤ 6) : Ret P (n + 11) "row_of" [.d t.D] (.d (.tup (t.ends.map D.str))) := by
  have hd := depth_lt t
  obtain ⟨o1, h1⟩ := check_reading t n g hl
  obtain ⟨o2, h2⟩ := ends_of t (n + 10) (by omega) (by omega)
  refine ret_of lk_row_of rfl ?_
  simp [evSs, evS, evE, evIts, evAs, evIt, Res.bind, Res.fl, Res.of, Fl.then, use, useB, item, take, slot0, slot1, slot2, slot3, slot4, slot5, slot6, slot7, nxO, store, assignTg, Fl.val, D.isTy, W.frz, callA, bindA, backA, ixF, C.d, L2.atI, L2.ixN, binF, biF, cmpF, eqF_str, eqF_int, D.isNon, line, E.isNone, partB, Option.bind, f_row_of, b_row_of, lk_check_reading, lk_ends_of, h1, h2]
theorem mirrored (t : Tr) (n : Nat) (g : t.good) (hl : t.ends.length ≤ 6) : Ret P (n + 11) "mirrored" [.d t.D] (.d t.mir.D) := by
  have hd := depth_lt t
  obtain ⟨o1, h1⟩ := check_reading t n g hl
  obtain ⟨o2, h2⟩ := turned t (n + 10) (by omega)
  refine ret_of lk_mirrored rfl ?_
  simp [evSs, evS, evE, evIts, evAs, evIt, Res.bind, Res.fl, Res.of, Fl.then, use, useB, item, take, slot0, slot1, slot2, slot3, slot4, slot5, slot6, slot7, nxO, store, assignTg, Fl.val, D.isTy, W.frz, callA, bindA, backA, ixF, C.d, L2.atI, L2.ixN, binF, biF, cmpF, eqF_str, eqF_int, D.isNon, line, E.isNone, partB, Option.bind, f_mirrored, b_mirrored, lk_check_reading, lk_turned, h1, h2]
def Tr.parts : Tr → List Tr
  | .leaf s => [.leaf s]
  | .node r a b => .node r a b :: (a.parts ++ b.parts)
theorem parts_len : ∀ t : Tr, t.parts.length + 1 = 2 * t.ends.length
  | .leaf _ => rfl
  | .node _ a b => by
    have := parts_len a; have := parts_len b
    simp only [Tr.parts, Tr.ends, List.length_cons, List.length_append]; omega
theorem parts_in : ∀ (t : Tr) (n : Nat), t.depth < n → t.ends.length ≤ 100 → Ret P n "parts_in" [.d t.D] (.lst (t.parts.map Tr.D))
  | .leaf s, n + 1, h, _ => by
    refine ret_of lk_parts_in rfl ?_
    simp [evSs, evS, evE, evIts, evAs, evIt, Res.bind, Res.fl, Res.of, Fl.then, use, useB, item, take, slot0, slot1, slot2, slot3, slot4, slot5, slot6, slot7, nxO, store, assignTg, Fl.val, D.isTy, W.frz, callA, bindA, backA, ixF, C.d, L2.atI, L2.ixN, binF, biF, cmpF, eqF_str, eqF_int, D.isNon, line, E.isNone, partB, Option.bind, f_parts_in, b_parts_in, Tr.D, Tr.parts]
  | .node r a b, n + 1, h, hl => by
    have p1 := parts_len a
    have p2 := parts_len b
    simp only [Tr.depth, Tr.ends, List.length_append] at h hl
    obtain ⟨o1, h1⟩ := parts_in a n (by omega) (by omega)
    obtain ⟨o2, h2⟩ := parts_in b n (by omega) (by omega)
    refine ret_of lk_parts_in rfl ?_
    have hz : a.parts.length + b.parts.length + 1 ≤ 16777216 := by omega
    simp [evSs, evS, evE, evIts, evAs, evIt, Res.bind, Res.fl, Res.of, Fl.then, use, useB, item, take, slot0, slot1, slot2, slot3, slot4, slot5, slot6, slot7, nxO, store, assignTg, Fl.val, D.isTy, W.frz, callA, bindA, backA, ixF, C.d, L2.atI, L2.ixN, binF, biF, cmpF, eqF_str, eqF_int, D.isNon, line, E.isNone, partB, Option.bind, f_parts_in, b_parts_in, Tr.D, Tr.parts, lk_parts_in, h1, h2, hz]
theorem law_parts : ∀ (t : Tr) (n : Nat), t.depth < n → t.ends.length ≤ 100 → Ret P n "_law_parts" [.d t.D] (.lst (t.parts.map Tr.D))
  | .leaf s, n + 1, h, _ => by
    refine ret_of lk__law_parts rfl ?_
    simp [evSs, evS, evE, evIts, evAs, evIt, Res.bind, Res.fl, Res.of, Fl.then, use, useB, item, take, slot0, slot1, slot2, slot3, slot4, slot5, slot6, slot7, nxO, store, assignTg, Fl.val, D.isTy, W.frz, callA, bindA, backA, ixF, C.d, L2.atI, L2.ixN, binF, biF, cmpF, eqF_str, eqF_int, D.isNon, line, E.isNone, partB, Option.bind, f__law_parts, b__law_parts, Tr.D, Tr.parts]
  | .node r a b, n + 1, h, hl => by
    have p1 := parts_len a
    have p2 := parts_len b
    simp only [Tr.depth, Tr.ends, List.length_append] at h hl
    obtain ⟨o1, h1⟩ := law_parts a n (by omega) (by omega)
    obtain ⟨o2, h2⟩ := law_parts b n (by omega) (by omega)
    refine ret_of lk__law_parts rfl ?_
    have hz : 1 + a.parts.length ≤ 16777216 := by omega
    have hz2 : a.parts.length + 1 + b.parts.length ≤ 16777216 := by omega
    simp [evSs, evS, evE, evIts, evAs, evIt, Res.bind, Res.fl, Res.of, Fl.then, use, useB, item, take, slot0, slot1, slot2, slot3, slot4, slot5, slot6, slot7, nxO, store, assignTg, Fl.val, D.isTy, W.frz, callA, bindA, backA, ixF, C.d, L2.atI, L2.ixN, binF, biF, cmpF, eqF_str, eqF_int, D.isNon, line, E.isNone, partB, Option.bind, f__law_parts, b__law_parts, Tr.D, Tr.parts, lk__law_parts, h1, h2, hz, hz2]
theorem parts (t : Tr) (n : Nat) (g : t.good) (hl : t.ends.length ≤ 6) : Ret P (n + 11) "parts" [.d t.D] (.d (.tup (t.parts.map Tr.D))) := by
  have hd := depth_lt t
  obtain ⟨o1, h1⟩ := check_reading t n g hl
  obtain ⟨o2, h2⟩ := parts_in t (n + 10) (by omega) (by omega)
  refine ret_of lk_parts rfl ?_
  simp [evSs, evS, evE, evIts, evAs, evIt, Res.bind, Res.fl, Res.of, Fl.then, use, useB, item, take, slot0, slot1, slot2, slot3, slot4, slot5, slot6, slot7, nxO, store, assignTg, Fl.val, D.isTy, W.frz, callA, bindA, backA, ixF, C.d, L2.atI, L2.ixN, binF, biF, cmpF, eqF_str, eqF_int, D.isNon, line, E.isNone, partB, Option.bind, f_parts, b_parts, lk_check_reading, lk_parts_in, h1, h2]
theorem law_mirrored : ∀ (t : Tr) (n : Nat), t.depth < n → Ret P n "_law_mirrored" [.d t.D] (.d t.mir.D)
  | .leaf s, n + 1, h => by
    refine ret_of lk__law_mirrored rfl ?_
    simp [evSs, evS, evE, evIts, evAs, evIt, Res.bind, Res.fl, Res.of, Fl.then, use, useB, item, take, slot0, slot1, slot2, slot3, slot4, slot5, slot6, slot7, nxO, store, assignTg, Fl.val, D.isTy, W.frz, callA, bindA, backA, ixF, C.d, L2.atI, L2.ixN, binF, biF, cmpF, eqF_str, eqF_int, D.isNon, line, E.isNone, partB, Option.bind, f__law_mirrored, b__law_mirrored, Tr.D, Tr.mir]
  | .node r a b, n + 1, h => by
    simp only [Tr.depth] at h
    obtain ⟨o1, h1⟩ := law_mirrored a n (by omega)
    obtain ⟨o2, h2⟩ := law_mirrored b n (by omega)
    refine ret_of lk__law_mirrored rfl ?_
    simp [evSs, evS, evE, evIts, evAs, evIt, Res.bind, Res.fl, Res.of, Fl.then, use, useB, item, take, slot0, slot1, slot2, slot3, slot4, slot5, slot6, slot7, nxO, store, assignTg, Fl.val, D.isTy, W.frz, callA, bindA, backA, ixF, C.d, L2.atI, L2.ixN, binF, biF, cmpF, eqF_str, eqF_int, D.isNon, line, E.isNone, partB, Option.bind, f__law_mirrored, b__law_mirrored, Tr.D, Tr.mir, lk__law_mirrored, h1, h2, side_look]
end K01

namespace K01
open PyEv PySem
/-! ### texts -/
def op (r : Bool) : Nat := if r then 40 else 91
def cl (r : Bool) : Nat := if r then 41 else 93
def Tr.sp : Tr → List Nat
  | .leaf s => s.cps.toList
  | .node r a b => op r :: (a.sp ++ 32 :: (b.sp ++ [cl r]))
def tx (l : List Nat) : Str := ⟨l.toArray⟩
theorem tx_app (a b : List Nat) : tx a ++ tx b = tx (a ++ b) := by
  show (⟨a.toArray ++ b.toArray⟩ : Str) = ⟨(a ++ b).toArray⟩
  simp
theorem tx_len (a : List Nat) : (tx a).length = a.length := by simp [tx, Str.length]
theorem leaf_len {s : Str} (h : s ∈ pool) : s.cps.toList.length ≤ 8 := by
  obtain ⟨cs, rfl, _, h8, _⟩ := pool_w s h
  simpa using h8
theorem sp_len : ∀ (t : Tr), t.good → t.sp.length + 3 ≤ 11 * t.ends.length
  | .leaf s, g => by
    have := leaf_len (g s List.mem_cons_self)
    simp only [Tr.sp, Tr.ends, List.length_cons, List.length_nil]; omega
  | .node r a b, g => by
    have := sp_len a (good_node g).1
    have := sp_len b (good_node g).2
    simp only [Tr.sp, Tr.ends, List.length_cons, List.length_append, List.length_nil]; omega
theorem br_look {r : Bool} : ([(("right" : Str), D.str "()"), ("left", D.str "[]")]).lookup (side r) = some (.str (tx [op r, cl r])) := by cases r <;> rfl
theorem blank_tx : (" " : Str) = tx [32] := rfl
theorem op_lt {r : Bool} : op r < 128 := by cases r <;> decide
theorem cl_lt {r : Bool} : cl r < 128 := by cases r <;> decide
theorem leaf_tx {s : Str} : s = tx s.cps.toList := rfl
theorem spelled : ∀ (t : Tr) (n : Nat), t.depth < n → t.good → t.ends.length ≤ 100 → Ret P n "spelled" [.d t.D] (.d (.str (tx t.sp)))
  | .leaf s, n + 1, h, _, _ => by
    refine ret_of lk_spelled rfl ?_
    simp [evSs, evS, evE, evIts, evAs, evIt, Res.bind, Res.fl, Res.of, Fl.then, use, useB, item, take, slot0, slot1, slot2, slot3, slot4, slot5, slot6, slot7, nxO, store, assignTg, Fl.val, D.isTy, W.frz, callA, bindA, backA, ixF, C.d, L2.atI, L2.ixN, binF, biF, cmpF, eqF_str, eqF_int, D.isNon, line, E.isNone, partB, Option.bind, f_spelled, b_spelled, Tr.D, Tr.sp, ← leaf_tx]
  | .node r a b, n + 1, h, g, hl => by
    have l1 := sp_len a (good_node g).1
    have l2 := sp_len b (good_node g).2
    simp only [Tr.depth, Tr.ends, List.length_append] at h hl
    obtain ⟨o1, h1⟩ := spelled a n (by omega) (good_node g).1 (by omega)
    obtain ⟨o2, h2⟩ := spelled b n (by omega) (good_node g).2 (by omega)
    refine ret_of lk_spelled rfl ?_
    have e1 : (⟨#[op r]⟩ : Str) = tx [op r] := rfl
    have e2 : (⟨#[cl r]⟩ : Str) = tx [cl r] := rfl
    have e3 : (tx [op r, cl r]).cps.toList = [op r, cl r] := rfl
    have z1 : 1 + a.sp.length ≤ 16777216 := by omega
    have z4 : a.sp.length + (b.sp.length + 1) ≤ 16777214 := by omega
    have z2 : a.sp.length + 1 + 1 ≤ 16777216 := by omega
    have z3 : a.sp.length + 1 + 1 + b.sp.length ≤ 16777216 := by omega
    simp [evSs, evS, evE, evIts, evAs, evIt, Res.bind, Res.fl, Res.of, Fl.then, use, useB, item, take, slot0, slot1, slot2, slot3, slot4, slot5, slot6, slot7, nxO, store, assignTg, Fl.val, D.isTy, W.frz, callA, bindA, backA, ixF, C.d, L2.atI, L2.ixN, binF, biF, cmpF, eqF_str, eqF_int, D.isNon, line, E.isNone, partB, Option.bind, f_spelled, b_spelled, Tr.D, Tr.sp, lk_spelled, gl_BRACKETS, gl_BLANK, h1, h2, br_look, e3, op_lt, cl_lt, e1, e2, blank_tx, tx_len, tx_app, z1, z2, z3, z4]
theorem text_of (t : Tr) (n : Nat) (g : t.good) (hl : t.ends.length ≤ 6) : Ret P (n + 11) "text_of" [.d t.D] (.d (.str (tx t.sp))) := by
  have hd := depth_lt t
  obtain ⟨o1, h1⟩ := check_reading t n g hl
  obtain ⟨o2, h2⟩ := spelled t (n + 10) (by omega) g (by omega)
  refine ret_of lk_text_of rfl ?_
  simp [evSs, evS, evE, evIts, evAs, evIt, Res.bind, Res.fl, Res.of, Fl.then, use, useB, item, take, slot0, slot1, slot2, slot3, slot4, slot5, slot6, slot7, nxO, store, assignTg, Fl.val, D.isTy, W.frz, callA, bindA, backA, ixF, C.d, L2.atI, L2.ixN, binF, biF, cmpF, eqF_str, eqF_int, D.isNon, line, E.isNone, partB, Option.bind, f_text_of, b_text_of, lk_check_reading, lk_spelled, h1, h2]
theorem law_spelled : ∀ (t : Tr) (n : Nat), t.depth < n → t.good → t.ends.length ≤ 100 → Ret P n "_law_spelled" [.d t.D] (.d (.str (tx t.sp)))
  | .leaf s, n + 1, h, _, _ => by
    refine ret_of lk__law_spelled rfl ?_
    simp [evSs, evS, evE, evIts, evAs, evIt, Res.bind, Res.fl, Res.of, Fl.then, use, useB, item, take, slot0, slot1, slot2, slot3, slot4, slot5, slot6, slot7, nxO, store, assignTg, Fl.val, D.isTy, W.frz, callA, bindA, backA, ixF, C.d, L2.atI, L2.ixN, binF, biF, cmpF, eqF_str, eqF_int, D.isNon, line, E.isNone, partB, Option.bind, f__law_spelled, b__law_spelled, Tr.D, Tr.sp, ← leaf_tx]
  | .node r a b, n + 1, h, g, hl => by
    have l1 := sp_len a (good_node g).1
    have l2 := sp_len b (good_node g).2
    simp only [Tr.depth, Tr.ends, List.length_append] at h hl
    obtain ⟨o1, h1⟩ := law_spelled a n (by omega) (good_node g).1 (by omega)
    obtain ⟨o2, h2⟩ := law_spelled b n (by omega) (good_node g).2 (by omega)
    refine ret_of lk__law_spelled rfl ?_
    have z1 : 1 + a.sp.length ≤ 16777216 := by omega
    have z2 : a.sp.length + 1 + 1 ≤ 16777216 := by omega
    have z3 : a.sp.length + 1 + 1 + b.sp.length ≤ 16777216 := by omega
    have z4 : a.sp.length + (b.sp.length + 1) ≤ 16777214 := by omega
    have e0 : ("()" : Str) = tx [40, 41] := rfl
    have e00 : ("[]" : Str) = tx [91, 93] := rfl
    have f1 : (tx [40, 41]).cps.toList = [40, 41] := rfl
    have f2 : (tx [91, 93]).cps.toList = [91, 93] := rfl
    have e1 : ∀ c, (⟨#[c]⟩ : Str) = tx [c] := fun _ => rfl
    have hs : (Str.ofString "left" = Str.ofString "right") = False := eq_false (by decide)
    cases r
    · simp [evSs, evS, evE, evIts, evAs, evIt, Res.bind, Res.fl, Res.of, Fl.then, use, useB, item, take, slot0, slot1, slot2, slot3, slot4, slot5, slot6, slot7, nxO, store, assignTg, Fl.val, D.isTy, W.frz, callA, bindA, backA, ixF, C.d, L2.atI, L2.ixN, binF, biF, cmpF, eqF_str, eqF_int, D.isNon, line, E.isNone, partB, Option.bind, f__law_spelled, b__law_spelled, Tr.D, Tr.sp, lk__law_spelled, h1, h2, side, op, cl, e0, e00, f1, f2, e1, blank_tx, tx_len, tx_app, z1, z2, z3, z4, hs]
    · simp [evSs, evS, evE, evIts, evAs, evIt, Res.bind, Res.fl, Res.of, Fl.then, use, useB, item, take, slot0, slot1, slot2, slot3, slot4, slot5, slot6, slot7, nxO, store, assignTg, Fl.val, D.isTy, W.frz, callA, bindA, backA, ixF, C.d, L2.atI, L2.ixN, binF, biF, cmpF, eqF_str, eqF_int, D.isNon, line, E.isNone, partB, Option.bind, f__law_spelled, b__law_spelled, Tr.D, Tr.sp, lk__law_spelled, h1, h2, side, op, cl, e0, e00, f1, f2, e1, blank_tx, tx_len, tx_app, z1, z2, z3, z4, hs]
/-! ### the reader -/
theorem six_nat {n d k : Nat} {v : Int} (h : v = (k : Int)) : HT.sIx n d (some v) = min k n := by rw [h]; exact HT.sIx_nat n d k
theorem cut_mid {p w q : List Nat} {i j : Int} (hi : i = (p.length : Int)) (hj : j = ((p.length + w.length : Nat) : Int)) : L2.cutS (tx (p ++ (w ++ q))) (some i) (some j) = tx w := by
  unfold L2.cutS
  rw [six_nat hi, six_nat hj, tx_len]
  have e : (tx (p ++ (w ++ q))).cps.toList = p ++ (w ++ q) := rfl
  rw [e]
  have e1 : min p.length (p ++ (w ++ q)).length = p.length := by simp
  have e2 : min (p.length + w.length) (p ++ (w ++ q)).length = p.length + w.length := by simp
  rw [e1, e2, List.drop_left, Nat.add_sub_cancel_left, List.take_left]
  rfl
theorem cut_end {p : List Nat} {i j : Int} (hi : i = (p.length : Int)) (hj : j = ((p.length + 1 : Nat) : Int)) : L2.cutS (tx p) (some i) (some j) = tx [] := by
  unfold L2.cutS
  rw [six_nat hi, six_nat hj, tx_len]
  have e : (tx p).cps.toList = p := rfl
  rw [e]
  simp [tx]
theorem at_mid {p q : List Nat} {c : Nat} {i : Int} (hi : i = (p.length : Int)) : L2.atI (tx (p ++ c :: q)).cps.toList i = some c := by
  rw [hi]
  exact L2.atI_nat (by show (p ++ c :: q)[p.length]? = _; simp)
/-- the loop over a name -/
theorem name_loop {cf : Str → List W → CRes} {p w q : List Nat} {a : Int} (ha : a = (p.length : Int)) (hw : ∀ c ∈ w, letter c) (hq : ∀ c r, q = c :: r → c < 128 ∧ ¬ letter c) (hl : (p ++ (w ++ q)).length ≤ 1000) :
    evS P cf [0, 1] whl_read_name_0 [some (.d (.str (tx (p ++ (w ++ q))))), some (.d (.int a)), some (.d (.int a))] = .nx [some (.d (.str (tx (p ++ (w ++ q))))), some (.d (.int a)), some (.d (.int ((p.length + w.length : Nat) : Int)))] := by
  have hl' : p.length + (w.length + q.length) ≤ 1000 := by simpa using hl
  have z : p.length + (w.length + q.length) ≤ 16777216 := by omega
  obtain ⟨env', e, r⟩ := whlL_run (c := fun env => useB (evE P cf [0, 1] (.and (.cmp .lt (.var 2) (.bi .len (.var 0))) (.cmp .isin (.ix (.var 0) (.var 2)) (.glob "LETTERS"))) env)) (body := fun env => evSs P cf [0, 1] (.cons (.set 2 (.bin .add (.var 2) (.k (.int 1)))) .nil) env)
    (fun m env => ∃ (k : Nat) (i : Int), k + m = w.length ∧ i = (p.length : Int) + k ∧ env = [some (.d (.str (tx (p ++ (w ++ q))))), some (.d (.int a)), some (.d (.int i))])
    (fun env => env = [some (.d (.str (tx (p ++ (w ++ q))))), some (.d (.int a)), some (.d (.int ((p.length + w.length : Nat) : Int)))])
    (by
      rintro m env ⟨k, i, hk, hi, rfl⟩
      have hlt : k < w.length := by omega
      have ew : w = w.take k ++ w[k] :: w.drop (k + 1) := by simp
      have hat : L2.atI (tx (p ++ (w ++ q))).cps.toList i = some w[k] := by
        have h := at_mid (p := p ++ w.take k) (c := w[k]) (q := w.drop (k + 1) ++ q) (i := i) (by simp; omega)
        have e : p ++ w.take k ++ w[k] :: (w.drop (k + 1) ++ q) = p ++ (w ++ q) := by
          rw [show p ++ (w ++ q) = p ++ ((w.take k ++ w[k] :: w.drop (k + 1)) ++ q) by rw [← ew]]
          simp only [List.append_assoc, List.cons_append]
        rw [e] at h
        exact h
      have hc := hw w[k] (List.getElem_mem hlt)
      have hs := isin_sign (c := w[k]) (by unfold letter at hc; omega)
      rw [decide_eq_true hc] at hs
      have z2 : i < (p.length : Int) + ((w.length : Int) + (q.length : Int)) := by omega
      refine ⟨[some (.d (.str (tx (p ++ (w ++ q))))), some (.d (.int a)), some (.d (.int i))], [some (.d (.str (tx (p ++ (w ++ q))))), some (.d (.int a)), some (.d (.int (i + 1)))], ?_, ?_, k + 1, i + 1, by omega, by omega, rfl⟩
      · simp [evSs, evS, evE, evIts, evAs, evIt, Res.bind, Res.fl, Res.of, Fl.then, use, useB, item, take, slot0, slot1, slot2, slot3, slot4, slot5, slot6, slot7, nxO, store, assignTg, Fl.val, D.isTy, W.frz, callA, bindA, backA, ixF, C.d, binF, biF, cmpF, eqF_str, eqF_int, D.isNon, line, E.isNone, partB, Option.bind, tx_len, z, z2, hat, gl_LETTERS, hs]
      · simp [evSs, evS, evE, evIts, evAs, evIt, Res.bind, Res.fl, Res.of, Fl.then, use, useB, item, take, slot0, slot1, slot2, slot3, slot4, slot5, slot6, slot7, nxO, store, assignTg, Fl.val, D.isTy, W.frz, callA, bindA, backA, ixF, C.d, binF, biF, cmpF, eqF_str, eqF_int, D.isNon, line, E.isNone, partB, Option.bind])
    (by
      rintro env ⟨k, i, hk, hi, rfl⟩
      have ei : i = ((p.length + w.length : Nat) : Int) := by omega
      subst ei
      refine ⟨[some (.d (.str (tx (p ++ (w ++ q))))), some (.d (.int a)), some (.d (.int ((p.length + w.length : Nat) : Int)))], ?_, rfl⟩
      cases q with
      | nil =>
        have z' : p.length + w.length ≤ 16777216 := by simpa using z
        simp [evSs, evS, evE, evIts, evAs, evIt, Res.bind, Res.fl, Res.of, Fl.then, use, useB, item, take, slot0, slot1, slot2, slot3, slot4, slot5, slot6, slot7, nxO, store, assignTg, Fl.val, D.isTy, W.frz, callA, bindA, backA, ixF, C.d, binF, biF, cmpF, eqF_str, eqF_int, D.isNon, line, E.isNone, partB, Option.bind, tx_len, z']
      | cons c r =>
        obtain ⟨h1, h2⟩ := hq c r rfl
        have hat := at_mid (p := p ++ w) (c := c) (q := r) (i := (p.length : Int) + (w.length : Int)) (by simp)
        rw [List.append_assoc] at hat
        have hs := isin_sign h1
        rw [decide_eq_false h2] at hs
        have z2 : (p.length : Int) + (w.length : Int) < (p.length : Int) + ((w.length : Int) + ((r.length : Int) + 1)) := by omega
        have z3 : p.length + (w.length + (r.length + 1)) ≤ 16777216 := by simpa using z
        simp [evSs, evS, evE, evIts, evAs, evIt, Res.bind, Res.fl, Res.of, Fl.then, use, useB, item, take, slot0, slot1, slot2, slot3, slot4, slot5, slot6, slot7, nxO, store, assignTg, Fl.val, D.isTy, W.frz, callA, bindA, backA, ixF, C.d, binF, biF, cmpF, eqF_str, eqF_int, D.isNon, line, E.isNone, partB, Option.bind, tx_len, z3, z2, hat, gl_LETTERS, hs])
    w.length loopMost [some (.d (.str (tx (p ++ (w ++ q))))), some (.d (.int a)), some (.d (.int a))] (by unfold loopMost; omega) ⟨0, a, by omega, by simp [ha], rfl⟩
  rw [r] at e
  exact e
theorem cut_mid' {p w q l : List Nat} {i j : Int} (e : l = p ++ (w ++ q)) (hi : i = (p.length : Int)) (hj : j = ((p.length + w.length : Nat) : Int)) : L2.cutS (tx l) (some i) (some j) = tx w := by rw [e]; exact cut_mid hi hj
theorem read_name {p w q : List Nat} {a : Int} {n : Nat} (ha : a = (p.length : Int)) (h1 : 1 ≤ w.length) (h8 : w.length ≤ 8) (hw : ∀ c ∈ w, letter c) (hq : ∀ c r, q = c :: r → c < 128 ∧ ¬ letter c) (hl : (p ++ (w ++ q)).length ≤ 1000) :
    Ret P (n + 2) "read_name" [.d (.str (tx (p ++ (w ++ q)))), .d (.int a)] (.d (.tup [.str (tx w), .int ((p.length + w.length : Nat) : Int)])) := by
  have hlp := name_loop (cf := callF P (n + 1)) ha hw hq hl
  obtain ⟨o1, h1⟩ := is_name_w (n := n) h1 h8 hw
  have hc := cut_mid (q := q) ha (show ((p.length + w.length : Nat) : Int) = _ from rfl)
  have z : p.length + (w.length + q.length) ≤ 16777216 := by simp at hl; omega
  have h1' : callF P (n + 1) (Str.ofString "is_name") [W.d (D.str (tx w))] = CRes.ok (W.d (D.bl true)) o1 := h1
  rw [Int.natCast_add] at hlp hc
  refine ret_of lk_read_name rfl ?_
  simp [evSs, evS, evE, evIts, evAs, evIt, Res.bind, Res.fl, Res.of, Fl.then, use, useB, item, take, slot0, slot1, slot2, slot3, slot4, slot5, slot6, slot7, nxO, store, assignTg, Fl.val, D.isTy, W.frz, callA, bindA, backA, ixF, C.d, binF, biF, cmpF, eqF_str, eqF_int, D.isNon, line, E.isNone, partB, Option.bind, f_read_name, b_read_name, hlp, slcF, tx_len, z, hc, lk_is_name, h1']
/-- the signs of the brackets -/
theorem br_in {r : Bool} : (["(", "["] : List Str).contains (tx [op r]) = true := by cases r <;> decide
theorem br_notin {c : Nat} (h : letter c) : (tx [c] = ("(" : Str)) = False ∧ (tx [c] = ("[" : Str)) = False := by
  refine ⟨eq_false fun e => ?_, eq_false fun e => ?_⟩
  · have : (tx [c]).cps.toList = [40] := by rw [e]; rfl
    have : [c] = [40] := this
    unfold letter at h
    simp at this
    omega
  · have : (tx [c]).cps.toList = [91] := by rw [e]; rfl
    have : [c] = [91] := this
    unfold letter at h
    simp at this
    omega
theorem op1 : (tx [op true] = ("(" : Str)) = True := eq_true rfl
theorem op2 : (tx [op false] = ("(" : Str)) = False := eq_false (by decide)
theorem op3 : (tx [op false] = ("[" : Str)) = True := eq_true rfl
theorem op_look {r : Bool} : ([(("(" : Str), D.str "right"), ("[", D.str "left")]).lookup (tx [op r]) = some (.str (side r)) := by cases r <;> rfl
theorem cut_tx {p q : List Nat} {c : Nat} {i : Int} (hi : i = (p.length : Int)) : L2.cutS (tx (p ++ c :: q)) (some i) (some (i + 1)) = tx [c] :=
  cut_mid' (w := [c]) (q := q) rfl hi (by rw [hi]; simp)
theorem isNon_D : ∀ t : Tr, t.D.isNon = false
  | .leaf _ => rfl
  | .node .. => rfl
theorem tx_inj {a b : List Nat} : (tx a = tx b) = (a = b) := by
  apply propext
  constructor
  · intro h
    have : (tx a).cps.toList = (tx b).cps.toList := by rw [h]
    exact this
  · intro h; rw [h]
theorem read_tree : ∀ (t : Tr) (n : Nat) (p q : List Nat) (a d : Int), t.depth + 3 ≤ n → t.good → a = (p.length : Int) → (∀ c r, q = c :: r → c < 128 ∧ ¬ letter c) → (p ++ (t.sp ++ q)).length ≤ 1000 → d + t.depth ≤ 6 →
    Ret P n "read_tree" [.d (.str (tx (p ++ (t.sp ++ q)))), .d (.int a), .d (.int d)] (.d (.tup [t.D, .int ((p.length + t.sp.length : Nat) : Int)]))
  | .leaf s, n + 3, p, q, a, d, h, g, ha, hq, hl, hd => by
    obtain ⟨cs, rfl, h1, h8, hw⟩ := pool_w s (g s List.mem_cons_self)
    obtain ⟨o1, r1⟩ := read_name (n := n) (q := q) ha h1 h8 hw hq hl
    cases cs with
    | nil => simp at h1
    | cons c cs =>
      have hc := cut_tx (p := p) (c := c) (q := cs ++ q) ha
      obtain ⟨hn, hn'⟩ := br_notin (hw c List.mem_cons_self)
      have z : p.length + (cs.length + q.length + 1) ≤ 16777216 := by simp [Tr.sp] at hl; omega
      have r1' : callF P (n + 2) (Str.ofString "read_name") [W.d (D.str (tx (p ++ c :: (cs ++ q)))), W.d (D.int a)] = _ := r1
      have r2 : Ret P (n + 3) "read_tree" [.d (.str (tx (p ++ c :: (cs ++ q)))), .d (.int a), .d (.int d)] (.d (.tup [.str (tx (c :: cs)), .int ((p.length + (c :: cs).length : Nat) : Int)])) := by
        generalize hL : p ++ c :: (cs ++ q) = L at hc r1' ⊢
        have zL : L.length ≤ 16777216 := by rw [← hL]; simp; omega
        refine ret_of lk_read_tree rfl ?_
        simp [evSs, evS, evE, evIts, evAs, evIt, Res.bind, Res.fl, Res.of, Fl.then, use, useB, item, take, slot0, slot1, slot2, slot3, slot4, slot5, slot6, slot7, nxO, store, assignTg, Fl.val, D.isTy, W.frz, callA, bindA, backA, ixF, C.d, binF, biF, cmpF, eqF_str, eqF_int, D.isNon, line, E.isNone, partB, Option.bind, f_read_tree, b_read_tree, slcF, tx_len, zL, hc, gl_OPENED, isinF, hn, hn', lk_read_name, r1']
      exact r2
  | .node r x y, n + 1, p, q, a, d, h, g, ha, hq, hl, hd => by
    simp only [Tr.depth] at h hd
    have eL1 : p ++ ((Tr.node r x y).sp ++ q) = (p ++ [op r]) ++ (x.sp ++ (32 :: (y.sp ++ (cl r :: q)))) := by simp [Tr.sp]
    have eL2 : p ++ ((Tr.node r x y).sp ++ q) = (p ++ [op r] ++ x.sp ++ [32]) ++ (y.sp ++ (cl r :: q)) := by simp [Tr.sp]
    have eL3 : p ++ ((Tr.node r x y).sp ++ q) = (p ++ [op r] ++ x.sp ++ [32] ++ y.sp) ++ cl r :: q := by simp [Tr.sp]
    have eL4 : p ++ ((Tr.node r x y).sp ++ q) = (p ++ [op r] ++ x.sp) ++ 32 :: (y.sp ++ (cl r :: q)) := by simp [Tr.sp]
    have eL0 : p ++ ((Tr.node r x y).sp ++ q) = p ++ op r :: (x.sp ++ 32 :: (y.sp ++ (cl r :: q))) := by simp [Tr.sp]
    have lsp : (Tr.node r x y).sp.length = x.sp.length + y.sp.length + 3 := by simp [Tr.sp]; omega
    generalize p ++ ((Tr.node r x y).sp ++ q) = L at *
    obtain ⟨o1, i1⟩ := read_tree x n (p ++ [op r]) (32 :: (y.sp ++ (cl r :: q))) (a + 1) (d + 1) (by omega) (good_node g).1 (by simp [ha]) (by intro c r' e; cases e; exact ⟨by decide, by unfold letter; omega⟩) (by rw [← eL1]; exact hl) (by omega)
    rw [← eL1] at i1
    have c1 : L2.cutS (tx L) (some a) (some (a + 1)) = tx [op r] := by rw [eL0]; exact cut_tx ha
    generalize hs1 : (((p ++ [op r]).length + x.sp.length : Nat) : Int) = s1 at i1
    have c2 : L2.cutS (tx L) (some s1) (some (s1 + 1)) = tx [32] := by rw [eL4]; exact cut_tx (by rw [← hs1]; simp; omega)
    obtain ⟨o2, i2⟩ := read_tree y n (p ++ [op r] ++ x.sp ++ [32]) (cl r :: q) (s1 + 1) (d + 1) (by omega) (good_node g).2 (by rw [← hs1]; simp; omega) (by intro c r' e; cases e; exact ⟨cl_lt, by cases r <;> decide⟩) (by rw [← eL2]; exact hl) (by omega)
    rw [← eL2] at i2
    generalize hs2 : (((p ++ [op r] ++ x.sp ++ [32]).length + y.sp.length : Nat) : Int) = s2 at i2
    have c3 : L2.cutS (tx L) (some s2) (some (s2 + 1)) = tx [cl r] := by rw [eL3]; exact cut_tx (by rw [← hs2]; simp; omega)
    have zL : L.length ≤ 16777216 := by omega
    have d6 : ¬ d = 6 := by omega
    have e32 : (tx [32] = Str.ofString " ") = True := eq_true rfl
    have eix : (L2.atI (tx [op r, cl r]).cps.toList 1) = some (cl r) := rfl
    have ecl : (⟨#[cl r]⟩ : Str) = tx [cl r] := rfl
    have l2 : (tx [op r, cl r]).length ≤ 16777216 := by show 2 ≤ 16777216; omega
    have efin : s2 + 1 = ((p.length + (Tr.node r x y).sp.length : Nat) : Int) := by rw [lsp, ← hs2]; simp; omega
    refine ret_of lk_read_tree rfl ?_
    rw [← efin]
    have nx := isNon_D x
    have ny := isNon_D y
    unfold D.isNon at nx ny
    have hop := op_look (r := r)
    have hbr := br_look (r := r)
    cases r
    all_goals simp [evSs, evS, evE, evIts, evAs, evIt, Res.bind, Res.fl, Res.of, Fl.then, use, useB, item, take, slot0, slot1, slot2, slot3, slot4, slot5, slot6, slot7, nxO, store, assignTg, Fl.val, D.isTy, W.frz, callA, bindA, backA, ixF, C.d, binF, biF, cmpF, eqF_str, eqF_int, D.isNon, line, E.isNone, partB, Option.bind, f_read_tree, b_read_tree, Tr.D, slcF, tx_len, zL, c1, c2, c3, gl_OPENED, gl_MOST_ENDS, gl_BLANK, gl_BRACKETS, isinF, op1, op2, op3, hop, hbr, lk_read_tree, i1, i2, d6, nx, ny, e32, eix, ecl, l2]
theorem reading_in (t : Tr) (n : Nat) (g : t.good) (hl : t.ends.length ≤ 6) : Ret P (n + 10) "reading_in" [.d (.str (tx t.sp))] (.d t.D) := by
  have hd := depth_lt t
  have ls := sp_len t g
  obtain ⟨o1, h1⟩ := read_tree t (n + 9) [] [] 0 0 (by omega) g rfl (by intro c r e; cases e) (by simp; omega) (by omega)
  obtain ⟨o2, h2⟩ := is_reading t n g hl
  rw [List.nil_append, List.append_nil, List.length_nil, Nat.zero_add] at h1
  have z : t.sp.length ≤ 16777216 := by omega
  refine ret_of lk_reading_in rfl ?_
  simp [evSs, evS, evE, evIts, evAs, evIt, Res.bind, Res.fl, Res.of, Fl.then, use, useB, item, take, slot0, slot1, slot2, slot3, slot4, slot5, slot6, slot7, nxO, store, assignTg, Fl.val, D.isTy, W.frz, callA, bindA, backA, ixF, C.d, L2.atI, L2.ixN, binF, biF, cmpF, eqF_str, eqF_int, D.isNon, line, E.isNone, partB, Option.bind, f_reading_in, b_reading_in, lk_read_tree, lk_is_reading, h1, h2, tx_len, z]
theorem reading_of (t : Tr) (n : Nat) (g : t.good) (hl : t.ends.length ≤ 6) : Ret P (n + 11) "reading_of" [.d (.str (tx t.sp))] (.d t.D) := by
  obtain ⟨o1, h1⟩ := reading_in t n g hl
  have nx := isNon_D t
  unfold D.isNon at nx
  refine ret_of lk_reading_of rfl ?_
  simp [evSs, evS, evE, evIts, evAs, evIt, Res.bind, Res.fl, Res.of, Fl.then, use, useB, item, take, slot0, slot1, slot2, slot3, slot4, slot5, slot6, slot7, nxO, store, assignTg, Fl.val, D.isTy, W.frz, callA, bindA, backA, ixF, C.d, L2.atI, L2.ixN, binF, biF, cmpF, eqF_str, eqF_int, D.isNon, line, E.isNone, partB, Option.bind, f_reading_of, b_reading_of, lk_reading_in, h1, nx]
/-! ### told and mine -/
def Tr.py : Tr → PyData
  | .leaf s => .str s
  | .node r a b => .tuple [.str (side r), a.py, b.py]
theorem D_py : ∀ t : Tr, t.D.py = some t.py
  | .leaf _ => rfl
  | .node r a b => by simp [Tr.D, Tr.py, D.py, D.pyL, D_py a, D_py b]
theorem side_ok {r : Bool} : okP (.str (side r)) = true := by cases r <;> decide
theorem leaf_ok {s : Str} (h : s ∈ pool) : okP (.str s) = true := by
  obtain ⟨cs, rfl, _, _, hw⟩ := pool_w s h
  simp only [okP, List.all_eq_true, decide_eq_true_eq]
  intro c hc
  have := hw c hc
  unfold letter at this
  omega
theorem py_ok : ∀ t : Tr, t.good → okP t.py = true
  | .leaf s, g => leaf_ok (g s List.mem_cons_self)
  | .node r a b, g => by
    have h1 := py_ok a (good_node g).1
    have h2 := py_ok b (good_node g).2
    have h3 := side_ok (r := r)
    simp only [Tr.py, okP, okPs, h1, h2, Bool.and_true] at h3 ⊢
    exact h3
theorem py_rb : ∀ t : Tr, t.good → rb t.py + 61 ≤ 143 * t.ends.length
  | .leaf s, g => by
    have := leaf_len (g s List.mem_cons_self)
    have e : s.length = s.cps.toList.length := by simp [Str.length]
    simp only [Tr.py, rb, Tr.ends, List.length_cons, List.length_nil, e]; omega
  | .node r a b, g => by
    have h1 := py_rb a (good_node g).1
    have h2 := py_rb b (good_node g).2
    have h3 : (side r).length ≤ 5 := by cases r <;> decide
    simp only [Tr.py, rb, rbs, Tr.ends, List.length_append]; omega
theorem py_depth : ∀ t : Tr, t.py.depth ≤ t.depth
  | .leaf s => by simp [Tr.py, PyData.depth]
  | .node r a b => by
    have h1 := py_depth a
    have h2 := py_depth b
    simp only [Tr.py, PyData.depth, PyData.depthAll, Tr.depth]; omega
theorem mir_ends : ∀ t : Tr, t.mir.ends = t.ends.reverse
  | .leaf _ => rfl
  | .node r a b => by simp [Tr.mir, Tr.ends, mir_ends a, mir_ends b]
theorem mir_mir : ∀ t : Tr, t.mir.mir = t
  | .leaf _ => rfl
  | .node r a b => by simp [Tr.mir, mir_mir a, mir_mir b]
theorem mir_good {t : Tr} (g : t.good) : t.mir.good := fun s hs => g s (by rw [mir_ends] at hs; simpa using hs)
theorem mir_len (t : Tr) : t.mir.ends.length = t.ends.length := by rw [mir_ends, List.length_reverse]
theorem sp_lt : ∀ t : Tr, t.good → ∀ c ∈ t.sp, c < 128
  | .leaf s, g, c, hc => by
    obtain ⟨cs, rfl, _, _, hw⟩ := pool_w s (g s List.mem_cons_self)
    have := hw c (by simpa [Tr.sp] using hc)
    unfold letter at this
    omega
  | .node r a b, g, c, hc => by
    simp only [Tr.sp, List.mem_cons, List.mem_append, List.not_mem_nil, or_false] at hc
    rcases hc with rfl | h | rfl | h | rfl
    · exact op_lt
    · exact sp_lt a (good_node g).1 c h
    · decide
    · exact sp_lt b (good_node g).2 c h
    · exact cl_lt
theorem part_ends : ∀ (t : Tr) {p : Tr}, p ∈ t.parts → (∀ s ∈ p.ends, s ∈ t.ends) ∧ p.ends.length ≤ t.ends.length
  | .leaf s, p, h => by
    rcases List.mem_singleton.mp h with rfl
    exact ⟨fun _ h => h, Nat.le_refl _⟩
  | .node r a b, p, h => by
    simp only [Tr.parts, List.mem_cons, List.mem_append] at h
    rcases h with rfl | h | h
    · exact ⟨fun _ h => h, Nat.le_refl _⟩
    · obtain ⟨h1, h2⟩ := part_ends a h
      exact ⟨fun s hs => List.mem_append_left _ (h1 s hs), by simp only [Tr.ends, List.length_append]; omega⟩
    · obtain ⟨h1, h2⟩ := part_ends b h
      exact ⟨fun s hs => List.mem_append_right _ (h1 s hs), by simp only [Tr.ends, List.length_append]; omega⟩
theorem part_parts : ∀ (t : Tr) {p q : Tr}, p ∈ t.parts → q ∈ p.parts → q ∈ t.parts
  | .leaf s, p, q, h, hq => by
    rcases List.mem_singleton.mp h with rfl
    exact hq
  | .node r a b, p, q, h, hq => by
    simp only [Tr.parts, List.mem_cons, List.mem_append] at h
    rcases h with rfl | h | h
    · exact hq
    · exact List.mem_cons_of_mem _ (List.mem_append_left _ (part_parts a h hq))
    · exact List.mem_cons_of_mem _ (List.mem_append_right _ (part_parts b h hq))
def toldD (t : Tr) : D := .tup [.str (tx t.sp), .tup (t.ends.map D.str), .tup (t.parts.map Tr.D), t.mir.D]
theorem parts_py (t : Tr) : D.pyL (t.parts.map Tr.D) = some (t.parts.map Tr.py) := pyL_map _ fun p _ => D_py p
theorem ends_py (l : List Str) : D.pyL (l.map D.str) = some (l.map PyData.str) := pyL_map _ fun p _ => rfl
theorem parts_ok {t : Tr} (g : t.good) : okPs (t.parts.map Tr.py) = true := okPs_all _ fun x hx => by
  obtain ⟨p, hp, rfl⟩ := List.mem_map.mp hx
  exact py_ok p fun s hs => g s ((part_ends t hp).1 s hs)
theorem ends_ok {l : List Str} (g : ∀ s ∈ l, s ∈ pool) : okPs (l.map PyData.str) = true := okPs_all _ fun x hx => by
  obtain ⟨p, hp, rfl⟩ := List.mem_map.mp hx
  exact leaf_ok (g p hp)
theorem parts_depth {t : Tr} (hl : t.ends.length ≤ 6) : PyData.depthAll (t.parts.map Tr.py) ≤ 6 := depthAll_le _ fun x hx => by
  obtain ⟨p, hp, rfl⟩ := List.mem_map.mp hx
  have := (part_ends t hp).2
  have h1 := py_depth p
  have h2 := depth_lt p
  omega
theorem ends_depth {l : List Str} : PyData.depthAll (l.map PyData.str) ≤ 0 := depthAll_le _ fun x hx => by
  obtain ⟨p, hp, rfl⟩ := List.mem_map.mp hx
  simp [PyData.depth]
theorem told_repr {t : Tr} (g : t.good) (hl : t.ends.length ≤ 6) : ∃ z, reprF (.tup [.str (tx t.sp), .tup (t.ends.map D.str), .tup (t.parts.map Tr.D), t.mir.D]) = some (.str z) := by
  refine ⟨_, reprF_some (p := .tuple [.str (tx t.sp), .tuple (t.ends.map PyData.str), .tuple (t.parts.map Tr.py), t.mir.py]) ?_ ?_ ?_ ?_⟩
  · simp [D.py, D.pyL, ends_py, parts_py, D_py]
  · have h1 : okP (.str (tx t.sp)) = true := by
      simp only [okP, List.all_eq_true, decide_eq_true_eq]
      intro c hc
      have := sp_lt t g c hc
      omega
    have h2 := parts_ok g
    have h3 := ends_ok (l := t.ends) g
    have h4 := py_ok t.mir (mir_good g)
    simp only [okP, okPs, h2, h3, h4, Bool.and_true] at h1 ⊢
    exact h1
  · have h1 := sp_len t g
    have h2 := py_rb t.mir (mir_good g)
    rw [mir_len] at h2
    have h3 := rbs_le (m := 858) (t.parts.map Tr.py) fun x hx => by
      obtain ⟨p, hp, rfl⟩ := List.mem_map.mp hx
      have a := part_ends t hp
      have b := py_rb p fun s hs => g s (a.1 s hs)
      omega
    have h4 := rbs_le (m := 82) (t.ends.map PyData.str) fun x hx => by
      obtain ⟨s, hs, rfl⟩ := List.mem_map.mp hx
      have := leaf_len (g s hs)
      have e : s.length = s.cps.toList.length := by simp [Str.length]
      simp only [rb, e]; omega
    have h5 := parts_len t
    rw [List.length_map] at h3 h4
    have h6 : t.parts.length * (858 + 2) ≤ 11 * (858 + 2) := Nat.mul_le_mul_right _ (by omega)
    have h7 : t.ends.length * (82 + 2) ≤ 6 * (82 + 2) := Nat.mul_le_mul_right _ hl
    simp only [rb, rbs, tx_len, line]; omega
  · have h1 := parts_depth hl
    have h2 := ends_depth (l := t.ends)
    have h3 := py_depth t.mir
    have h4 := depth_lt t.mir
    rw [mir_len] at h4
    simp only [PyData.depth, PyData.depthAll]; omega
theorem D_repr {t : Tr} (g : t.good) (hl : t.ends.length ≤ 6) : ∃ z, reprF t.D = some (.str z) :=
  ⟨_, reprF_some (D_py t) (py_ok t g) (by have := py_rb t g; simp only [line]; omega) (by have := py_depth t; have := depth_lt t; omega)⟩
theorem D_eq {t : Tr} (g : t.good) (hl : t.ends.length ≤ 6) : eqF t.D t.D = some true := eqF_refl (D_py t) (py_ok t g) (by have := py_depth t; have := depth_lt t; omega)
theorem ends_eq {l : List Str} (g : ∀ s ∈ l, s ∈ pool) : eqF (.tup (l.map D.str)) (.tup (l.map D.str)) = some true :=
  eqF_refl (p := .tuple (l.map PyData.str)) (by simp [D.py, ends_py]) (by simp only [okP]; exact ends_ok g) (by have := ends_depth (l := l); simp only [PyData.depth]; omega)
theorem part_in {t p : Tr} (g : t.good) (hl : t.ends.length ≤ 6) (hp : p ∈ t.parts) : isinF p.D (.tup (t.parts.map Tr.D)) = some true := by
  have a := part_ends t hp
  have e : isinF p.D (.tup (t.parts.map Tr.D)) = (match p.D.py, D.pyL (t.parts.map Tr.D) with
    | some p, some qs => if SeqAt.shaped p && SeqAt.shaped (.tuple qs) then some (qs.any fun z => PyData.eqv z p) else none
    | _, _ => none) := by cases p <;> rfl
  have ok := py_ok p fun s hs => g s (a.1 s hs)
  rw [e, D_py, parts_py]
  show (if (SeqAt.shaped p.py && SeqAt.shaped (.tuple (t.parts.map Tr.py))) = true then _ else _) = _
  rw [shaped_of ok (by have := py_depth p; have := depth_lt p; omega), shaped_of (p := .tuple (t.parts.map Tr.py)) (by simp only [okP]; exact parts_ok g) (by have := parts_depth hl; simp only [PyData.depth]; omega)]
  simp only [Bool.and_self, if_true, Option.some.injEq, List.any_eq_true]
  exact ⟨p.py, List.mem_map.mpr ⟨p, hp, rfl⟩, eqv_refl _ ok⟩
theorem all_true {α : Type} (l : List α) : allBl (l.map fun _ => D.bl true) = some (l.map fun _ => true) := by
  induction l with
  | nil => rfl
  | cons c l ih => simp only [List.map_cons, allBl] at ih ⊢; rw [ih]; rfl
theorem inner {t p : Tr} {n : Nat} {t0 m o x : Option W} (g : t.good) (hl : t.ends.length ≤ 6) (hp : p ∈ t.parts) :
    evE P (callF P (n + 11)) [0] lc__law_is_right_0 [t0, m, some (.d (toldD t)), o, x, some (.d p.D)] = .ok (.val (.lst (p.parts.map fun _ => .bl true))) [t0, m, some (.d (toldD t)), o, none, some (.d p.D)] := by
  have a := part_ends t hp
  have gp : p.good := fun s hs => g s (a.1 s hs)
  obtain ⟨o1, h1⟩ := parts p n gp (by omega)
  have e1 : evIt P (callF P (n + 11)) [0] (.seq (.call "parts" (.cons (.var 5) .nil))) [t0, m, some (.d (toldD t)), o, x, some (.d p.D)] = .ok (p.parts.map Tr.D) [t0, m, some (.d (toldD t)), o, x, some (.d p.D)] := by
    simp [evSs, evS, evE, evIts, evAs, evIt, Res.bind, Res.fl, Res.of, Fl.then, use, useB, item, take, slot0, slot1, slot2, slot3, slot4, slot5, slot6, slot7, nxO, store, assignTg, Fl.val, D.isTy, W.frz, callA, bindA, backA, ixF, C.d, L2.atI, L2.ixN, binF, biF, cmpF, eqF_str, eqF_int, D.isNon, line, E.isNone, partB, Option.bind, itemsF, lk_parts, h1]
  have pl := parts_len p
  obtain ⟨env', e, x', rfl⟩ := lcL_map (keep := [0]) (tg := .one 4) (own := [("_law_its", 4)]) (ct := fun env => .ok true env) (ce := fun env => (evE P (callF P (n + 11)) [0] (.cmp .isin (.var 4) (.ix (.var 2) (.k (.int 2)))) env).bind item) (fun _ => .bl true) (fun env => ∃ x, env = [t0, m, some (.d (toldD t)), o, x, some (.d p.D)])
    (p.parts.map Tr.D) [] [t0, m, some (.d (toldD t)), o, x, some (.d p.D)] (by
      rintro d hd env ⟨x, rfl⟩
      obtain ⟨q, hq, rfl⟩ := List.mem_map.mp hd
      have hi := part_in g hl (part_parts t hp hq)
      refine ⟨[t0, m, some (.d (toldD t)), o, some (.d q.D), some (.d p.D)], _, [t0, m, some (.d (toldD t)), o, some (.d q.D), some (.d p.D)], ?_, rfl, ?_, none, rfl⟩
      · simp [evSs, evS, evE, evIts, evAs, evIt, Res.bind, Res.fl, Res.of, Fl.then, use, useB, item, take, slot0, slot1, slot2, slot3, slot4, slot5, slot6, slot7, nxO, store, assignTg, Fl.val, D.isTy, W.frz, callA, bindA, backA, ixF, C.d, L2.atI, L2.ixN, binF, biF, cmpF, eqF_str, eqF_int, D.isNon, line, E.isNone, partB, Option.bind, wipeE]
      · simp [evSs, evS, evE, evIts, evAs, evIt, Res.bind, Res.fl, Res.of, Fl.then, use, useB, item, take, slot0, slot1, slot2, slot3, slot4, slot5, slot6, slot7, nxO, store, assignTg, Fl.val, D.isTy, W.frz, callA, bindA, backA, ixF, C.d, L2.atI, L2.ixN, binF, biF, cmpF, eqF_str, eqF_int, D.isNon, line, E.isNone, partB, Option.bind, toldD, hi]) ⟨x, rfl⟩ (by simp [line]; omega)
  have e2 : evE P (callF P (n + 11)) [0] lc__law_is_right_0 [t0, m, some (.d (toldD t)), o, x, some (.d p.D)] = (evIt P (callF P (n + 11)) [0] (.seq (.call "parts" (.cons (.var 5) .nil))) [t0, m, some (.d (toldD t)), o, x, some (.d p.D)]).bind fun xs env => (lcL [0] (.one 4) [("_law_its", 4)] (fun env => .ok true env) (fun env => (evE P (callF P (n + 11)) [0] (.cmp .isin (.var 4) (.ix (.var 2) (.k (.int 2)))) env).bind item) xs [] env).bind fun ys env => .ok (.val (.lst ys)) (wipeE env [("_law_its", 4)]) := rfl
  rw [e2, e1]
  show (lcL [0] (.one 4) [("_law_its", 4)] _ _ (p.parts.map Tr.D) [] _).bind _ = _
  rw [e, List.nil_append, List.map_map]
  rfl
theorem outer {t : Tr} {n : Nat} {t0 m o : Option W} (g : t.good) (hl : t.ends.length ≤ 6) :
    evE P (callF P (n + 11)) [0] lc__law_is_right_1 [t0, m, some (.d (toldD t)), o, none, none] = .ok (.val (.lst (t.parts.map fun _ => .bl true))) [t0, m, some (.d (toldD t)), o, none, none] := by
  have e1 : evIt P (callF P (n + 11)) [0] (.seq (.ix (.var 2) (.k (.int 2)))) [t0, m, some (.d (toldD t)), o, none, none] = .ok (t.parts.map Tr.D) [t0, m, some (.d (toldD t)), o, none, none] := by
    simp [evSs, evS, evE, evIts, evAs, evIt, Res.bind, Res.fl, Res.of, Fl.then, use, useB, item, take, slot0, slot1, slot2, slot3, slot4, slot5, slot6, slot7, nxO, store, assignTg, Fl.val, D.isTy, W.frz, callA, bindA, backA, ixF, C.d, L2.atI, L2.ixN, binF, biF, cmpF, eqF_str, eqF_int, D.isNon, line, E.isNone, partB, Option.bind, itemsF, toldD]
  have pl := parts_len t
  obtain ⟨env', e, y', rfl⟩ := lcL_map (keep := [0]) (tg := .one 5) (own := [("_law_part", 5)]) (ct := fun env => .ok true env) (ce := fun env => (evE P (callF P (n + 11)) [0] (.bi .all lc__law_is_right_0) env).bind item) (fun _ => .bl true) (fun env => ∃ y, env = [t0, m, some (.d (toldD t)), o, none, y])
    (t.parts.map Tr.D) [] [t0, m, some (.d (toldD t)), o, none, none] (by
      rintro d hd env ⟨y, rfl⟩
      obtain ⟨q, hq, rfl⟩ := List.mem_map.mp hd
      have hi := inner (n := n) (t0 := t0) (m := m) (o := o) (x := none) g hl hq
      refine ⟨[t0, m, some (.d (toldD t)), o, none, some (.d q.D)], _, [t0, m, some (.d (toldD t)), o, none, some (.d q.D)], ?_, rfl, ?_, none, rfl⟩
      · simp [evSs, evS, evE, evIts, evAs, evIt, Res.bind, Res.fl, Res.of, Fl.then, use, useB, item, take, slot0, slot1, slot2, slot3, slot4, slot5, slot6, slot7, nxO, store, assignTg, Fl.val, D.isTy, W.frz, callA, bindA, backA, ixF, C.d, L2.atI, L2.ixN, binF, biF, cmpF, eqF_str, eqF_int, D.isNon, line, E.isNone, partB, Option.bind, wipeE]
      · simp [evSs, evS, evE, evIts, evAs, evIt, Res.bind, Res.fl, Res.of, Fl.then, use, useB, item, take, slot0, slot1, slot2, slot3, slot4, slot5, slot6, slot7, nxO, store, assignTg, Fl.val, D.isTy, W.frz, callA, bindA, backA, ixF, C.d, L2.atI, L2.ixN, binF, biF, cmpF, eqF_str, eqF_int, D.isNon, line, E.isNone, partB, Option.bind, hi, all_true]) ⟨none, rfl⟩ (by simp [line]; omega)
  have e2 : evE P (callF P (n + 11)) [0] lc__law_is_right_1 [t0, m, some (.d (toldD t)), o, none, none] = (evIt P (callF P (n + 11)) [0] (.seq (.ix (.var 2) (.k (.int 2)))) [t0, m, some (.d (toldD t)), o, none, none]).bind fun xs env => (lcL [0] (.one 5) [("_law_part", 5)] (fun env => .ok true env) (fun env => (evE P (callF P (n + 11)) [0] (.bi .all lc__law_is_right_0) env).bind item) xs [] env).bind fun ys env => .ok (.val (.lst ys)) (wipeE env [("_law_part", 5)]) := rfl
  rw [e2, e1]
  show (lcL [0] (.one 5) [("_law_part", 5)] _ _ (t.parts.map Tr.D) [] _).bind _ = _
  rw [e, List.nil_append, List.map_map]
  rfl
theorem is_right (t : Tr) (n : Nat) (g : t.good) (hl : t.ends.length ≤ 6) : Ret P (n + 12) "_law_is_right" [.d t.D] (.d (.bl true)) := by
  have hd := depth_lt t
  have gm := mir_good g
  have lm := mir_len t
  obtain ⟨o1, h1⟩ := law_spelled t (n + 11) (by omega) g (by omega)
  obtain ⟨o2, h2⟩ := law_ends t (n + 11) (by omega) (by omega)
  obtain ⟨o3, h3⟩ := law_parts t (n + 11) (by omega) (by omega)
  obtain ⟨o4, h4⟩ := law_mirrored t (n + 11) (by omega)
  obtain ⟨o5, h5⟩ := text_of t n g hl
  obtain ⟨o6, h6⟩ := row_of t n g hl
  obtain ⟨o7, h7⟩ := parts t n g hl
  obtain ⟨o8, h8⟩ := mirrored t n g hl
  obtain ⟨o9, h9⟩ := reading_of t n g hl
  obtain ⟨o10, h10⟩ := mirrored t.mir n gm (by omega)
  obtain ⟨o11, h11⟩ := row_of t.mir n gm (by omega)
  obtain ⟨o12, h12⟩ := parts t.mir n gm (by omega)
  rw [mir_mir] at h10
  rw [mir_ends] at h11
  obtain ⟨z1, r1⟩ := told_repr g hl
  obtain ⟨z2, r2⟩ := D_repr g hl
  have q1 := D_eq g hl
  have q2 := ends_eq (l := t.ends.reverse) fun s hs => g s (by simpa using hs)
  rw [List.map_reverse] at q2
  have pl : t.mir.parts.length = t.parts.length := by have a := parts_len t; have b := parts_len t.mir; omega
  have ho := outer (n := n) (t0 := some (.d t.D)) (m := some (.d (toldD t))) (o := some (.d t.mir.D)) g hl
  rw [toldD] at ho
  have te : t.ends.length ≤ 16777216 := by omega
  refine ret_of lk__law_is_right rfl ?_
  simp [evSs, evS, evE, evIts, evAs, evIt, Res.bind, Res.fl, Res.of, Fl.then, use, useB, item, take, slot0, slot1, slot2, slot3, slot4, slot5, slot6, slot7, nxO, store, assignTg, Fl.val, D.isTy, W.frz, callA, bindA, backA, ixF, C.d, L2.atI, L2.ixN, binF, biF, cmpF, eqF_str, eqF_int, D.isNon, line, E.isNone, partB, Option.bind, f__law_is_right, b__law_is_right, lk__law_spelled, lk__law_ends, lk__law_parts, lk__law_mirrored, lk_text_of, lk_row_of, lk_parts, lk_mirrored, lk_reading_of, h1, h2, h3, h4, h5, h6, h7, h8, h9, h10, h11, h12, r1, r2, q1, q2, pl, ho, all_true]
end K01

set_option maxRecDepth 100000
set_option maxHeartbeats 4000000
namespace K01
open PyEv PySem
/-! ### the draws -/
def PotR (r : Nat) (w : W) : Prop := ∃ a b c : Int, w = .lst [.int a, .int b, .int c] ∧ 0 ≤ a ∧ 0 ≤ b ∧ b < 2 ^ 62 ∧ 0 ≤ c ∧ c + r ≤ 1000000
theorem law_take {r : Nat} {w : W} {u : Int} (n : Nat) (h : PotR (r + 1) w) (hu : 1 ≤ u) (hu2 : u ≤ 1000000) :
    ∃ (d : Int) (w' : W) (outs : PyEv.Env), callF P (n + 1) "_law_take" [w, .d (.int u)] = .ok (.d (.int d)) outs ∧ slot outs 0 = some w' ∧ PotR r w' ∧ 0 ≤ d ∧ d < u := by
  obtain ⟨a, b, c, rfl, ha, hb, hb2, hc, hc2⟩ := h
  have u0 : 0 < u := by omega
  have u2 : u ≤ 2 ^ 250 := by omega
  have hf : ∀ a, binF .fdv (.int a) (.int u) = some (.d (.int (a / u))) := fun a => binFdv u0 u2
  have hf2 : ∀ a, binF .fdv (.int a) (.int 151) = some (.d (.int (a / 151))) := fun a => binFdv (by decide) (by decide)
  by_cases h0 : 0 < a
  · have e : callF P (n + 1) "_law_take" [.lst [.int a, .int b, .int c], .d (.int u)] = .ok (.d (.int (a % u))) [some (.lst [.int (a / u), .int b, .int c]), some (.d (.int u)), some (.d (.int (a % u))), none, none] := by
      rw [call_eq lk__law_take rfl]
      simp [evSs, evS, evE, evIts, evAs, evIt, Res.bind, Res.fl, Res.of, Fl.then, use, useB, item, take, slot0, slot1, slot2, slot3, slot4, slot5, slot6, slot7, nxO, store, assignTg, Fl.val, D.isTy, W.frz, callA, bindA, backA, ixF, C.d, L2.atI, L2.ixN, biF, cmpF, eqF_str, eqF_int, D.isNon, line, E.isNone, partB, Option.bind, f__law_take, b__law_take, h0, binMod, hf, u0, setF, finC]
    exact ⟨_, _, _, e, rfl, ⟨a / u, b, c, rfl, Int.ediv_nonneg ha (by omega), hb, hb2, hc, by omega⟩, Int.emod_nonneg _ (by omega), Int.emod_lt_of_pos _ u0⟩
  · have prime : ∀ k : Int, 0 ≤ k → k < 5 → ∃ p : Int, L2.atI [D.int 2147483647, D.int 2147483629, D.int 2147483587, D.int 2147483579, D.int 2147483563] k = some (.int p) ∧ 0 < p ∧ p ≤ 2147483647 := by
      intro k k0 k5
      have : k = 0 ∨ k = 1 ∨ k = 2 ∨ k = 3 ∨ k = 4 := by omega
      rcases this with rfl | rfl | rfl | rfl | rfl
      all_goals exact ⟨_, rfl, by decide, by decide⟩
    obtain ⟨p, hp, p0, p1⟩ := prime ((c + 1) % 5) (Int.emod_nonneg _ (by decide)) (Int.emod_lt_of_pos _ (by decide))
    have s1 : small 100853 := small_of (by decide) (by decide)
    have s2 : small (c + 1) := small_of (by omega) (by omega)
    have b1 : 0 ≤ 100853 * (c + 1) ∧ 100853 * (c + 1) ≤ 2 ^ 50 := by omega
    have s3 : small (100853 * (c + 1)) := small_of (by omega) (by omega)
    have b2 : 0 ≤ 100853 * (c + 1) * (c + 1) ∧ 100853 * (c + 1) * (c + 1) ≤ 2 ^ 50 * 2 ^ 50 := by
      refine ⟨Int.mul_nonneg b1.1 (by omega), Int.mul_le_mul b1.2 (by omega) (by omega) (by omega)⟩
    have s4 : small (b + 100853 * (c + 1) * (c + 1) + 68) := small_of (by omega) (by omega)
    generalize hx : (b + 100853 * (c + 1) * (c + 1) + 68) ^ 3 % p = x
    have x0 : 0 ≤ x := by rw [← hx]; exact Int.emod_nonneg _ (by omega)
    have x1 : x < p := by rw [← hx]; exact Int.emod_lt_of_pos _ p0
    have s5 : small x := small_of (by omega) (by omega)
    have s6 : small 181 := small_of (by decide) (by decide)
    have y0 : 0 ≤ x % 10331 := Int.emod_nonneg _ (by decide)
    have y1 : x % 10331 < 10331 := Int.emod_lt_of_pos _ (by decide)
    have s7 : small (x % 10331 + 181 * (c + 1)) := small_of (by omega) (by omega)
    have e : ∃ d : Int, callF P (n + 1) "_law_take" [.lst [.int a, .int b, .int c], .d (.int u)] = .ok (.d (.int (d % u))) [some (.lst [.int a, .int b, .int (c + 1)]), some (.d (.int u)), none, some (.d (.int p)), some (.d (.int (x * (x % 10331 + 181 * (c + 1)) % 2305843009213693907)))] := by
      refine ⟨x * (x % 10331 + 181 * (c + 1)) % 2305843009213693907 / 151, ?_⟩
      rw [call_eq lk__law_take rfl]
      have i32 : L2.ixN 3 2 = some 2 := rfl
      simp [evSs, evS, evE, evIts, evAs, evIt, Res.bind, Res.fl, Res.of, Fl.then, use, useB, item, take, slot0, slot1, slot2, slot3, slot4, slot5, slot6, slot7, nxO, store, assignTg, Fl.val, D.isTy, W.frz, callA, bindA, backA, ixF, C.d, at0, at1, at2, biF, cmpF, eqF_str, eqF_int, D.isNon, line, E.isNone, partB, Option.bind, i32, f__law_take, b__law_take, h0, binMod, hf2, binAdd, binMul, binPow3, u0, u2, setF, finC, hp, p0, s1, s2, s3, s4, s5, s6, s7, hx]
    obtain ⟨d, e⟩ := e
    exact ⟨_, _, _, e, rfl, ⟨a, b, c + 1, rfl, ha, hb, hb2, by omega, by omega⟩, Int.emod_nonneg _ (by omega), Int.emod_lt_of_pos _ u0⟩
theorem get0 {outs : PyEv.Env} {w : W} (h : slot outs 0 = some w) : outs[0]?.getD none = some w := by simpa [slot] using h
theorem get1 {outs : PyEv.Env} {w : W} (h : slot outs 1 = some w) : outs[1]?.getD none = some w := by simpa [slot] using h
theorem at_in {α : Type} {l : List α} {d : Int} (h0 : 0 ≤ d) (h1 : d < l.length) : ∃ x, L2.atI l d = some x ∧ x ∈ l := by
  have hk : d.toNat < l.length := by omega
  refine ⟨l[d.toNat], ?_, List.getElem_mem hk⟩
  have e : d = ((d.toNat : Nat) : Int) := by omega
  have h := L2.atI_nat (List.getElem?_eq_getElem hk)
  rw [← e] at h
  exact h
theorem law_of {r : Nat} {w : W} {ds : List D} (n : Nat) (h : PotR (r + 1) w) (h1 : 1 ≤ ds.length) (h2 : ds.length ≤ 1000000) :
    ∃ x w' outs, callF P (n + 2) "_law_of" [w, .d (.tup ds)] = .ok (.d x) outs ∧ slot outs 0 = some w' ∧ PotR r w' ∧ x ∈ ds := by
  obtain ⟨d, w', o1, e1, hs, hw', d0, d1⟩ := law_take n h (u := (ds.length : Int)) (by omega) (by omega)
  obtain ⟨a, b, c, rfl, _⟩ := h
  obtain ⟨x, hx, hm⟩ := at_in d0 d1
  have hg := get0 hs
  refine ⟨x, w', [some w', some (.d (.tup ds))], ?_, rfl, hw', hm⟩
  rw [call_eq lk__law_of rfl]
  simp [evSs, evS, evE, evIts, evAs, evIt, Res.bind, Res.fl, Res.of, Fl.then, use, useB, item, take, slot0, slot1, slot2, slot3, slot4, slot5, slot6, slot7, nxO, store, assignTg, Fl.val, D.isTy, W.frz, callA, bindA, backA, ixF, C.d, binF, biF, cmpF, eqF_str, eqF_int, D.isNon, line, E.isNone, partB, Option.bind, f__law_of, b__law_of, lk__law_take, f__law_take, e1, hg, hx, finC]
theorem law_of_l {r : Nat} {w : W} {ds : List D} (n : Nat) (h : PotR (r + 1) w) (h1 : 1 ≤ ds.length) (h2 : ds.length ≤ 1000000) :
    ∃ x w' outs, callF P (n + 2) "_law_of" [w, .lst ds] = .ok (.d x) outs ∧ slot outs 0 = some w' ∧ PotR r w' ∧ x ∈ ds := by
  obtain ⟨d, w', o1, e1, hs, hw', d0, d1⟩ := law_take n h (u := (ds.length : Int)) (by omega) (by omega)
  obtain ⟨a, b, c, rfl, _⟩ := h
  obtain ⟨x, hx, hm⟩ := at_in d0 d1
  have hg := get0 hs
  refine ⟨x, w', [some w', some (.lst ds)], ?_, rfl, hw', hm⟩
  rw [call_eq lk__law_of rfl]
  simp [evSs, evS, evE, evIts, evAs, evIt, Res.bind, Res.fl, Res.of, Fl.then, use, useB, item, take, slot0, slot1, slot2, slot3, slot4, slot5, slot6, slot7, nxO, store, assignTg, Fl.val, D.isTy, W.frz, callA, bindA, backA, ixF, C.d, binF, biF, cmpF, eqF_str, eqF_int, D.isNon, line, E.isNone, partB, Option.bind, f__law_of, b__law_of, lk__law_take, f__law_take, e1, hg, hx, finC]
/-- several of a pool, each once -/
theorem some_loop {r k : Nat} {w : W} {n : Nat} {pw mw : W} {rest found : List D} {o : Option W} (pool : List D) (h : PotR (r + k) w) (hk : k ≤ rest.length) (hr : rest.length ≤ 1000) (hf : found.length + k ≤ 1000) (hp : ∀ x ∈ rest, x ∈ pool) (hq : ∀ x ∈ found, x ∈ pool)
    {xs : List D} (hx : xs.length = k) :
    ∃ w' rest' found' o', forL [0, 1, 2] (.one 5) (fun env => evSs P (callF P (n + 1)) [0, 1, 2] (.cons (.expr (.mut .append 4 (.cons (.mut .popAt 3 (.cons (.call "_law_take" (.cons (.var 0) (.cons (.bi .len (.var 3)) .nil))) .nil)) .nil))) .nil) env) xs [some w, some pw, some mw, some (.lst rest), some (.lst found), o] =
      .nx [some w', some pw, some mw, some (.lst rest'), some (.lst found'), o'] ∧ PotR r w' ∧ found'.length = found.length + k ∧ ∀ x ∈ found', x ∈ pool := by
  induction xs generalizing k w rest found o with
  | nil =>
    have : k = 0 := hx.symm
    subst this
    exact ⟨w, rest, found, o, rfl, h, rfl, hq⟩
  | cons y ys ih =>
    obtain ⟨k, rfl⟩ : ∃ j, k = j + 1 := ⟨ys.length, by simpa using hx.symm⟩
    obtain ⟨d, w', o1, e1, hs, hw', d0, d1⟩ := law_take (r := r + k) n h (u := (rest.length : Int)) (by omega) (by omega)
    obtain ⟨a, b, c, rfl, _⟩ := h
    have hkk : d.toNat < rest.length := by omega
    have hix : L2.ixN rest.length d = some d.toNat := by unfold L2.ixN; rw [if_pos d0, if_pos d1]
    have hget : rest[d.toNat]? = some rest[d.toNat] := List.getElem?_eq_getElem hkk
    have hg := get0 hs
    have z1 : rest.length ≤ 16777216 := by omega
    have z2 : found.length < 16777216 := by omega
    have body : evSs P (callF P (n + 1)) [0, 1, 2] (.cons (.expr (.mut .append 4 (.cons (.mut .popAt 3 (.cons (.call "_law_take" (.cons (.var 0) (.cons (.bi .len (.var 3)) .nil))) .nil)) .nil))) .nil) [some (.lst [.int a, .int b, .int c]), some pw, some mw, some (.lst rest), some (.lst found), some (.d y)] =
        .nx [some w', some pw, some mw, some (.lst (rest.eraseIdx d.toNat)), some (.lst (found ++ [rest[d.toNat]])), some (.d y)] := by
      simp [evSs, evS, evE, evIts, evAs, evIt, Res.bind, Res.fl, Res.of, Fl.then, use, useB, item, take, slot0, slot1, slot2, slot3, slot4, slot5, slot6, slot7, nxO, store, assignTg, Fl.val, D.isTy, W.frz, callA, bindA, backA, ixF, C.d, binF, biF, cmpF, eqF_str, eqF_int, D.isNon, line, E.isNone, partB, Option.bind, lk__law_take, f__law_take, e1, hg, mutF, hix, hget, z1, z2]
    obtain ⟨w2, rest2, found2, o2, e2, h2, l2, m2⟩ := ih (k := k) (w := w') (rest := rest.eraseIdx d.toNat) (found := found ++ [rest[d.toNat]]) (o := some (.d y)) hw' (by rw [List.length_eraseIdx_of_lt hkk]; omega) (by rw [List.length_eraseIdx_of_lt hkk]; omega) (by simp; omega) (fun x hx => hp x (List.mem_of_mem_eraseIdx hx)) (fun x hx => by
      rcases List.mem_append.mp hx with hx | hx
      · exact hq x hx
      · rcases List.mem_singleton.mp hx with rfl; exact hp _ (List.getElem_mem hkk)) (by simpa using hx)
    refine ⟨w2, rest2, found2, o2, ?_, h2, by rw [l2]; simp; omega, m2⟩
    have ea : assignTg [0, 1, 2] (.one 5) y [some (W.lst [.int a, .int b, .int c]), some pw, some mw, some (.lst rest), some (.lst found), o] = some [some (W.lst [.int a, .int b, .int c]), some pw, some mw, some (.lst rest), some (.lst found), some (.d y)] := by
      simp [evSs, evS, evE, evIts, evAs, evIt, Res.bind, Res.fl, Res.of, Fl.then, use, useB, item, take, slot0, slot1, slot2, slot3, slot4, slot5, slot6, slot7, nxO, store, assignTg, Fl.val, D.isTy, W.frz, callA, bindA, backA, ixF, C.d, L2.atI, L2.ixN, binF, biF, cmpF, eqF_str, eqF_int, D.isNon, line, E.isNone, partB, Option.bind]
    simp only [forL, ea, body]
    exact e2
theorem PotR.le {r q : Nat} {w : W} (h : PotR r w) (hq : q ≤ r) : PotR q w := by
  obtain ⟨a, b, c, rfl, h1, h2, h3, h4, h5⟩ := h
  exact ⟨a, b, c, rfl, h1, h2, h3, h4, by omega⟩
theorem range_len {k : Nat} (hk : k ≤ 1000) : ∃ xs, rangeF 0 (k : Int) = some xs ∧ xs.length = k ∧ xs = (List.range k).map fun i => D.int ((i : Nat) : Int) := by
  refine ⟨(List.range k).map fun i => D.int ((i : Nat) : Int), ?_, by simp, rfl⟩
  unfold rangeF
  rw [if_pos (by omega)]
  simp
theorem law_some {r k : Nat} {w : W} {ds : List D} (n : Nat) (h : PotR (r + k) w) (hk : k ≤ ds.length) (hd : ds.length ≤ 100) :
    ∃ found w' outs, callF P (n + 2) "_law_some" [w, .lst ds, .d (.int (k : Int))] = .ok (.lst found) outs ∧ slot outs 0 = some w' ∧ PotR r w' ∧ found.length = k ∧ ∀ x ∈ found, x ∈ ds := by
  obtain ⟨xs, hr, hl, _⟩ := range_len (k := k) (by omega)
  obtain ⟨w', rest', found', o', e, hw, hf, hm⟩ := some_loop (n := n) (pw := .lst ds) (mw := .d (.int (k : Int))) (rest := ds) (found := []) (o := none) ds h hk (by omega) (by simp; omega) (fun x hx => hx) (fun x hx => by cases hx) hl
  have loop : evS P (callF P (n + 1)) [0, 1, 2] for__law_some_0 [some w, some (.lst ds), some (.d (.int (k : Int))), some (.lst ds), some (.lst []), none] = .nx [some w', some (.lst ds), some (.d (.int (k : Int))), some (.lst rest'), some (.lst found'), o'] := by
    have e1 : evIt P (callF P (n + 1)) [0, 1, 2] (.range1 (.var 2)) [some w, some (.lst ds), some (.d (.int (k : Int))), some (.lst ds), some (.lst []), none] = .ok xs [some w, some (.lst ds), some (.d (.int (k : Int))), some (.lst ds), some (.lst []), none] := by
      refine evIt_range1 (a := .vr 2) (i := (k : Int)) ?_ rfl hr
      simp [evSs, evS, evE, evIts, evAs, evIt, Res.bind, Res.fl, Res.of, Fl.then, use, useB, item, take, slot0, slot1, slot2, slot3, slot4, slot5, slot6, slot7, nxO, store, assignTg, Fl.val, D.isTy, W.frz, callA, bindA, backA, ixF, C.d, L2.atI, L2.ixN, binF, biF, cmpF, eqF_str, eqF_int, D.isNon, line, E.isNone, partB, Option.bind]
    have e2 : evS P (callF P (n + 1)) [0, 1, 2] for__law_some_0 [some w, some (.lst ds), some (.d (.int (k : Int))), some (.lst ds), some (.lst []), none] = (evIt P (callF P (n + 1)) [0, 1, 2] (.range1 (.var 2)) [some w, some (.lst ds), some (.d (.int (k : Int))), some (.lst ds), some (.lst []), none]).fl fun xs env => forL [0, 1, 2] (.one 5) (fun env => evSs P (callF P (n + 1)) [0, 1, 2] (.cons (.expr (.mut .append 4 (.cons (.mut .popAt 3 (.cons (.call "_law_take" (.cons (.var 0) (.cons (.bi .len (.var 3)) .nil))) .nil)) .nil))) .nil) env) xs env := by
      simp only [for__law_some_0, evS]
    rw [e2, e1]
    simp only [Res.fl]
    exact e
  refine ⟨found', w', [some w', some (.lst ds), some (.d (.int (k : Int))), some (.lst rest'), none, o'], ?_, rfl, hw, by simpa using hf, hm⟩
  rw [call_eq lk__law_some rfl]
  have a1 : evS P (callF P (n + 1)) [0, 1, 2] (.par 3 4 (.bi .list (.var 1)) (.lst .nil)) [some w, some (.lst ds), some (.d (.int (k : Int))), none, none, none] = .nx [some w, some (.lst ds), some (.d (.int (k : Int))), some (.lst ds), some (.lst []), none] := by
    simp [evSs, evS, evE, evIts, evAs, evIt, Res.bind, Res.fl, Res.of, Fl.then, use, useB, item, take, slot0, slot1, slot2, slot3, slot4, slot5, slot6, slot7, nxO, store, assignTg, Fl.val, D.isTy, W.frz, callA, bindA, backA, ixF, C.d, L2.atI, L2.ixN, binF, biF, cmpF, eqF_str, eqF_int, D.isNon, line, E.isNone, partB, Option.bind]
  have a2 : evS P (callF P (n + 1)) [0, 1, 2] (.ret (.var 4)) [some w', some (.lst ds), some (.d (.int (k : Int))), some (.lst rest'), some (.lst found'), o'] = .rt (.lst found') [some w', some (.lst ds), some (.d (.int (k : Int))), some (.lst rest'), none, o'] := by
    simp [evSs, evS, evE, evIts, evAs, evIt, Res.bind, Res.fl, Res.of, Fl.then, use, useB, item, take, slot0, slot1, slot2, slot3, slot4, slot5, slot6, slot7, nxO, store, assignTg, Fl.val, D.isTy, W.frz, callA, bindA, backA, ixF, C.d, L2.atI, L2.ixN, binF, biF, cmpF, eqF_str, eqF_int, D.isNon, line, E.isNone, partB, Option.bind]
  have a3 : evSs P (callF P (n + 1)) [0, 1, 2] b__law_some [some w, some (.lst ds), some (.d (.int (k : Int))), none, none, none] = .rt (.lst found') [some w', some (.lst ds), some (.d (.int (k : Int))), some (.lst rest'), none, o'] := by
    unfold b__law_some
    rw [seq_nx a1, seq_nx loop, seq_rt a2]
  show finC (evSs P (callF P (n + 1)) [0, 1, 2] b__law_some [some w, some (.lst ds), some (.d (.int (k : Int))), none, none, none]) = _
  rw [a3, finC]
theorem words_a1 {n : Nat} {w : Option W} : evS P (callF P (n + 2)) [0, 1, 2] (.set 3 (.lst (.cons (.k (.str "ann")) (.cons (.k (.str "bob")) (.cons (.k (.str "sees")) (.cons (.k (.str "s")) (.cons (.k (.str "row")) (.cons (.k (.str "not")) (.cons (.k (.str "like")) (.cons (.k (.str "is")) (.cons (.k (.str "a")) (.cons (.k (.str "zzzzzzzz")) (.cons (.k (.str "b")) (.cons (.k (.str "words")) (.cons (.k (.str "right")) (.cons (.k (.str "tells")) .nil)))))))))))))))) [w, some (.d (.int 1)), some (.d (.int 6)), none] = .nx [w, some (.d (.int 1)), some (.d (.int 6)), some (.lst (pool.map D.str))] := by
  have hp : pool.map D.str = [.str "ann", .str "bob", .str "sees", .str "s", .str "row", .str "not", .str "like", .str "is", .str "a", .str "zzzzzzzz", .str "b", .str "words", .str "right", .str "tells"] := rfl
  rw [hp]
  simp [evSs, evS, evE, evIts, evAs, evIt, Res.bind, Res.fl, Res.of, Fl.then, use, useB, item, take, slot0, slot1, slot2, slot3, slot4, slot5, slot6, slot7, nxO, store, assignTg, Fl.val, D.isTy, W.frz, callA, bindA, backA, ixF, C.d, L2.atI, L2.ixN, binF, biF, cmpF, eqF_str, eqF_int, D.isNon, line, E.isNone, partB, Option.bind]
theorem words_b1 {n : Nat} {a b c d : Int} {j : Nat} {pl : List D} {w1 : W} {o1 : PyEv.Env} (e1 : callF P (n + 2) "_law_take" [.lst [.int a, .int b, .int c], .d (.int 6)] = .ok (.d (.int d)) o1) (hg1 : o1[0]?.getD none = some w1) (hj : 1 + d = (j : Int)) :
    evAs P (callF P (n + 2)) [0, 1, 2] (.cons (.var 0) (.cons (.var 3) (.cons (.bin .add (.var 1) (.call "_law_take" (.cons (.var 0) (.cons (.bin .add (.bin .sub (.var 2) (.var 1)) (.k (.int 1))) .nil)))) .nil))) [some (.lst [.int a, .int b, .int c]), some (.d (.int 1)), some (.d (.int 6)), some (.lst pl)] = .ok [.vr 0, .vr 3, .val (.d (.int (j : Int)))] [some w1, some (.d (.int 1)), some (.d (.int 6)), some (.lst pl)] := by
  simp [evSs, evS, evE, evIts, evAs, evIt, Res.bind, Res.fl, Res.of, Fl.then, use, useB, item, take, slot0, slot1, slot2, slot3, slot4, slot5, slot6, slot7, nxO, store, assignTg, Fl.val, D.isTy, W.frz, callA, bindA, backA, ixF, C.d, L2.atI, L2.ixN, biF, cmpF, eqF_str, eqF_int, D.isNon, line, E.isNone, partB, Option.bind, binAdd, binSub, lk__law_take, f__law_take, e1, hg1, hj]
theorem callA_eq {cf : Str → List W → CRes} {f : Str} {fn : Fn} {ars : List Ar} {env env1 env3 : PyEv.Env} {ws : List W} {l : List (Nat × Nat)} {w : W} {outs : PyEv.Env} (hb : bindA fn.keep ars 0 env = some (ws, env1, l)) (hc : cf f ws = .ok w outs) (he : backA outs env1 l = env3) : callA cf f fn ars env = .ok (.val w) env3 := by
  unfold callA; rw [hb]; simp only [hc, he]
theorem words_b2 {n : Nat} {j : Nat} {pl found : List D} {w1 w2 : W} {o2 : PyEv.Env} (a1 b1 c1 : Int) (hw1 : w1 = .lst [.int a1, .int b1, .int c1])
   (e2 : callF P (n + 2) "_law_some" [w1, .lst pl, .d (.int (j : Int))] = .ok (.lst found) o2) (hg2 : o2[0]?.getD none = some w2) :
   callA (callF P (n + 2)) "_law_some" f__law_some [.vr 0, .vr 3, .val (.d (.int (j : Int)))] [some w1, some (.d (.int 1)), some (.d (.int 6)), some (.lst pl)] = .ok (.val (.lst found)) [some w2, some (.d (.int 1)), some (.d (.int 6)), o2.getD 1 none] := by
  subst hw1
  refine callA_eq rfl e2 ?_
  show [o2.getD 0 none, some (.d (.int 1)), some (.d (.int 6)), o2.getD 1 none] = _
  rw [← hg2]
  simp
theorem words_a2 {n : Nat} {a b c d : Int} {j : Nat} {pl found : List D} {w1 w2 : W} {o1 o2 : PyEv.Env} (e1 : callF P (n + 2) "_law_take" [.lst [.int a, .int b, .int c], .d (.int 6)] = .ok (.d (.int d)) o1) (hg1 : o1[0]?.getD none = some w1) (hj : 1 + d = (j : Int)) (a1 b1 c1 : Int) (hw1 : w1 = .lst [.int a1, .int b1, .int c1])
   (e2 : callF P (n + 2) "_law_some" [w1, .lst pl, .d (.int (j : Int))] = .ok (.lst found) o2) (hg2 : o2[0]?.getD none = some w2) :
    evS P (callF P (n + 2)) [0, 1, 2] (.ret (.bi .tuple (.call "_law_some" (.cons (.var 0) (.cons (.var 3) (.cons (.bin .add (.var 1) (.call "_law_take" (.cons (.var 0) (.cons (.bin .add (.bin .sub (.var 2) (.var 1)) (.k (.int 1))) .nil)))) .nil)))))) [some (.lst [.int a, .int b, .int c]), some (.d (.int 1)), some (.d (.int 6)), some (.lst pl)] = .rt (.d (.tup found)) [some w2, some (.d (.int 1)), some (.d (.int 6)), o2.getD 1 none] := by
  have x1 := words_b1 (pl := pl) e1 hg1 hj
  have x2 := words_b2 a1 b1 c1 hw1 e2 hg2
  simp only [evS, evE, lk__law_some, x1, x2, Res.bind, Res.fl, use, W.frz, Option.map, biF, Res.of, take]
theorem law_words {r : Nat} {w : W} (n : Nat) (h : PotR (r + 7) w) :
    ∃ ds w' outs, callF P (n + 3) "_law_words" [w, .d (.int 1), .d (.int 6)] = .ok (.d (.tup ds)) outs ∧ slot outs 0 = some w' ∧ PotR r w' ∧ 1 ≤ ds.length ∧ ds.length ≤ 6 ∧ ∀ x ∈ ds, ∃ s ∈ pool, x = .str s := by
  obtain ⟨d, w1, o1, e1, hs1, hw1, d0, d1⟩ := law_take (r := r + 6) (n + 1) h (u := 6) (by decide) (by decide)
  obtain ⟨a, b, c, rfl, _⟩ := h
  have hg1 := get0 hs1
  obtain ⟨j, hj⟩ : ∃ j : Nat, 1 + d = (j : Int) := ⟨(1 + d).toNat, by omega⟩
  obtain ⟨found, w2, o2, e2, hs2, hw2, hl, hm⟩ := law_some (r := r + 6 - j) (k := j) (ds := pool.map D.str) n (hw1.le (by omega)) (by simp [pool]; omega) (by simp [pool])
  obtain ⟨pa, pb, pc, rfl, _⟩ := hw1
  have hg2 := get0 hs2
  have hg3 : o2[1]?.getD none = o2.getD 1 none := by simp
  have hp : pool.map D.str = [.str "ann", .str "bob", .str "sees", .str "s", .str "row", .str "not", .str "like", .str "is", .str "a", .str "zzzzzzzz", .str "b", .str "words", .str "right", .str "tells"] := rfl
  refine ⟨found, w2, [some w2, some (.d (.int 1)), some (.d (.int 6)), o2.getD 1 none], ?_, rfl, hw2.le (by omega), by omega, by omega, fun x hx => ?_⟩
  · have a1 := words_a1 (n := n) (w := some (.lst [.int a, .int b, .int c]))
    have a2 := words_a2 e1 hg1 hj pa pb pc rfl e2 hg2
    rw [call_eq lk__law_words rfl]
    show finC (evSs P (callF P (n + 2)) [0, 1, 2] b__law_words [some (.lst [.int a, .int b, .int c]), some (.d (.int 1)), some (.d (.int 6)), none]) = _
    unfold b__law_words
    rw [seq_nx a1, seq_rt a2, finC]
  · obtain ⟨s, hs, rfl⟩ := List.mem_map.mp (hm x hx)
    exact ⟨s, hs, rfl⟩
theorem law_tree {ds : List D} (h1 : 1 ≤ ds.length) (h2 : ds.length ≤ 6) (hp : ∀ x ∈ ds, ∃ s ∈ pool, x = .str s) : ∀ (e : Nat) (m r : Nat) (w : W), 1 ≤ e → e ≤ 6 → e + 2 ≤ m → PotR (r + (3 * e - 2)) w →
    ∃ (t : Tr) (w' : W) (outs : PyEv.Env), callF P m "_law_tree" [w, .d (.tup ds), .d (.int (e : Int))] = .ok (.d t.D) outs ∧ slot outs 0 = some w' ∧ PotR r w' ∧ t.good ∧ t.ends.length = e := by
  intro e
  induction e using Nat.strongRecOn with
  | ind e ih =>
    intro m r w he he6 hm h
    obtain ⟨m, rfl⟩ : ∃ j, m = j + 3 := ⟨m - 3, by omega⟩
    by_cases e1 : e = 1
    · subst e1
      obtain ⟨x, w', o1, e1, hs, hw, hx⟩ := law_of (r := r) m h h1 (by omega)
      obtain ⟨s, hs', rfl⟩ := hp x hx
      obtain ⟨a, b, c, rfl, _⟩ := h
      have hg := get0 hs
      refine ⟨.leaf s, w', [some w', some (.d (.tup ds)), some (.d (.int 1)), none, none], ?_, rfl, hw, fun z hz => ?_, rfl⟩
      · rw [call_eq lk__law_tree rfl]
        simp [evSs, evS, evE, evIts, evAs, evIt, Res.bind, Res.fl, Res.of, Fl.then, use, useB, item, take, slot0, slot1, slot2, slot3, slot4, slot5, slot6, slot7, nxO, store, assignTg, Fl.val, D.isTy, W.frz, callA, bindA, backA, ixF, C.d, L2.atI, L2.ixN, binF, biF, cmpF, eqF_str, eqF_int, D.isNon, line, E.isNone, partB, Option.bind, f__law_tree, b__law_tree, lk__law_of, f__law_of, e1, hg, finC, Tr.D]
      · rcases List.mem_singleton.mp hz with rfl; exact hs'
    · obtain ⟨d, w1, o1, c1, hs1, hw1, d0, d1⟩ := law_take (r := r + (3 * e - 3)) (m + 1) (h.le (by omega)) (u := (e : Int) - 1) (by omega) (by omega)
      obtain ⟨d', w2, o2, c2, hs2, hw2, d0', d1'⟩ := law_take (r := r + (3 * e - 4)) (m + 1) (hw1.le (by omega)) (u := 2) (by decide) (by decide)
      obtain ⟨k, hk⟩ : ∃ k : Nat, 1 + d = (k : Int) := ⟨(1 + d).toNat, by omega⟩
      obtain ⟨t1, w3, o3, c3, hs3, hw3, g3, l3⟩ := ih k (by omega) (m + 2) (r + (3 * (e - k) - 2)) w2 (by omega) (by omega) (by omega) (hw2.le (by omega))
      obtain ⟨t2, w4, o4, c4, hs4, hw4, g4, l4⟩ := ih (e - k) (by omega) (m + 2) r w3 (by omega) (by omega) (by omega) hw3
      have hek : ((e - k : Nat) : Int) = (e : Int) - (k : Int) := by omega
      rw [hek] at c4
      obtain ⟨a, b, c, rfl, _⟩ := h
      obtain ⟨a1, b1, c1', rfl, _⟩ := hw1
      obtain ⟨a2, b2, c2', rfl, _⟩ := hw2
      obtain ⟨a3, b3, c3', rfl, _⟩ := hw3
      have hg1 := get0 hs1
      have hg2 := get0 hs2
      have hg3 := get0 hs3
      have hg4 := get0 hs4
      have ne1 : ¬ ((e : Int) = 1) := by omega
      have ne1' : ¬ e = 1 := e1
      obtain ⟨q, hq⟩ : ∃ q : Bool, L2.atI [D.str "right", D.str "left"] d' = some (.str (side q)) := by
        have : d' = 0 ∨ d' = 1 := by omega
        rcases this with rfl | rfl
        · exact ⟨true, rfl⟩
        · exact ⟨false, rfl⟩
      refine ⟨.node q t1 t2, w4, [some w4, some (.d (.tup ds)), some (.d (.int (e : Int))), some (.d (.int (k : Int))), some (.d (.str (side q)))], ?_, rfl, hw4, fun z hz => ?_, ?_⟩
      · rw [call_eq lk__law_tree rfl]
        simp [evSs, evS, evE, evIts, evAs, evIt, Res.bind, Res.fl, Res.of, Fl.then, use, useB, item, take, slot0, slot1, slot2, slot3, slot4, slot5, slot6, slot7, nxO, store, assignTg, Fl.val, D.isTy, W.frz, callA, bindA, backA, ixF, C.d, binF, biF, cmpF, eqF_str, eqF_int, D.isNon, line, E.isNone, partB, Option.bind, f__law_tree, b__law_tree, lk__law_tree, lk__law_take, f__law_take, ne1, ne1', c1, hg1, hk, c2, hg2, hq, c3, hg3, c4, hg4, finC, Tr.D]
      · rcases List.mem_append.mp hz with hz | hz
        · exact g3 z hz
        · exact g4 z hz
      · simp only [Tr.ends, List.length_append, l3, l4]; omega
end K01

set_option maxRecDepth 100000
set_option maxHeartbeats 4000000
namespace K01
open PyEv PySem
/-! ### the pot, a cell, the law -/
def M60 : Int := 10 ^ 60
def M300 : Int := M60 ^ 5
def M18 : Int := 10 ^ 18
theorem binPow {i j : Int} (h : 0 ≤ j ∧ (PySem.Builtin.Int.intBits i : Int) * j ≤ 2 ^ 27) : binF .pow (.int i) (.int j) = some (.d (.int (i ^ j.toNat))) := if_pos h
theorem pow60 : binF .pow (.int 10) (.int 60) = some (.d (.int M60)) := by rw [binPow (by decide +kernel)]; rfl
theorem pow300 : binF .pow (.int M60) (.int 5) = some (.d (.int M300)) := by rw [binPow (by decide +kernel)]; rfl
theorem pow18 : binF .pow (.int 10) (.int 18) = some (.d (.int M18)) := by rw [binPow (by decide +kernel)]; rfl
theorem M300_pos : 0 < M300 := by decide +kernel
theorem M300_le : M300.natAbs.log2 < 400000 := by decide +kernel
theorem mod300 (a : Int) : binF .mod (.int a) (.int M300) = some (.d (.int (a % M300))) := binMod M300_pos
theorem small300 (a : Int) : small (a % M300) := by
  have h1 := Int.emod_nonneg a (show M300 ≠ 0 by decide +kernel)
  have h2 := Int.emod_lt_of_pos a M300_pos
  exact small_le (B := M300.natAbs) (by omega) (by decide +kernel)
theorem mul300_1 (a : Int) : binF .mul (.int (a % M300)) (.int 1) = some (.d (.int (a % M300))) := by
  rw [binMul (small300 a) (small_of (by decide) (by decide)), Int.mul_one]
theorem mul300_0 (a : Int) : binF .mul (.int (a % M300)) (.int 0) = some (.d (.int 0)) := by
  rw [binMul (small300 a) (small_of (by decide) (by decide)), Int.mul_zero]
def potA : S := (.set 2 (.ifx (.cmp .lt (.var 1) (.bi .len (.var 0))) (.ix (.var 0) (.var 1)) (.bin .add (.bin .mul (.k (.int 175)) (.var 1)) (.k (.int 60)))))
def potB : S := (.set 3 (.bin .mul (.bin .mod (.bi .int (.bi .abs (.var 2))) (.bin .pow (.bin .pow (.k (.int 10)) (.k (.int 60))) (.k (.int 5)))) (.bi .int (.cmp .ge (.bi .abs (.var 2)) (.bin .pow (.k (.int 10)) (.k (.int 18)))))))
def potC : S := (.set 4 (.bin .mod (.bi .int (.var 2)) (.k (.int 2305843009213693951))))
def potD : S := (.ret (.lst (.cons (.var 3) (.cons (.bin .mod (.bi .int (.bin .add (.bin .add (.bin .mul (.var 4) (.k (.int 73599))) (.bin .mul (.bin .mul (.k (.int 8123)) (.var 1)) (.var 1))) (.k (.int 151)))) (.k (.int 2305843009213693921))) (.cons (.k (.int 0)) .nil)))))
theorem pot_body : b__law_pot = .cons potA (.cons potB (.cons potC (.cons potD .nil))) := rfl
theorem law_pot (n : Nat) (ns : List Int) (i : Nat) (hi : i < 6) : ∃ (a b : Int) (outs : PyEv.Env), callF P (n + 1) "_law_pot" [.d (.scr ns), .d (.int (i : Int))] = .ok (.lst [.int a, .int b, .int 0]) outs ∧ 0 ≤ a ∧ 0 ≤ b ∧ b < 2 ^ 62 := by
  have hA : ∃ c, evS P (callF P n) [0, 1] potA [some (.d (.scr ns)), some (.d (.int (i : Int))), none, none, none] = .nx [some (.d (.scr ns)), some (.d (.int (i : Int))), some (.d (.int c)), none, none] := by
    by_cases h : i < ns.length
    · have h1 : (i : Int) < (ns.length : Int) := by omega
      have h2 := L2.atI_nat (List.getElem?_eq_getElem h)
      refine ⟨ns[i], ?_⟩
      unfold potA
      simp [evSs, evS, evE, evIts, evAs, evIt, Res.bind, Res.fl, Res.of, Fl.then, use, useB, item, take, slot0, slot1, slot2, slot3, slot4, slot5, slot6, slot7, nxO, store, assignTg, Fl.val, D.isTy, W.frz, callA, bindA, backA, ixF, C.d, binF, biF, cmpF, eqF_str, eqF_int, D.isNon, line, E.isNone, partB, Option.bind, h1, h2, biF]
    · have h1 : ¬ (i : Int) < (ns.length : Int) := by omega
      have h3 : binF .mul (.int 175) (.int (i : Int)) = some (.d (.int (175 * (i : Int)))) := binMul (small_of (by decide) (by decide)) (small_of (by omega) (by omega))
      refine ⟨175 * (i : Int) + 60, ?_⟩
      unfold potA
      simp [evSs, evS, evE, evIts, evAs, evIt, Res.bind, Res.fl, Res.of, Fl.then, use, useB, item, take, slot0, slot1, slot2, slot3, slot4, slot5, slot6, slot7, nxO, store, assignTg, Fl.val, D.isTy, W.frz, callA, bindA, backA, ixF, C.d, L2.atI, L2.ixN, biF, cmpF, eqF_str, eqF_int, D.isNon, line, E.isNone, partB, Option.bind, h1, h3, binAdd, biF]
  obtain ⟨c, hA⟩ := hA
  have hB : ∃ a, evS P (callF P n) [0, 1] potB [some (.d (.scr ns)), some (.d (.int (i : Int))), some (.d (.int c)), none, none] = .nx [some (.d (.scr ns)), some (.d (.int (i : Int))), some (.d (.int c)), some (.d (.int a)), none] ∧ 0 ≤ a := by
    have nn : ∀ a, 0 ≤ a % M300 := fun a => Int.emod_nonneg a (show M300 ≠ 0 by decide +kernel)
    by_cases hc : c < 0
    · by_cases h18 : M18 ≤ -c
      · refine ⟨(-c) % M300, ?_, nn _⟩
        unfold potB
        simp [evSs, evS, evE, evIts, evAs, evIt, Res.bind, Res.fl, Res.of, Fl.then, use, useB, item, take, slot0, slot1, slot2, slot3, slot4, slot5, slot6, slot7, nxO, store, assignTg, Fl.val, D.isTy, W.frz, callA, bindA, backA, ixF, C.d, L2.atI, L2.ixN, biF, cmpF, eqF_str, eqF_int, D.isNon, line, E.isNone, partB, Option.bind, hc, h18, pow60, pow300, pow18, mod300, mul300_1, mul300_0, biF]
      · refine ⟨0, ?_, by omega⟩
        unfold potB
        simp [evSs, evS, evE, evIts, evAs, evIt, Res.bind, Res.fl, Res.of, Fl.then, use, useB, item, take, slot0, slot1, slot2, slot3, slot4, slot5, slot6, slot7, nxO, store, assignTg, Fl.val, D.isTy, W.frz, callA, bindA, backA, ixF, C.d, L2.atI, L2.ixN, biF, cmpF, eqF_str, eqF_int, D.isNon, line, E.isNone, partB, Option.bind, hc, h18, pow60, pow300, pow18, mod300, mul300_1, mul300_0, biF]
    · by_cases h18 : M18 ≤ c
      · refine ⟨c % M300, ?_, nn _⟩
        unfold potB
        simp [evSs, evS, evE, evIts, evAs, evIt, Res.bind, Res.fl, Res.of, Fl.then, use, useB, item, take, slot0, slot1, slot2, slot3, slot4, slot5, slot6, slot7, nxO, store, assignTg, Fl.val, D.isTy, W.frz, callA, bindA, backA, ixF, C.d, L2.atI, L2.ixN, biF, cmpF, eqF_str, eqF_int, D.isNon, line, E.isNone, partB, Option.bind, hc, h18, pow60, pow300, pow18, mod300, mul300_1, mul300_0, biF]
      · refine ⟨0, ?_, by omega⟩
        unfold potB
        simp [evSs, evS, evE, evIts, evAs, evIt, Res.bind, Res.fl, Res.of, Fl.then, use, useB, item, take, slot0, slot1, slot2, slot3, slot4, slot5, slot6, slot7, nxO, store, assignTg, Fl.val, D.isTy, W.frz, callA, bindA, backA, ixF, C.d, L2.atI, L2.ixN, biF, cmpF, eqF_str, eqF_int, D.isNon, line, E.isNone, partB, Option.bind, hc, h18, pow60, pow300, pow18, mod300, mul300_1, mul300_0, biF]
  obtain ⟨a, hB, ha⟩ := hB
  have hC : evS P (callF P n) [0, 1] potC [some (.d (.scr ns)), some (.d (.int (i : Int))), some (.d (.int c)), some (.d (.int a)), none] = .nx [some (.d (.scr ns)), some (.d (.int (i : Int))), some (.d (.int c)), some (.d (.int a)), some (.d (.int (c % 2305843009213693951)))] := by
    unfold potC
    simp [evSs, evS, evE, evIts, evAs, evIt, Res.bind, Res.fl, Res.of, Fl.then, use, useB, item, take, slot0, slot1, slot2, slot3, slot4, slot5, slot6, slot7, nxO, store, assignTg, Fl.val, D.isTy, W.frz, callA, bindA, backA, ixF, C.d, L2.atI, L2.ixN, biF, cmpF, eqF_str, eqF_int, D.isNon, line, E.isNone, partB, Option.bind, binMod, biF]
  have s0 := Int.emod_nonneg c (show (2305843009213693951 : Int) ≠ 0 by decide)
  have s1 := Int.emod_lt_of_pos c (show (0 : Int) < 2305843009213693951 by decide)
  generalize c % 2305843009213693951 = s at hC s0 s1
  have hD : ∃ b, evS P (callF P n) [0, 1] potD [some (.d (.scr ns)), some (.d (.int (i : Int))), some (.d (.int c)), some (.d (.int a)), some (.d (.int s))] = .rt (.lst [.int a, .int b, .int 0]) [some (.d (.scr ns)), some (.d (.int (i : Int))), some (.d (.int c)), some (.d (.int a)), some (.d (.int s))] ∧ 0 ≤ b ∧ b < 2 ^ 62 := by
    have m1 : binF .mul (.int s) (.int 73599) = some (.d (.int (s * 73599))) := binMul (small_of (by omega) (by omega)) (small_of (by decide) (by decide))
    have m2 : binF .mul (.int 8123) (.int (i : Int)) = some (.d (.int (8123 * (i : Int)))) := binMul (small_of (by decide) (by decide)) (small_of (by omega) (by omega))
    have m3 : binF .mul (.int (8123 * (i : Int))) (.int (i : Int)) = some (.d (.int (8123 * (i : Int) * (i : Int)))) := binMul (small_of (by omega) (by omega)) (small_of (by omega) (by omega))
    refine ⟨(s * 73599 + 8123 * (i : Int) * (i : Int) + 151) % 2305843009213693921, ?_, Int.emod_nonneg _ (by decide), Int.lt_of_lt_of_le (Int.emod_lt_of_pos _ (by decide)) (by decide)⟩
    unfold potD
    simp [evSs, evS, evE, evIts, evAs, evIt, Res.bind, Res.fl, Res.of, Fl.then, use, useB, item, take, slot0, slot1, slot2, slot3, slot4, slot5, slot6, slot7, nxO, store, assignTg, Fl.val, D.isTy, W.frz, callA, bindA, backA, ixF, C.d, L2.atI, L2.ixN, biF, cmpF, eqF_str, eqF_int, D.isNon, line, E.isNone, partB, Option.bind, m1, m2, m3, binAdd, binMod, biF]
  obtain ⟨b, hD, hb, hb2⟩ := hD
  refine ⟨a, b, [some (.d (.scr ns)), some (.d (.int (i : Int))), some (.d (.int c)), some (.d (.int a)), some (.d (.int s))], ?_, ha, hb, hb2⟩
  rw [call_eq lk__law_pot rfl]
  show finC (evSs P (callF P n) [0, 1] b__law_pot [some (.d (.scr ns)), some (.d (.int (i : Int))), none, none, none]) = _
  rw [pot_body, seq_nx hA, seq_nx hB, seq_nx hC, seq_rt hD, finC]
/-! ### a cell -/
def rBody : Ss := (.cons (.ife (.not (.call "_law_is_right" (.cons (.call "_law_tree" (.cons (.var 0) (.cons (.var 1) (.cons (.call "_law_of" (.cons (.var 0) (.cons (.lst (.cons (.k (.int 1)) (.cons (.k (.int 2)) (.cons (.k (.int 3)) (.cons (.k (.int 4)) (.cons (.k (.int 5)) (.cons (.k (.int 6)) .nil))))))) .nil))) .nil)))) .nil))) (.cons (.ret (.k (.bl false))) .nil) .nil) .nil)
theorem for_right : for__law_right_0 = .for (.one 2) (.range1 (.k (.int 12))) rBody := rfl
theorem right_body {n r : Nat} {w : W} {o : Option W} {ds : List D} (h : PotR (r + 17) w) (h1 : 1 ≤ ds.length) (h2 : ds.length ≤ 6) (hp : ∀ x ∈ ds, ∃ s ∈ pool, x = .str s) :
    ∃ w', evSs P (callF P (n + 12)) [0] rBody [some w, some (.d (.tup ds)), o] = .nx [some w', some (.d (.tup ds)), o] ∧ PotR r w' := by
  obtain ⟨x, w1, o1, e1, hs1, hw1, hx⟩ := law_of_l (r := r + 16) (n + 10) h (ds := [.int 1, .int 2, .int 3, .int 4, .int 5, .int 6]) (by decide) (by decide)
  obtain ⟨e, rfl, he1, he6⟩ : ∃ e : Nat, x = .int (e : Int) ∧ 1 ≤ e ∧ e ≤ 6 := by
    simp only [List.mem_cons, List.not_mem_nil, or_false] at hx
    rcases hx with rfl | rfl | rfl | rfl | rfl | rfl
    · exact ⟨1, rfl, by omega, by omega⟩
    · exact ⟨2, rfl, by omega, by omega⟩
    · exact ⟨3, rfl, by omega, by omega⟩
    · exact ⟨4, rfl, by omega, by omega⟩
    · exact ⟨5, rfl, by omega, by omega⟩
    · exact ⟨6, rfl, by omega, by omega⟩
  obtain ⟨t, w2, o2, e2, hs2, hw2, g, hl⟩ := law_tree h1 h2 hp e (n + 12) r w1 he1 he6 (by omega) (hw1.le (by omega))
  obtain ⟨o3, e3⟩ := is_right t n g (by omega)
  obtain ⟨a, b, c, rfl, _⟩ := h
  obtain ⟨a1, b1, c1, rfl, _⟩ := hw1
  have hg1 := get0 hs1
  have hg2 := get0 hs2
  refine ⟨w2, ?_, hw2⟩
  unfold rBody
  simp [evSs, evS, evE, evIts, evAs, evIt, Res.bind, Res.fl, Res.of, Fl.then, use, useB, item, take, slot0, slot1, slot2, slot3, slot4, slot5, slot6, slot7, nxO, store, assignTg, Fl.val, D.isTy, W.frz, callA, bindA, backA, ixF, C.d, L2.atI, L2.ixN, binF, biF, cmpF, eqF_str, eqF_int, D.isNon, line, E.isNone, partB, Option.bind, lk__law_is_right, lk__law_tree, lk__law_of, f__law_is_right, f__law_tree, f__law_of, e1, hg1, e2, hg2, e3]
theorem law_right {w : W} (n : Nat) (h : PotR 300 w) : Ret P (n + 13) "_law_right" [w] (.d (.bl true)) := by
  obtain ⟨ds, w1, o1, e1, hs1, hw1, h1, h2, hp⟩ := law_words (r := 290) (n + 9) (h.le (by omega))
  obtain ⟨a, b, c, rfl, _⟩ := h
  have hg1 := get0 hs1
  have a1 : evS P (callF P (n + 12)) [0] (.set 1 (.call "_law_words" (.cons (.var 0) (.cons (.k (.int 1)) (.cons (.k (.int 6)) .nil))))) [some (.lst [.int a, .int b, .int c]), none, none] = .nx [some w1, some (.d (.tup ds)), none] := by
    simp [evSs, evS, evE, evIts, evAs, evIt, Res.bind, Res.fl, Res.of, Fl.then, use, useB, item, take, slot0, slot1, slot2, slot3, slot4, slot5, slot6, slot7, nxO, store, assignTg, Fl.val, D.isTy, W.frz, callA, bindA, backA, ixF, C.d, L2.atI, L2.ixN, binF, biF, cmpF, eqF_str, eqF_int, D.isNon, line, E.isNone, partB, Option.bind, lk__law_words, f__law_words, e1, hg1]
  obtain ⟨xs, hr, hl, _⟩ := range_len (k := 12) (by omega)
  obtain ⟨env', loop, w2, o2, rfl, _⟩ := forL_run (keep := [0]) (tg := .one 2) (body := fun env => evSs P (callF P (n + 12)) [0] rBody env) (fun xs env => ∃ w o, env = [some w, some (.d (.tup ds)), o] ∧ PotR (17 * xs.length) w)
    (fun x xs env ⟨w, o, e, hw⟩ => by
      subst e
      obtain ⟨w', e', hw'⟩ := right_body (n := n) (r := 17 * xs.length) (o := some (.d x)) (hw.le (by simp; omega)) h1 h2 hp
      refine ⟨_, _, ?_, e', _, _, rfl, hw'⟩
      simp [evSs, evS, evE, evIts, evAs, evIt, Res.bind, Res.fl, Res.of, Fl.then, use, useB, item, take, slot0, slot1, slot2, slot3, slot4, slot5, slot6, slot7, nxO, store, assignTg, Fl.val, D.isTy, W.frz, callA, bindA, backA, ixF, C.d, L2.atI, L2.ixN, binF, biF, cmpF, eqF_str, eqF_int, D.isNon, line, E.isNone, partB, Option.bind]) xs [some w1, some (.d (.tup ds)), none] ⟨_, _, rfl, hw1.le (by omega)⟩
  have a2 : evS P (callF P (n + 12)) [0] for__law_right_0 [some w1, some (.d (.tup ds)), none] = .nx [some w2, some (.d (.tup ds)), o2] := by
    have e1 : evIt P (callF P (n + 12)) [0] (.range1 (.k (.int 12))) [some w1, some (.d (.tup ds)), none] = .ok xs [some w1, some (.d (.tup ds)), none] := by
      refine evIt_range1 (a := .val (.d (.int 12))) (i := 12) ?_ rfl hr
      simp [evSs, evS, evE, evIts, evAs, evIt, Res.bind, Res.fl, Res.of, Fl.then, use, useB, item, take, slot0, slot1, slot2, slot3, slot4, slot5, slot6, slot7, nxO, store, assignTg, Fl.val, D.isTy, W.frz, callA, bindA, backA, ixF, C.d, L2.atI, L2.ixN, binF, biF, cmpF, eqF_str, eqF_int, D.isNon, line, E.isNone, partB, Option.bind]
    rw [for_right]
    have e2 : evS P (callF P (n + 12)) [0] (.for (.one 2) (.range1 (.k (.int 12))) rBody) [some w1, some (.d (.tup ds)), none] = (evIt P (callF P (n + 12)) [0] (.range1 (.k (.int 12))) [some w1, some (.d (.tup ds)), none]).fl fun xs env => forL [0] (.one 2) (fun env => evSs P (callF P (n + 12)) [0] rBody env) xs env := by
      simp only [evS]
    rw [e2, e1]
    simp only [Res.fl]
    exact loop
  have a3 : evS P (callF P (n + 12)) [0] (.ret (.k (.bl true))) [some w2, some (.d (.tup ds)), o2] = .rt (.d (.bl true)) [some w2, some (.d (.tup ds)), o2] := by
    simp [evSs, evS, evE, evIts, evAs, evIt, Res.bind, Res.fl, Res.of, Fl.then, use, useB, item, take, slot0, slot1, slot2, slot3, slot4, slot5, slot6, slot7, nxO, store, assignTg, Fl.val, D.isTy, W.frz, callA, bindA, backA, ixF, C.d, L2.atI, L2.ixN, binF, biF, cmpF, eqF_str, eqF_int, D.isNon, line, E.isNone, partB, Option.bind]
  refine ⟨[some w2, some (.d (.tup ds)), o2], ?_⟩
  rw [call_eq lk__law_right rfl]
  show finC (evSs P (callF P (n + 12)) [0] b__law_right [some (.lst [.int a, .int b, .int c]), none, none]) = _
  unfold b__law_right
  rw [seq_nx a1, seq_nx a2, seq_rt a3, finC]
theorem evE_listRange {P : Prog} {cf : PySem.Str → List W → CRes} {keep : List Nat} {e : E} {env env' : PyEv.Env} {a : Ar} {i : Int} {xs : List D} (h : evE P cf keep e env = .ok a env') (hu : use env' a = some (.int i)) (hl : i ≤ line) (hr : rangeF 0 i = some xs) : evE P cf keep (.listRange e) env = .ok (.val (.lst xs)) env' := by
  simp only [evE, h, Res.bind, hu, hr, Res.of, if_pos hl, Option.map]
theorem law_cells (n : Nat) (ns : List Int) : ∃ xs outs, callF P (n + 1) "_law_cells" [.d (.scr ns), .d (.int 6)] = .ok (.lst xs) outs ∧ xs.length ≤ 6 ∧ ∀ x ∈ xs, ∃ i : Nat, i < 6 ∧ x = .int (i : Int) := by
  obtain ⟨k, hk, hk6⟩ : ∃ k : Nat, (if (if (ns.length : Int) < 6 then (ns.length : Int) else 6) > 1 then (if (ns.length : Int) < 6 then (ns.length : Int) else 6) else 1) = (k : Int) ∧ k ≤ 6 := by
    refine ⟨(if (if (ns.length : Int) < 6 then (ns.length : Int) else 6) > 1 then (if (ns.length : Int) < 6 then (ns.length : Int) else 6) else 1).toNat, ?_, ?_⟩ <;> (split <;> split <;> omega)
  obtain ⟨xs, hr, hl, hx⟩ := range_len (k := k) (by omega)
  refine ⟨xs, [some (.d (.scr ns)), some (.d (.int 6))], ?_, by omega, fun x hm => ?_⟩
  · rw [call_eq lk__law_cells rfl]
    have e1 : evE P (callF P n) [0, 1] (.mm true (.k (.int 1)) (.mm false (.var 1) (.bi .len (.var 0)))) [some (.d (.scr ns)), some (.d (.int 6))] = .ok (.val (.d (.int (k : Int)))) [some (.d (.scr ns)), some (.d (.int 6))] := by
      rw [← hk]
      simp [evSs, evS, evE, evIts, evAs, evIt, Res.bind, Res.fl, Res.of, Fl.then, use, useB, item, take, slot0, slot1, slot2, slot3, slot4, slot5, slot6, slot7, nxO, store, assignTg, Fl.val, D.isTy, W.frz, callA, bindA, backA, ixF, C.d, L2.atI, L2.ixN, binF, biF, cmpF, eqF_str, eqF_int, D.isNon, line, E.isNone, partB, Option.bind, biF]
    have e2 : evE P (callF P n) [0, 1] (.listRange (.mm true (.k (.int 1)) (.mm false (.var 1) (.bi .len (.var 0))))) [some (.d (.scr ns)), some (.d (.int 6))] = .ok (.val (.lst xs)) [some (.d (.scr ns)), some (.d (.int 6))] := by
      exact evE_listRange e1 rfl (by unfold line; omega) hr
    have e3 : evS P (callF P n) [0, 1] (.ret (.listRange (.mm true (.k (.int 1)) (.mm false (.var 1) (.bi .len (.var 0)))))) [some (.d (.scr ns)), some (.d (.int 6))] = .rt (.lst xs) [some (.d (.scr ns)), some (.d (.int 6))] := by
      rw [evS, e2]
      simp only [Res.fl, take]
    show finC (evSs P (callF P n) [0, 1] b__law_cells [some (.d (.scr ns)), some (.d (.int 6))]) = _
    unfold b__law_cells
    rw [seq_rt e3, finC]
  · subst hx
    obtain ⟨i, hi, rfl⟩ := List.mem_map.mp hm
    exact ⟨i, by have := List.mem_range.mp hi; omega, rfl⟩
theorem main : ∀ ns : List Int, ns.length ≤ 63 → ∃ outs, PyEv.callF K01.P 65 "law" [.d (.scr ns)] = .ok (.d (.bl true)) outs := by
  intro ns hns
  obtain ⟨xs, oc, ec, hlen, hxs⟩ := law_cells 63 ns
  obtain ⟨env', e, o', rfl⟩ := lcL_map (keep := [0]) (tg := .one 1) (own := [("_law_place", 1)]) (ct := fun env => .ok true env) (ce := fun env => (evE P (callF P 64) [0] (.call "_law_right" (.cons (.call "_law_pot" (.cons (.var 0) (.cons (.var 1) .nil))) .nil)) env).bind item) (fun _ => .bl true) (fun env => ∃ o, env = [some (.d (.scr ns)), o])
    xs [] [some (.d (.scr ns)), none] (by
      rintro x hx env ⟨o, rfl⟩
      obtain ⟨i, hi, rfl⟩ := hxs x hx
      obtain ⟨a, b, o1, e1, ha, hb, hb2⟩ := law_pot 63 ns i hi
      obtain ⟨o2, e2⟩ := law_right 51 (w := .lst [.int a, .int b, .int 0]) ⟨a, b, 0, rfl, ha, hb, hb2, by omega, by omega⟩
      refine ⟨[some (.d (.scr ns)), some (.d (.int (i : Int)))], _, [some (.d (.scr ns)), some (.d (.int (i : Int)))], ?_, rfl, ?_, _, rfl⟩
      · simp [evSs, evS, evE, evIts, evAs, evIt, Res.bind, Res.fl, Res.of, Fl.then, use, useB, item, take, slot0, slot1, slot2, slot3, slot4, slot5, slot6, slot7, nxO, store, assignTg, Fl.val, D.isTy, W.frz, callA, bindA, backA, ixF, C.d, L2.atI, L2.ixN, binF, biF, cmpF, eqF_str, eqF_int, D.isNon, line, E.isNone, partB, Option.bind, wipeE]
      · simp [evSs, evS, evE, evIts, evAs, evIt, Res.bind, Res.fl, Res.of, Fl.then, use, useB, item, take, slot0, slot1, slot2, slot3, slot4, slot5, slot6, slot7, nxO, store, assignTg, Fl.val, D.isTy, W.frz, callA, bindA, backA, ixF, C.d, L2.atI, L2.ixN, binF, biF, cmpF, eqF_str, eqF_int, D.isNon, line, E.isNone, partB, Option.bind, lk__law_right, lk__law_pot, f__law_right, f__law_pot, e1, e2]) ⟨none, rfl⟩ (by simp [line]; omega)
  simp only [List.nil_append] at e
  have hc : evIt P (callF P 64) [0] (.seq (.call "_law_cells" (.cons (.var 0) (.cons (.k (.int 6)) .nil)))) [some (.d (.scr ns)), none] = .ok xs [some (.d (.scr ns)), none] := by
    simp [evSs, evS, evE, evIts, evAs, evIt, Res.bind, Res.fl, Res.of, Fl.then, use, useB, item, take, slot0, slot1, slot2, slot3, slot4, slot5, slot6, slot7, nxO, store, assignTg, Fl.val, D.isTy, W.frz, callA, bindA, backA, ixF, C.d, L2.atI, L2.ixN, binF, biF, cmpF, eqF_str, eqF_int, D.isNon, line, E.isNone, partB, Option.bind, itemsF, lk__law_cells, f__law_cells, ec]
  have hlc : evE P (callF P 64) [0] lc_law_0 [some (.d (.scr ns)), none] = .ok (.val (.lst (xs.map fun _ => D.bl true))) (wipeE [some (.d (.scr ns)), o'] [("_law_place", 1)]) := by
    simp only [lc_law_0, evE, hc, Res.bind, E.isNone]
    simp only [if_true]
    erw [e]
  refine ret_of lk_law rfl ?_
  show (evSs P (callF P 64) [0] b_law [some (.d (.scr ns)), none]).val = _
  unfold b_law
  simp [evSs, evS, evE, evIts, evAs, evIt, Res.bind, Res.fl, Res.of, Fl.then, use, useB, item, take, slot0, slot1, slot2, slot3, slot4, slot5, slot6, slot7, nxO, store, assignTg, Fl.val, D.isTy, W.frz, callA, bindA, backA, ixF, C.d, L2.atI, L2.ixN, binF, biF, cmpF, eqF_str, eqF_int, D.isNon, line, E.isNone, partB, Option.bind, hlc, all_true, biF]
end K01

set_option maxRecDepth 100000
open PySem PySem.W PyProof.Rows
set_option maxRecDepth 100000 in
set_option maxHeartbeats 0 in
theorem PySem.Challenge.cw_typesunwritten_k01_whole_readings_there_holds : PySem.Challenge.rw_typesunwritten_k01_whole_readings_there.Holds := by
  w_on; o_law; k_head; (case hw => w_witness2)
  k_fill
  refine PyEv.walk (l := PySem.Challenge.rw_typesunwritten_k01_whole_readings_there) (n := 63) (k := 65) K01.P K01.f_law rfl (by decide) rfl ⟨rfl, by decide, by decide⟩ (fun w h Y => PySem.W.kIn_of Y) ?T K01.look K01.main
  case T =>
    intro w mg h KX G
    refine ⟨PyEv.AllDefs.of ?fs, PyEv.AllBlt.of (l := PyEv.bltNames) KX G ?bs, PyEv.AllCons.of ?cs⟩
    case fs =>
      refine ⟨?_, ?_⟩
      · refine' K01.d_is_name KX G ?a ?l ?c ?k
        (case a => k_is); (case l => k_is); (case c => k_is); (case k => k_is)
      refine ⟨?_, ?_⟩
      · refine' K01.d_is_threefold KX G ?a ?l ?c ?k
        (case a => k_is); (case l => k_is); (case c => k_is); (case k => k_is)
      refine ⟨?_, ?_⟩
      · refine' K01.d_is_tree KX G ?a ?l ?c ?k
        (case a => k_is); (case l => k_is); (case c => k_is); (case k => k_is)
      refine ⟨?_, ?_⟩
      · refine' K01.d_ends_of KX G ?a ?l ?c ?k
        (case a => k_is); (case l => k_is); (case c => k_is); (case k => k_is)
      refine ⟨?_, ?_⟩
      · refine' K01.d_is_reading KX G ?a ?l ?c ?k
        (case a => k_is); (case l => k_is); (case c => k_is); (case k => k_is)
      refine ⟨?_, ?_⟩
      · refine' K01.d_check_reading KX G ?a ?l ?c ?k
        (case a => k_is); (case l => k_is); (case c => k_is); (case k => k_is)
      refine ⟨?_, ?_⟩
      · refine' K01.d_spelled KX G ?a ?l ?c ?k
        (case a => k_is); (case l => k_is); (case c => k_is); (case k => k_is)
      refine ⟨?_, ?_⟩
      · refine' K01.d_text_of KX G ?a ?l ?c ?k
        (case a => k_is); (case l => k_is); (case c => k_is); (case k => k_is)
      refine ⟨?_, ?_⟩
      · refine' K01.d_read_name KX G ?a ?l ?c ?k
        (case a => k_is); (case l => k_is); (case c => k_is); (case k => k_is)
      refine ⟨?_, ?_⟩
      · refine' K01.d_read_tree KX G ?a ?l ?c ?k
        (case a => k_is); (case l => k_is); (case c => k_is); (case k => k_is)
      refine ⟨?_, ?_⟩
      · refine' K01.d_reading_in KX G ?a ?l ?c ?k
        (case a => k_is); (case l => k_is); (case c => k_is); (case k => k_is)
      refine ⟨?_, ?_⟩
      · refine' K01.d_reading_of KX G ?a ?l ?c ?k
        (case a => k_is); (case l => k_is); (case c => k_is); (case k => k_is)
      refine ⟨?_, ?_⟩
      · refine' K01.d_row_of KX G ?a ?l ?c ?k
        (case a => k_is); (case l => k_is); (case c => k_is); (case k => k_is)
      refine ⟨?_, ?_⟩
      · refine' K01.d_parts_in KX G ?a ?l ?c ?k
        (case a => k_is); (case l => k_is); (case c => k_is); (case k => k_is)
      refine ⟨?_, ?_⟩
      · refine' K01.d_parts KX G ?a ?l ?c ?k
        (case a => k_is); (case l => k_is); (case c => k_is); (case k => k_is)
      refine ⟨?_, ?_⟩
      · refine' K01.d_turned KX G ?a ?l ?c ?k
        (case a => k_is); (case l => k_is); (case c => k_is); (case k => k_is)
      refine ⟨?_, ?_⟩
      · refine' K01.d_mirrored KX G ?a ?l ?c ?k
        (case a => k_is); (case l => k_is); (case c => k_is); (case k => k_is)
      refine ⟨?_, ?_⟩
      · refine' K01.d__law_pot KX G ?a ?l ?c ?k
        (case a => k_is); (case l => k_is); (case c => k_is); (case k => k_is)
      refine ⟨?_, ?_⟩
      · refine' K01.d__law_take KX G ?a ?l ?c ?k
        (case a => k_is); (case l => k_is); (case c => k_is); (case k => k_is)
      refine ⟨?_, ?_⟩
      · refine' K01.d__law_of KX G ?a ?l ?c ?k
        (case a => k_is); (case l => k_is); (case c => k_is); (case k => k_is)
      refine ⟨?_, ?_⟩
      · refine' K01.d__law_some KX G ?a ?l ?c ?k
        (case a => k_is); (case l => k_is); (case c => k_is); (case k => k_is)
      refine ⟨?_, ?_⟩
      · refine' K01.d__law_cells KX G ?a ?l ?c ?k
        (case a => k_is); (case l => k_is); (case c => k_is); (case k => k_is)
      refine ⟨?_, ?_⟩
      · refine' K01.d__law_ends KX G ?a ?l ?c ?k
        (case a => k_is); (case l => k_is); (case c => k_is); (case k => k_is)
      refine ⟨?_, ?_⟩
      · refine' K01.d__law_spelled KX G ?a ?l ?c ?k
        (case a => k_is); (case l => k_is); (case c => k_is); (case k => k_is)
      refine ⟨?_, ?_⟩
      · refine' K01.d__law_parts KX G ?a ?l ?c ?k
        (case a => k_is); (case l => k_is); (case c => k_is); (case k => k_is)
      refine ⟨?_, ?_⟩
      · refine' K01.d__law_words KX G ?a ?l ?c ?k
        (case a => k_is); (case l => k_is); (case c => k_is); (case k => k_is)
      refine ⟨?_, ?_⟩
      · refine' K01.d__law_tree KX G ?a ?l ?c ?k
        (case a => k_is); (case l => k_is); (case c => k_is); (case k => k_is)
      refine ⟨?_, ?_⟩
      · refine' K01.d__law_mirrored KX G ?a ?l ?c ?k
        (case a => k_is); (case l => k_is); (case c => k_is); (case k => k_is)
      refine ⟨?_, ?_⟩
      · refine' K01.d__law_is_right KX G ?a ?l ?c ?k
        (case a => k_is); (case l => k_is); (case c => k_is); (case k => k_is)
      refine ⟨?_, ?_⟩
      · refine' K01.d__law_right KX G ?a ?l ?c ?k
        (case a => k_is); (case l => k_is); (case c => k_is); (case k => k_is)
      refine ⟨?_, ?_⟩
      · refine' K01.d_law KX G ?a ?l ?c ?k
        (case a => k_is); (case l => k_is); (case c => k_is); (case k => k_is)
      exact trivial
    case bs =>
      refine ⟨?_, ?_, ?_, ?_, ?_, ?_, ?_, ?_, ?_, ?_, ?_, ?_, ?_, ?_, ?_, ?_, ?_, trivial⟩
      · k_is
      · k_is
      · k_is
      · k_is
      · k_is
      · k_is
      · k_is
      · k_is
      · k_is
      · k_is
      · k_is
      · k_is
      · k_is
      · k_is
      · k_is
      · k_is
      · k_is
    case cs =>
      refine ⟨?_, ?_⟩
      · refine' PyEv.con_int KX G ?a
        (case a => k_is)
      refine ⟨?_, ?_⟩
      · refine' PyEv.con_int KX G ?a
        (case a => k_is)
      refine ⟨?_, ?_⟩
      · refine' PyEv.con_str KX G ?a
        (case a => k_is)
      refine ⟨?_, ?_⟩
      · refine' PyEv.con_str KX G ?a
        (case a => k_is)
      refine ⟨?_, ?_⟩
      · refine' PyEv.con_dct KX G ?a ?l ?low ?kl ?dn
        (case a => k_is); (case l => k_is); (case low => first | rfl | decide)
        (case kl => exact .sS rfl rfl rfl (.sS rfl rfl rfl (.nil)))
        (case dn => exact fun _ => .cons (.str _) (.cons (.str _) (.nil)))
      refine ⟨?_, ?_⟩
      · refine' PyEv.con_dct KX G ?a ?l ?low ?kl ?dn
        (case a => k_is); (case l => k_is); (case low => first | rfl | decide)
        (case kl => exact .sS rfl rfl rfl (.sS rfl rfl rfl (.nil)))
        (case dn => exact fun _ => .cons (.str _) (.cons (.str _) (.nil)))
      refine ⟨?_, ?_⟩
      · refine' PyEv.con_dct KX G ?a ?l ?low ?kl ?dn
        (case a => k_is); (case l => k_is); (case low => first | rfl | decide)
        (case kl => exact .sS rfl rfl rfl (.sS rfl rfl rfl (.nil)))
        (case dn => exact fun _ => .cons (.str _) (.cons (.str _) (.nil)))
      exact trivial
