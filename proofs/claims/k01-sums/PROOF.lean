import PyProof.Rows.All
import Wide.All
import OpenK.AllK
import Wide.FinOn
import HandS.ForMost
import HandS.ForExc
import HandS.Wide
import HandS.TupAny
import HandS.TupMul
import HandS.IsInst
import HandS.ExcIs
import HandS.Zip
import HandS.Style
import HandS.SortKw
import KE.DatumOrd
import HandS.Iter
import KE.GoesMore
import KE.GoesZip
import KE.GoesEnum
import PyProof.LongRange
import PyProof.Draws
import HandS.More
import PySem.Challenge.RW_casewood_k01_sums
set_option Elab.async false
set_option linter.all false
set_option maxRecDepth 100000
set_option maxHeartbeats 4000000
/-! 1. Data, the compact texts, their interpreter. -/
namespace Cw
open PySem
inductive D where
  | non | bl (b : Bool) | int (i : Int) | str (x : Str) | tup (ds : List D) | lst (ds : List D) | scr (ns : List Int)
instance : Inhabited D := ⟨.non⟩
/-- what a slot holds: data; a cell of the store; a tuple of cells; an exception of class c -/
inductive W where
  | d (x : D) | r (n : Nat) | rt (ns : List Nat) | exc (c : Nat)
inductive Cell where
  | lst (ds : List D) | dct (kvs : List (D × D))
abbrev Store := List Cell
abbrev Env := List (Option W)
inductive Rs (A : Type) where
  | val (a : A) | exc (c : Nat)
abbrev Out (A : Type) := Option (Rs A × Store)
/-- what a def does: by its number, the arguments, the store -/
abbrev Den := Nat → List W → Store → Out W
def bnd {A B : Type} (m : Out A) (f : A → Store → Out B) : Out B := match m with
  | none => none
  | some (.exc c, s) => some (.exc c, s)
  | some (.val a, s) => f a s
def ret {A : Type} (a : A) (s : Store) : Out A := some (.val a, s)
def lift {A : Type} (o : Option A) (s : Store) : Out A := match o with
  | none => none
  | some a => some (.val a, s)
mutual
def toPy : D → PyData
  | .non => .none
  | .bl b => .bool b
  | .int i => .int i
  | .str x => .str x
  | .tup ds => .tuple (toPys ds)
  | .lst ds => .list (toPys ds)
  | .scr ns => .list (ns.map .int)
def toPys : List D → List PyData
  | [] => []
  | d :: ds => toPy d :: toPys ds
end
/-- == of python -/
def deq (a b : D) : Bool := PyData.eqv (toPy a) (toPy b)
def shp (a : D) : Bool := SeqAt.shaped (toPy a)
def LIM : Nat := 1000000
inductive Op2 where
  | add | sub | mul | md | fd | pw
  deriving DecidableEq
inductive Cp where
  | eq | ne | lt | le | gt | ge | isin | notin
  deriving DecidableEq
def mulOk (i j : Int) : Bool := decide (i.natAbs < 2 ^ 64) || decide (j.natAbs < 2 ^ 64) || decide (i.natAbs.log2 + j.natAbs.log2 < 1000000)
def addD : D → D → Option D
  | .int i, .int j => some (.int (i + j))
  | .str x, .str y => if x.length + y.length ≤ LIM then some (.str (x ++ y)) else none
  | .tup x, .tup y => if x.length + y.length ≤ LIM then some (.tup (x ++ y)) else none
  | .lst x, .lst y => if x.length + y.length ≤ LIM then some (.lst (x ++ y)) else none
  | _, _ => none
def subD : D → D → Option D
  | .int i, .int j => some (.int (i - j))
  | _, _ => none
def repD (x : List D) (k : Int) : List D := (List.replicate k.toNat x).flatten
def mulD : D → D → Option D
  | .int i, .int j => if mulOk i j = true then some (.int (i * j)) else none
  | .tup x, .int k => if x.length ≤ 1000 ∧ -1000 ≤ k ∧ k ≤ 1000 then some (.tup (repD x k)) else none
  | .lst x, .int k => if x.length ≤ 1000 ∧ -1000 ≤ k ∧ k ≤ 1000 then some (.lst (repD x k)) else none
  | .str x, .int k => if k = 0 then some (.str ⟨#[]⟩) else if k = 1 then some (.str x) else none
  | _, _ => none
def mdD : D → D → Option D
  | .int i, .int j => if 0 < j then some (.int (i % j)) else none
  | _, _ => none
def fdD : D → D → Option D
  | .int i, .int j => if 0 < j ∧ j.natAbs.log2 < 9000 then some (.int (i / j)) else none
  | _, _ => none
def pwD : D → D → Option D
  | .int i, .int j => if 0 ≤ j ∧ j ≤ 1000000 ∧ i.natAbs < 2 ^ 64 then some (.int (i ^ j.toNat)) else none
  | _, _ => none
def op2 : Op2 → D → D → Option D
  | .add => addD | .sub => subD | .mul => mulD | .md => mdD | .fd => fdD | .pw => pwD
def scalD : D → Bool
  | .non | .bl _ | .int _ | .str _ => true
  | _ => false
def eqD (a b : D) : Option Bool := if shp a = true ∧ shp b = true then some (deq a b) else none
def cmpI (f : Int → Int → Bool) : D → D → Option Bool
  | .int i, .int j => some (f i j)
  | _, _ => none
def signs (x : Str) : List Nat := x.cps.toList
def inD : D → D → Option Bool
  | .str x, .str y => match signs x with
    | [c] => some (decide (c ∈ signs y))
    | _ => none
  | x, .tup ds => if (scalD x && ds.all scalD) = true then some (ds.any fun y => deq y x) else none
  | x, .lst ds => if (scalD x && ds.all scalD) = true then some (ds.any fun y => deq y x) else none
  | _, _ => none
def cmpD : Cp → D → D → Option Bool
  | .eq, a, b => eqD a b
  | .ne, a, b => (eqD a b).map not
  | .lt, a, b => cmpI (fun i j => decide (i < j)) a b
  | .le, a, b => cmpI (fun i j => decide (i ≤ j)) a b
  | .gt, a, b => cmpI (fun i j => decide (j < i)) a b
  | .ge, a, b => cmpI (fun i j => decide (j ≤ i)) a b
  | .isin, a, b => inD a b
  | .notin, a, b => (inD a b).map not
def ixOf (n : Nat) (i : Int) : Option Nat := L2.ixN n i
def atD (xs : List D) : D → Option D
  | .int i => L2.atI xs i
  | _ => none
def seqD : D → Option (List D)
  | .lst ds => some ds
  | .tup ds => some ds
  | .scr ns => some (ns.map .int)
  | _ => none
def idxD : D → D → Option D
  | .str x, .int i => if x.length ≤ LIM then (L2.atI x.cps.toList i).map fun c => .str ⟨#[c]⟩ else none
  | .lst ds, .int i => L2.atI ds i
  | .tup ds, .int i => L2.atI ds i
  | .scr ns, .int i => (L2.atI ns i).map .int
  | _, _ => none
def lenD : D → Option D
  | .lst ds => some (.int ds.length)
  | .tup ds => some (.int ds.length)
  | .scr ns => some (.int ns.length)
  | .str x => if x.length ≤ LIM then some (.int x.length) else none
  | _ => none
def cutD (xs : List D) (lo hi : Option Int) : List D := (xs.drop (HT.sIx xs.length 0 lo)).take (HT.sIx xs.length xs.length hi - HT.sIx xs.length 0 lo)
def slD (lo hi : Option Int) : D → Option D
  | .lst ds => some (.lst (cutD ds lo hi))
  | .tup ds => some (.tup (cutD ds lo hi))
  | _ => none
def revD : D → Option D
  | .lst ds => some (.lst ds.reverse)
  | .tup ds => some (.tup ds.reverse)
  | _ => none
def intsOf : List D → Option (List Int)
  | [] => some []
  | .int i :: ds => (intsOf ds).map (i :: ·)
  | _ => none
def blsOf : List D → Option (List Bool)
  | [] => some []
  | .bl i :: ds => (blsOf ds).map (i :: ·)
  | _ => none
def strsOf : List D → Option (List Str)
  | [] => some []
  | .str i :: ds => (strsOf ds).map (i :: ·)
  | _ => none
inductive Bf where
  | len | tup | lst | sum | any | all | int | maxd
  deriving DecidableEq
def maxs : Int → List Int → Int
  | m, [] => m
  | m, i :: is => maxs (if i > m then i else m) is
def bfD : Bf → D → Option D
  | .len, d => lenD d
  | .tup, .lst ds => some (.tup ds)
  | .tup, .tup ds => some (.tup ds)
  | .lst, .lst ds => some (.lst ds)
  | .lst, .tup ds => some (.lst ds)
  | .sum, .lst ds => (intsOf ds).map fun is => .int is.sum
  | .any, .lst ds => (blsOf ds).map fun is => .bl (is.any id)
  | .all, .lst ds => (blsOf ds).map fun is => .bl (is.all id)
  | .int, .bl b => some (.int (if b then 1 else 0))
  | .int, .int i => some (.int i)
  | .maxd, .lst ds => (intsOf ds).map fun is => match is with
    | [] => .int 0
    | i :: r => .int (maxs i r)
  | _, _ => none
inductive Bg where
  | max | min
  deriving DecidableEq
def joinOk (a : Str) (ys : List Str) : Bool := decide ((ys.map (·.length)).sum + ys.length * a.length ≤ LIM)
def bgD : Bg → D → D → Option D
  | .max, .int i, .int j => some (.int (if j > i then j else i))
  | .min, .int i, .int j => some (.int (if j < i then j else i))
  | _, _, _ => none
def joinD (a : Str) : D → Option D
  | .lst ds => (strsOf ds).bind fun ys => if joinOk a ys = true then some (.str (Txt.join a ys)) else none
  | _ => none
inductive Ty where
  | int | bool | str | tuple | list
  deriving DecidableEq
def isTy : Ty → D → Bool
  | .int, .int _ => true
  | .int, .bl _ => true
  | .bool, .bl _ => true
  | .str, .str _ => true
  | .tuple, .tup _ => true
  | .list, .lst _ => true
  | .list, .scr _ => true
  | _, _ => false
/-! ### the texts -/
/-- a target: one name, or a tuple of names (slots) -/
inductive Tg where
  | nm (i : Nat) | tp (is : List Nat)
mutual
inductive CE where
  | var (i : Nat) | gint (x : Str) (i : Int) | gstr (x : Str) (s : Str)
  | cint (i : Int) | cbl (b : Bool) | cnon | cstr (s : Str)
  | tup (es : CEs) | lst (es : CEs)
  | bin (o : Op2) (a b : CE) | neg (a : CE) | cmp (o : Cp) (a b : CE)
  | isN (a : CE) | notN (a : CE) | notB (a : CE) (b : Bool)
  | chain (o p : Cp) (a b c : CE)
  | and (es : CEs) | or (es : CEs) | not (a : CE) | ife (c a b : CE)
  | idx (a : CA) (b : CE) | sl (a : CE) (lo hi : CO) | rev (a : CE)
  | fn (f : Bf) (a : CA) | fn2 (f : Bg) (a b : CE) | join (z : Str) (a : CE)
  | isi (a : CE) (t : Ty) | isE (i : Nat) (c : Nat) | isEs (i : Nat) (cs : List Nat)
  | call (f : Nat) (as : CAs)
  | lc (elt : CE) (tg : Tg) (src : CI) (cnd : CO) (own : List Nat)
  | cat (a b : CA)
  | pop (i : Nat) (at_ : CO)
inductive CEs where
  | nil | cons (e : CE) (es : CEs)
inductive CO where
  | no | yes (e : CE)
/-- an operand: an expression, or a name (whatever it holds) -/
inductive CA where
  | e (a : CE) | r (i : Nat)
inductive CAs where
  | nil | cons (a : CA) (as : CAs)
/-- what is walked -/
inductive CI where
  | of (a : CA) | rng1 (a : CE) | rng2 (a b : CE) | zip (a b : CA) | enm (a : CA)
end
mutual
inductive CS where
  | set (i : Nat) (e : CE)
  | setW (i j : Nat)
  | setF (i : Nat) (e : CE)
  | setD (i : Nat)
  | setC (i f : Nat) (as : CAs)
  | unp (is : List Nat) (e : CE)
  | unpC (is : List Nat) (f : Nat) (as : CAs)
  | par (i j : Nat) (a b : CE)
  | put (i : Nat) (at_ e : CE)
  | app (i : Nat) (e : CE) | ext (i : Nat) (e : CE) | ins (i : Nat) (at_ e : CE)
  | appT (i k : Nat) (e : CE) | insT (i k : Nat) (at_ e : CE)
  | expr (e : CE)
  | ite (c : CE) (t e : CSs)
  | for_ (tg : Tg) (src : CI) (body : CSs)
  | whl (n : Nat) (c : CE) (body : CSs)
  | ret (e : CE) | retW (i : Nat) | retT (is : List Nat)
  | raise (c : Nat)
  | try_ (body : CSs) (c i : Nat) (suite : CSs)
inductive CSs where
  | nil | cons (s : CS) (ss : CSs)
end
/-! ### the interpreter -/
def slot (env : Env) (i : Nat) : Option W := (env[i]?).bind id
/-- a name's data -/
def slotD (env : Env) (i : Nat) : Option D := match slot env i with
  | some (.d x) => some x
  | _ => none
/-- an operand -/
def slotA (env : Env) (i : Nat) : Option W := match slot env i with
  | some (.exc _) => none
  | o => o
/-- the data that an operand stands for now -/
def now (st : Store) : W → Option D
  | .d x => some x
  | .r n => match st[n]? with
    | some (.lst ds) => some (.lst ds)
    | _ => none
  | _ => none
def bindT (env : Env) : Tg → D → Option Env
  | .nm i, d => some (env.set i (some (.d d)))
  | .tp is, .tup ds => if is.length = ds.length then some ((is.zip ds).foldl (fun e p => e.set p.1 (some (.d p.2))) env) else none
  | _, _ => none
def wipeE (env : Env) : List Nat → Env
  | [] => env
  | v :: vs => (wipeE env vs).set v none
/-- what a walk gives at turn j: stuck, the end, an item -/
abbrev Src := Nat → Store → Option (Option D)
def stat (ds : List D) : Src := fun j _ => if j ≤ ds.length then some ds[j]? else none
def rngS (lo hi : Int) : Src := fun j _ => if j ≤ (hi - lo).toNat then some (if j < (hi - lo).toNat then some (.int (lo + (j : Nat))) else none) else none
def cellS (n : Nat) : Src := fun j st => match st[n]? with
  | some (.lst ds) => if j ≤ ds.length then some ds[j]? else none
  | _ => none
def seqW : W → Option Src
  | .d (.lst ds) => some (stat ds)
  | .d (.tup ds) => some (stat ds)
  | .r n => some (cellS n)
  | _ => none
def srcW : W → Option Src
  | .d (.str x) => some (stat (x.cps.toList.map fun c => .str ⟨#[c]⟩))
  | w => seqW w
def zipS (a b : Src) : Src := fun j st => match a j st, b j st with
  | some (some x), some (some y) => some (some (.tup [x, y]))
  | some none, some _ => some none
  | some (some _), some none => some none
  | _, _ => none
def enmS (a : Src) : Src := fun j st => match a j st with
  | none => none
  | some none => some none
  | some (some x) => some (some (.tup [.int (j : Nat), x]))
/-- a call's answer as data: new cells are frozen -/
def freeze (n : Nat) (st : Store) : W → Option D
  | .d x => some x
  | .r k => if n ≤ k then match st[k]? with
      | some (.lst ds) => some (.lst ds)
      | _ => none
    else none
  | .rt ks => (ks.mapM fun k => if n ≤ k then match st[k]? with
      | some (.lst ds) => some (D.lst ds)
      | _ => none
    else none).map .tup
  | .exc _ => none
def frzO (n : Nat) : Out W → Out D
  | none => none
  | some (.exc c, s) => some (.exc c, s)
  | some (.val w, s) => lift (freeze n s w) (s.take n)
/-- the loop of a comprehension: each turn gives one item or none -/
def loopC (f : D → Store → Out (Option D)) (src : Src) : Nat → Nat → Store → Out (List D)
  | 0, _, _ => none
  | n + 1, j, st => match src j st with
    | none => none
    | some none => ret [] st
    | some (some x) => bnd (f x st) fun o st1 => bnd (loopC f src n (j + 1) st1) fun ys st2 => ret (match o with
      | some y => y :: ys
      | none => ys) st2
/-- no exception comes out of a comprehension -/
def calmO {A : Type} : Out A → Out A
  | some (.val a, s) => some (.val a, s)
  | _ => none
def asB (d : D) (s : Store) : Out Bool := match d with
  | .bl b => ret b s
  | _ => none
def asI (d : D) (s : Store) : Out Int := match d with
  | .int i => ret i s
  | _ => none
/-- the list that slot i is a cell of: its place, its items -/
def cellOf (env : Env) (st : Store) (i : Nat) : Option (Nat × List D) := match slot env i with
  | some (.r n) => match st[n]? with
    | some (.lst ds) => some (n, ds)
    | _ => none
  | _ => none
def isRef (env : Env) (i : Nat) : Bool := match slot env i with
  | some (.r _) => true
  | _ => false
/-- what a pop says once its place is known -/
def popF (i : Nat) (k : Option Int) (env : Env) (s : Store) : Out D := match cellOf env s i with
  | some (n, ds) => if LIM < ds.length then none else match L2.ixN ds.length (k.getD (-1)) with
    | some j => match ds[j]? with
      | some x => ret x (s.set n (.lst (ds.eraseIdx j)))
      | none => none
    | none => none
  | none => none
mutual
def evE (g : Den) : CE → Env → Store → Out D
  | .var i, env, st => lift (slotD env i) st
  | .gint _ i, _, st => ret (.int i) st
  | .gstr _ s, _, st => ret (.str s) st
  | .cint i, _, st => ret (.int i) st
  | .cbl b, _, st => ret (.bl b) st
  | .cnon, _, st => ret .non st
  | .cstr s, _, st => ret (.str s) st
  | .tup es, env, st => bnd (evEs g es env st) fun ds s => ret (.tup ds) s
  | .lst es, env, st => bnd (evEs g es env st) fun ds s => ret (.lst ds) s
  | .bin o a b, env, st => bnd (evE g a env st) fun x s => bnd (evE g b env s) fun y s => lift (op2 o x y) s
  | .neg a, env, st => bnd (bnd (evE g a env st) asI) fun i s => ret (.int (-i)) s
  | .cmp o a b, env, st => bnd (evE g a env st) fun x s => bnd (evE g b env s) fun y s => lift ((cmpD o x y).map .bl) s
  | .isN a, env, st => bnd (evE g a env st) fun x s => ret (.bl (match x with
    | .non => true
    | _ => false)) s
  | .notN a, env, st => bnd (evE g a env st) fun x s => ret (.bl (match x with
    | .non => false
    | _ => true)) s
  | .notB a b, env, st => bnd (bnd (evE g a env st) asB) fun c s => ret (.bl (!decide (c = b))) s
  | .chain o p a b c, env, st => bnd (evE g a env st) fun x s => bnd (evE g b env s) fun y s => match cmpD o x y with
    | some true => bnd (evE g c env s) fun z s => lift ((cmpD p y z).map .bl) s
    | some false => ret (.bl false) s
    | none => none
  | .and es, env, st => evAnd g es env st
  | .or es, env, st => evOr g es env st
  | .not a, env, st => bnd (bnd (evE g a env st) asB) fun b s => ret (.bl (!b)) s
  | .ife c a b, env, st => bnd (bnd (evE g c env st) asB) fun x s => if x = true then evE g a env s else evE g b env s
  | .idx a b, env, st => bnd (evA g a env st) fun x s => bnd (evE g b env s) fun y s => lift ((now s x).bind fun d => idxD d y) s
  | .sl a lo hi, env, st => bnd (evE g a env st) fun x s => bnd (evO g lo env s) fun l s => bnd (evO g hi env s) fun h s => lift (slD l h x) s
  | .rev a, env, st => bnd (evE g a env st) fun x s => lift (revD x) s
  | .fn f a, env, st => bnd (evA g a env st) fun x s => lift ((now s x).bind (bfD f)) s
  | .fn2 f a b, env, st => bnd (evE g a env st) fun x s => bnd (evE g b env s) fun y s => lift (bgD f x y) s
  | .join z a, env, st => bnd (evE g a env st) fun x s => lift (joinD z x) s
  | .isi a t, env, st => bnd (evE g a env st) fun x s => ret (.bl (isTy t x)) s
  | .isE i c, env, st => match slot env i with
    | some (.exc k) => ret (.bl (decide (k = c) || decide (c = 0))) st
    | _ => none
  | .isEs i cs, env, st => match slot env i with
    | some (.exc k) => ret (.bl (cs.any fun c => decide (k = c) || decide (c = 0))) st
    | _ => none
  | .call f as, env, st => frzO st.length (bnd (evAs g as env st) fun ws s => g f ws s)
  | .lc elt tg src cnd own, env, st => bnd (evI g src env st) fun sr s =>
      bnd (calmO (loopC (fun x s => match bindT (wipeE env own) tg x with
        | none => none
        | some env' => bnd (evC g cnd env' s) fun b s => if b = true then bnd (evE g elt env' s) fun y s => ret (some y) s else ret none s) sr (LIM + 1) 0 s)) fun ys s =>
      if ys.length ≤ LIM then ret (.lst ys) s else none
  | .cat a b, env, st => bnd (evA g a env st) fun x s => bnd (evA g b env s) fun y s => lift ((now s x).bind fun d => (now s y).bind fun e => match d, e with
    | .lst _, .lst _ => addD d e
    | _, _ => none) s
  | .pop i o, env, st => if isRef env i = true then bnd (evO g o env st) fun k s => popF i k env s else none
def evEs (g : Den) : CEs → Env → Store → Out (List D)
  | .nil, _, st => ret [] st
  | .cons e es, env, st => bnd (evE g e env st) fun x s => bnd (evEs g es env s) fun xs s => ret (x :: xs) s
def evAnd (g : Den) : CEs → Env → Store → Out D
  | .nil, _, _ => none
  | .cons e .nil, env, st => bnd (bnd (evE g e env st) asB) fun b s => ret (.bl b) s
  | .cons e (.cons e2 es), env, st => bnd (bnd (evE g e env st) asB) fun b s => if b = true then evAnd g (.cons e2 es) env s else ret (.bl false) s
def evOr (g : Den) : CEs → Env → Store → Out D
  | .nil, _, _ => none
  | .cons e .nil, env, st => bnd (bnd (evE g e env st) asB) fun b s => ret (.bl b) s
  | .cons e (.cons e2 es), env, st => bnd (bnd (evE g e env st) asB) fun b s => if b = true then ret (.bl true) s else evOr g (.cons e2 es) env s
def evO (g : Den) : CO → Env → Store → Out (Option Int)
  | .no, _, st => ret none st
  | .yes e, env, st => bnd (bnd (evE g e env st) asI) fun i s => ret (some i) s
def evC (g : Den) : CO → Env → Store → Out Bool
  | .no, _, st => ret true st
  | .yes e, env, st => bnd (evE g e env st) asB
def evA (g : Den) : CA → Env → Store → Out W
  | .e a, env, st => bnd (evE g a env st) fun x s => ret (.d x) s
  | .r i, env, st => lift (slotA env i) st
def evAs (g : Den) : CAs → Env → Store → Out (List W)
  | .nil, _, st => ret [] st
  | .cons e es, env, st => bnd (evA g e env st) fun x s => bnd (evAs g es env s) fun xs s => ret (x :: xs) s
def evI (g : Den) : CI → Env → Store → Out Src
  | .of a, env, st => bnd (evA g a env st) fun w s => lift (srcW w) s
  | .rng1 a, env, st => bnd (bnd (evE g a env st) asI) fun i s => ret (rngS 0 i) s
  | .rng2 a b, env, st => bnd (bnd (evE g a env st) asI) fun i s => bnd (bnd (evE g b env s) asI) fun j s => ret (rngS i j) s
  | .zip a b, env, st => bnd (evA g a env st) fun x s => bnd (evA g b env s) fun y s => lift ((seqW x).bind fun d => (seqW y).map fun e => zipS d e) s
  | .enm a, env, st => bnd (evA g a env st) fun w s => lift ((seqW w).map enmS) s
end
/-! ### statements -/
inductive Fl where
  | next | ret (w : W) | exc (c : Nat)
abbrev OutS := Option (Fl × Env × Store)
def nextS (env : Env) (st : Store) : OutS := some (.next, env, st)
def thenS {A : Type} (m : Out A) (env : Env) (f : A → Store → OutS) : OutS := match m with
  | none => none
  | some (.exc c, s) => some (.exc c, env, s)
  | some (.val a, s) => f a s
def seqS (m : OutS) (f : Env → Store → OutS) : OutS := match m with
  | some (.next, env, st) => f env st
  | o => o
def bindW (env : Env) (is : List Nat) : W → Option Env
  | .d x => bindT env (.tp is) x
  | .rt ns => if is.length = ns.length then some ((is.zip ns).foldl (fun e p => e.set p.1 (some (.r p.2))) env) else none
  | _ => none
def refsOf (env : Env) (is : List Nat) : Option (List Nat) := is.mapM fun i => match slot env i with
  | some (.r n) => some n
  | _ => none
def caught (c k : Nat) : Bool := decide (c = 0) || decide (k = c)
def noExc (env : Env) : Env := env.map fun w => match w with
  | some (.exc _) => none
  | w => w
def loopF (tg : Tg) (src : Src) (body : Env → Store → OutS) : Nat → Nat → Env → Store → OutS
  | 0, _, _, _ => none
  | n + 1, j, env, st => match src j st with
    | none => none
    | some none => nextS env st
    | some (some x) => match bindT env tg x with
      | none => none
      | some env1 => seqS (body env1 st) fun env2 st2 => loopF tg src body n (j + 1) env2 st2
def loopW (c : Env → Store → Out Bool) (body : Env → Store → OutS) : Nat → Env → Store → OutS
  | 0, _, _ => none
  | n + 1, env, st => thenS (c env st) env fun b s => if b = true then seqS (body env s) fun env2 st2 => loopW c body n env2 st2 else nextS env s
mutual
def exS (g : Den) : CS → Env → Store → OutS
  | .set i e, env, st => thenS (evE g e env st) env fun x s => nextS (env.set i (some (.d x))) s
  | .setW i j, env, st => match slotA env j with
    | some w => nextS (env.set i (some w)) st
    | none => none
  | .setF i e, env, st => thenS (evE g e env st) env fun x s => match x with
    | .lst ds => nextS (env.set i (some (.r s.length))) (s ++ [.lst ds])
    | _ => none
  | .setD _, _, _ => none
  | .setC i f as, env, st => thenS (bnd (evAs g as env st) fun ws s => g f ws s) env fun w s => nextS (env.set i (some w)) s
  | .unp is e, env, st => thenS (evE g e env st) env fun x s => match bindT env (.tp is) x with
    | some env' => nextS env' s
    | none => none
  | .unpC is f as, env, st => thenS (bnd (evAs g as env st) fun ws s => g f ws s) env fun w s => match bindW env is w with
    | some env' => nextS env' s
    | none => none
  | .par i j a b, env, st => thenS (evE g a env st) env fun x s => thenS (evE g b env s) env fun y s => nextS ((env.set i (some (.d x))).set j (some (.d y))) s
  | .put i at_ e, env, st => if isRef env i = true then thenS (evE g e env st) env fun x s => thenS (bnd (evE g at_ env s) asI) env fun k s => match cellOf env s i with
    | some (n, ds) => match L2.ixN ds.length k with
      | some j => nextS env (s.set n (.lst (ds.set j x)))
      | none => none
    | none => none else none
  | .app i e, env, st => if isRef env i = true then thenS (evE g e env st) env fun x s => match cellOf env s i with
    | some (n, ds) => if ds.length < LIM then nextS env (s.set n (.lst (ds ++ [x]))) else none
    | none => none else none
  | .ext i e, env, st => if isRef env i = true then thenS (evE g e env st) env fun x s => match cellOf env s i, x with
    | some (n, ds), .lst es => if ds.length + es.length ≤ LIM then nextS env (s.set n (.lst (ds ++ es))) else none
    | _, _ => none else none
  | .ins i at_ e, env, st => if isRef env i = true then thenS (bnd (evE g at_ env st) asI) env fun k s => thenS (evE g e env s) env fun x s => match cellOf env s i with
    | some (n, ds) => if 0 ≤ k ∧ k ≤ LIM ∧ ds.length < LIM then nextS env (s.set n (.lst (ds.take k.toNat ++ x :: ds.drop k.toNat))) else none
    | none => none else none
  | .appT _ _ _, _, _ => none
  | .insT _ _ _ _, _, _ => none
  | .expr e, env, st => thenS (evE g e env st) env fun _ s => nextS env s
  | .ite c t e, env, st => thenS (bnd (evE g c env st) asB) env fun b s => if b = true then exSs g t env s else exSs g e env s
  | .for_ tg src body, env, st => thenS (evI g src env st) env fun sr s => loopF tg sr (fun env st => exSs g body env st) (LIM + 1) 0 env s
  | .whl n c body, env, st => loopW (fun env st => bnd (evE g c env st) asB) (fun env st => exSs g body env st) n env st
  | .ret e, env, st => thenS (evE g e env st) env fun x s => some (.ret (.d x), env, s)
  | .retW i, env, st => match slotA env i with
    | some w => some (.ret w, env, st)
    | none => none
  | .retT is, env, st => match refsOf env is with
    | some ns => some (.ret (.rt ns), env, st)
    | none => none
  | .raise c, env, st => some (.exc c, env, st)
  | .try_ body c i suite, env, st => match exSs g body env st with
    | some (.exc k, env1, s) => if caught c k = true then match exSs g suite (env1.set i (some (.exc k))) s with
        | some (fl, env2, s2) => some (fl, (noExc env2).set i none, s2)
        | none => none
      else some (.exc k, env1, s)
    | o => o
def exSs (g : Den) : CSs → Env → Store → OutS
  | .nil, env, st => nextS env st
  | .cons s ss, env, st => seqS (exS g s env st) fun env1 st1 => exSs g ss env1 st1
end
/-- a def: its slots' number, its parameters' number, its body -/
structure Def where
  slots : Nat
  params : Nat
  body : CSs
def startE (n : Nat) (ws : List W) : Env := ws.map some ++ List.replicate (n - ws.length) none
/-- what a def leaves: its answer's new cells behind those that stood -/
def leave (n : Nat) : OutS → Out W
  | some (.next, _, s) => some (.val (.d .non), s.take n)
  | some (.ret (.d x), _, s) => some (.val (.d x), s.take n)
  | some (.ret (.r k), _, s) => if k < n then some (.val (.r k), s.take n) else match s[k]? with
    | some c => some (.val (.r n), s.take n ++ [c])
    | none => none
  | some (.ret (.rt ks), _, s) => if ks.all (fun k => decide (n ≤ k)) && decide ks.Nodup then match ks.mapM fun k => s[k]? with
      | some cs => some (.val (.rt ((List.range ks.length).map (n + ·))), s.take n ++ cs)
      | none => none
    else none
  | some (.exc c, _, s) => some (.exc c, s.take n)
  | _ => none
def runD (d : Def) (g : Den) (ws : List W) (st : Store) : Out W := if ws.length = d.params then leave st.length (exSs g d.body (startE d.slots ws) st) else none
/-- the defs, one in another so deep -/
def den (ds : List Def) : Nat → Den
  | 0 => fun _ _ _ => none
  | n + 1 => fun i ws st => match ds[i]? with
    | some d => runD d (den ds n) ws st
    | none => none
end Cw
/-! 2. How data, slots and the store stand in the abstract heap. -/
namespace Cw
open PySem L2
abbrev Fg := PySem.W.Frag
mutual
/-- v stands for the data d; what lies at Z is no part of it -/
def Rep (K : Fg) (Z : List Addr) (H : Hp) : D → V → Prop
  | .non, v => v = .non
  | .bl b, v => v = .bl b
  | .int i, v => v = .int i
  | .str x, v => v = .str x
  | .tup ds, v => ∃ a xs, v = .ref a ∧ H a = some (.tup xs) ∧ a ∉ Z ∧ Reps K Z H ds xs
  | .lst ds, v => ∃ a xs, v = .ref a ∧ H a = some (.lst xs) ∧ a ∉ Z ∧ Reps K Z H ds xs
  | .scr ns, v => ∃ a, v = .ref a ∧ ((Rd H a (.lst (ns.map V.int)) ∧ a ∉ Z) ∨
      ∃ (o : Obj) (its : Array Value) (n : Nat), K.lookup a = some o ∧ o.cls = .type "list" ∧ o.dict = none ∧ o.data = .seq its n ∧ its.size ≤ sizeLine ∧ Vals (ns.map V.int) its.toList)
def Reps (K : Fg) (Z : List Addr) (H : Hp) : List D → List V → Prop
  | [], xs => xs = []
  | d :: ds, xs => ∃ x r, xs = x :: r ∧ Rep K Z H d x ∧ Reps K Z H ds r
end
section
variable {K : Fg} {Z Z' : List Addr} {H H' : Hp}
theorem Reps.length : ∀ {ds : List D} {xs : List V}, Reps K Z H ds xs → xs.length = ds.length
  | [], xs, h => by
    have e : xs = [] := by simpa [Reps] using h
    subst e; rfl
  | d :: ds, xs, h => by
    obtain ⟨x, r, rfl, _, hr⟩ := (by simpa [Reps] using h : ∃ x r, xs = x :: r ∧ Rep K Z H d x ∧ Reps K Z H ds r)
    simp [Reps.length hr]
theorem Reps.nil : Reps K Z H [] [] := by simp [Reps]
theorem Reps.cons {d : D} {ds : List D} {x : V} {xs : List V} (h : Rep K Z H d x) (t : Reps K Z H ds xs) : Reps K Z H (d :: ds) (x :: xs) := by
  rw [Reps]; exact ⟨x, xs, rfl, h, t⟩
theorem Reps.inv {d : D} {ds : List D} {xs : List V} (h : Reps K Z H (d :: ds) xs) : ∃ x r, xs = x :: r ∧ Rep K Z H d x ∧ Reps K Z H ds r := by
  rw [Reps] at h; exact h
theorem Reps.inv0 {xs : List V} (h : Reps K Z H [] xs) : xs = [] := by
  rw [Reps] at h; exact h
theorem Reps.append : ∀ {ds es : List D} {xs ys : List V}, Reps K Z H ds xs → Reps K Z H es ys → Reps K Z H (ds ++ es) (xs ++ ys)
  | [], _, _, _, h, t => by rw [h.inv0]; exact t
  | d :: ds, es, xs, ys, h, t => by
    obtain ⟨x, r, rfl, h1, h2⟩ := h.inv
    exact .cons h1 (Reps.append h2 t)
theorem Reps.get : ∀ {ds : List D} {xs : List V} {i : Nat} {d : D}, Reps K Z H ds xs → ds[i]? = some d → ∃ x, xs[i]? = some x ∧ Rep K Z H d x
  | [], _, _, _, _, e => by simp at e
  | d :: ds, xs, 0, d', h, e => by
    obtain ⟨x, r, rfl, h1, h2⟩ := h.inv
    simp at e; subst e
    exact ⟨x, rfl, h1⟩
  | d :: ds, xs, i + 1, d', h, e => by
    obtain ⟨x, r, rfl, h1, h2⟩ := h.inv
    obtain ⟨y, e1, e2⟩ := Reps.get (i := i) h2 (by simpa using e)
    exact ⟨y, by simpa using e1, e2⟩
/-- the other way: what lies at a place -/
theorem Reps.at : ∀ {ds : List D} {xs : List V} {i : Nat} {x : V}, Reps K Z H ds xs → xs[i]? = some x → ∃ d, ds[i]? = some d ∧ Rep K Z H d x
  | [], xs, i, x, h, e => by rw [h.inv0] at e; simp at e
  | d :: ds, xs, 0, x', h, e => by
    obtain ⟨x, r, rfl, h1, h2⟩ := h.inv
    simp at e; subst e
    exact ⟨d, rfl, h1⟩
  | d :: ds, xs, i + 1, x', h, e => by
    obtain ⟨x, r, rfl, h1, h2⟩ := h.inv
    obtain ⟨y, e1, e2⟩ := Reps.at (i := i) h2 (by simpa using e)
    exact ⟨y, by simpa using e1, e2⟩
theorem Reps.take : ∀ {ds : List D} {xs : List V} (n : Nat), Reps K Z H ds xs → Reps K Z H (ds.take n) (xs.take n)
  | _, _, 0, _ => by simp [Reps]
  | [], _, n + 1, h => by rw [h.inv0]; simp [Reps]
  | d :: ds, xs, n + 1, h => by
    obtain ⟨x, r, rfl, h1, h2⟩ := h.inv
    exact .cons h1 (Reps.take n h2)
theorem Reps.drop : ∀ {ds : List D} {xs : List V} (n : Nat), Reps K Z H ds xs → Reps K Z H (ds.drop n) (xs.drop n)
  | _, _, 0, h => h
  | [], _, n + 1, h => by rw [h.inv0]; simp [Reps]
  | d :: ds, xs, n + 1, h => by
    obtain ⟨x, r, rfl, h1, h2⟩ := h.inv
    exact Reps.drop n h2
theorem Reps.set : ∀ {ds : List D} {xs : List V} (i : Nat) {d : D} {x : V}, Reps K Z H ds xs → Rep K Z H d x → Reps K Z H (ds.set i d) (xs.set i x)
  | [], xs, i, d, x, h, r => by rw [h.inv0]; simp [Reps]
  | d :: ds, xs, 0, d', x', h, r => by
    obtain ⟨x, r', rfl, h1, h2⟩ := h.inv
    exact .cons r h2
  | d :: ds, xs, i + 1, d', x', h, r => by
    obtain ⟨x, r', rfl, h1, h2⟩ := h.inv
    exact .cons h1 (Reps.set i h2 r)
theorem Reps.erase : ∀ {ds : List D} {xs : List V} (i : Nat), Reps K Z H ds xs → Reps K Z H (ds.eraseIdx i) (xs.eraseIdx i)
  | [], xs, i, h => by rw [h.inv0]; simp [Reps]
  | d :: ds, xs, 0, h => by
    obtain ⟨x, r', rfl, h1, h2⟩ := h.inv
    exact h2
  | d :: ds, xs, i + 1, h => by
    obtain ⟨x, r', rfl, h1, h2⟩ := h.inv
    exact .cons h1 (Reps.erase i h2)
theorem Reps.reverse {ds : List D} {xs : List V} (h : Reps K Z H ds xs) : Reps K Z H ds.reverse xs.reverse := by
  induction ds generalizing xs with
  | nil => rw [h.inv0]; simp [Reps]
  | cons d ds ih =>
    obtain ⟨x, r', rfl, h1, h2⟩ := h.inv
    rw [List.reverse_cons, List.reverse_cons]
    exact (ih h2).append (.cons h1 .nil)
theorem Reps.rep {ds : List D} {xs : List V} (h : Reps K Z H ds xs) : ∀ k : Nat, Reps K Z H (List.replicate k ds).flatten (List.replicate k xs).flatten
  | 0 => by simp [Reps]
  | k + 1 => by
    rw [List.replicate_succ, List.replicate_succ, List.flatten_cons, List.flatten_cons]
    exact h.append (Reps.rep h k)
mutual
theorem Rep.mono (hk : ∀ a o, H a = some o → a ∉ Z → H' a = some o) (hz : ∀ a, a ∈ Z' → a ∈ Z ∨ H a = none) : ∀ {d : D} {v : V}, Rep K Z H d v → Rep K Z' H' d v
  | .non, v, h => by rw [Rep] at h ⊢; exact h
  | .bl b, v, h => by rw [Rep] at h ⊢; exact h
  | .int b, v, h => by rw [Rep] at h ⊢; exact h
  | .str b, v, h => by rw [Rep] at h ⊢; exact h
  | .tup ds, v, h => by
    rw [Rep] at h ⊢
    obtain ⟨a, xs, e, h1, h2, h3⟩ := h
    refine ⟨a, xs, e, hk a _ h1 h2, fun z => ?_, Reps.mono hk hz h3⟩
    rcases hz a z with q | q
    · exact h2 q
    · rw [h1] at q; cases q
  | .lst ds, v, h => by
    rw [Rep] at h ⊢
    obtain ⟨a, xs, e, h1, h2, h3⟩ := h
    refine ⟨a, xs, e, hk a _ h1 h2, fun z => ?_, Reps.mono hk hz h3⟩
    rcases hz a z with q | q
    · exact h2 q
    · rw [h1] at q; cases q
  | .scr ns, v, h => by
    rw [Rep] at h ⊢
    obtain ⟨a, e, h | h⟩ := h
    · refine ⟨a, e, .inl ⟨?_, fun z => ?_⟩⟩
      · rcases h.1 with q | ⟨o, q⟩
        · exact .inl (hk a _ q h.2)
        · exact .inr ⟨o, hk a _ q h.2⟩
      · rcases hz a z with q | q
        · exact h.2 q
        · rcases h.1 with p | ⟨o, p⟩ <;> rw [p] at q <;> cases q
    · exact ⟨a, e, .inr h⟩
theorem Reps.mono (hk : ∀ a o, H a = some o → a ∉ Z → H' a = some o) (hz : ∀ a, a ∈ Z' → a ∈ Z ∨ H a = none) : ∀ {ds : List D} {vs : List V}, Reps K Z H ds vs → Reps K Z' H' ds vs
  | [], v, h => by rw [Reps] at h ⊢; exact h
  | d :: ds, v, h => by
    rw [Reps] at h ⊢
    obtain ⟨x, r, e, h1, h2⟩ := h
    exact ⟨x, r, e, Rep.mono hk hz h1, Reps.mono hk hz h2⟩
end
theorem Reps.ints : ∀ {ds : List D} {xs : List V} {ns : List Int}, Reps K Z H ds xs → intsOf ds = some ns → xs = ns.map V.int
  | [], xs, ns, h, e => by
    rw [h.inv0]
    simp [intsOf] at e; subst e; rfl
  | d :: ds, xs, ns, h, e => by
    obtain ⟨x, r', rfl, h1, h2⟩ := h.inv
    cases d <;> simp [intsOf] at e
    obtain ⟨r, e, rfl⟩ := e
    rw [Rep] at h1
    rw [h1, Reps.ints h2 e]; rfl
theorem Reps.bls : ∀ {ds : List D} {xs : List V} {ns : List Bool}, Reps K Z H ds xs → blsOf ds = some ns → xs = ns.map V.bl
  | [], xs, ns, h, e => by
    rw [h.inv0]
    simp [blsOf] at e; subst e; rfl
  | d :: ds, xs, ns, h, e => by
    obtain ⟨x, r', rfl, h1, h2⟩ := h.inv
    cases d <;> simp [blsOf] at e
    obtain ⟨r, e, rfl⟩ := e
    rw [Rep] at h1
    rw [h1, Reps.bls h2 e]; rfl
theorem Reps.strs : ∀ {ds : List D} {xs : List V} {ns : List Str}, Reps K Z H ds xs → strsOf ds = some ns → xs = ns.map V.str
  | [], xs, ns, h, e => by
    rw [h.inv0]
    simp [strsOf] at e; subst e; rfl
  | d :: ds, xs, ns, h, e => by
    obtain ⟨x, r', rfl, h1, h2⟩ := h.inv
    cases d <;> simp [strsOf] at e
    obtain ⟨r, e, rfl⟩ := e
    rw [Rep] at h1
    rw [h1, Reps.strs h2 e]; rfl
mutual
theorem Rep.dp : ∀ {d : D} {v : V}, Rep K Z H d v → Dp K H v (toPy d)
  | .non, v, h => by rw [Rep] at h; subst h; rw [toPy]; exact .non
  | .bl b, v, h => by rw [Rep] at h; subst h; rw [toPy]; exact .bl b
  | .int b, v, h => by rw [Rep] at h; subst h; rw [toPy]; exact .int b
  | .str b, v, h => by rw [Rep] at h; subst h; rw [toPy]; exact .str b
  | .tup ds, v, h => by
    rw [Rep] at h
    obtain ⟨a, xs, rfl, h1, _, h3⟩ := h
    rw [toPy]
    exact .tup (SqT.of h1) (Reps.dp h3)
  | .lst ds, v, h => by
    rw [Rep] at h
    obtain ⟨a, xs, rfl, h1, _, h3⟩ := h
    rw [toPy]
    exact .lst (SqL.of h1) (Reps.dp h3)
  | .scr ns, v, h => by
    rw [Rep] at h
    obtain ⟨a, rfl, h⟩ := h
    rw [toPy]
    have q : SqL K H a (ns.map V.int) := by
      rcases h with h | h
      · exact .inl h.1
      · exact .inr h
    refine .lst q ?_
    clear q h
    induction ns with
    | nil => exact .nil
    | cons n ns ih => exact .cons (.int n) ih
theorem Reps.dp : ∀ {ds : List D} {vs : List V}, Reps K Z H ds vs → DpAll K H vs (toPys ds)
  | [], v, h => by rw [h.inv0, toPys]; exact .nil
  | d :: ds, v, h => by
    obtain ⟨x, r, rfl, h1, h2⟩ := h.inv
    rw [toPys]
    exact .cons (Rep.dp h1) (Reps.dp h2)
end
end
/-! ### the store -/
def CellOk (K : Fg) (Z : List Addr) (H : Hp) (a : Addr) : Cell → Prop
  | .lst ds => ∃ xs, H a = some (.lst xs) ∧ Reps K Z H ds xs
  | .dct _ => False
structure RelS (K : Fg) (R : List Addr) (H : Hp) (M : List Addr) (st : Store) : Prop where
  nd : M.Nodup
  dis : ∀ a ∈ M, a ∉ R
  trk : ∀ a ∈ R, ∃ o, H a = some o
  len : st.length = M.length
  cells : ∀ (i : Nat) (c : Cell) (a : Addr), st[i]? = some c → M[i]? = some a → CellOk K (M ++ R) H a c
structure Grow (H : Hp) (M : List Addr) (H' : Hp) (M' : List Addr) : Prop where
  pre : ∃ t, M' = M ++ t
  keep : ∀ a o, H a = some o → a ∉ M → H' a = some o
  new : ∀ a, a ∈ M' → a ∈ M ∨ H a = none
abbrev Ext (H H' : Hp) : Prop := ∀ a o, H a = some o → H' a = some o
section
variable {K : Fg} {R : List Addr} {H H' H1 H2 : Hp} {M M' M1 M2 : List Addr} {st st' : Store}
theorem Grow.refl : Grow H M H M := ⟨⟨[], by simp⟩, fun _ _ h _ => h, fun _ h => .inl h⟩
theorem Grow.ext (e : Ext H H') : Grow H M H' M := ⟨⟨[], by simp⟩, fun a o h _ => e a o h, fun _ h => .inl h⟩
theorem Grow.trans (a : Grow H M H1 M1) (b : Grow H1 M1 H2 M2) : Grow H M H2 M2 := by
  obtain ⟨t, et⟩ := a.pre
  obtain ⟨u, eu⟩ := b.pre
  refine ⟨⟨t ++ u, by rw [eu, et, List.append_assoc]⟩, fun x o h hx => ?_, fun x hx => ?_⟩
  · refine b.keep x o (a.keep x o h hx) fun z => ?_
    rcases a.new x z with q | q
    · exact hx q
    · rw [h] at q; cases q
  · rcases b.new x hx with q | q
    · exact a.new x q
    · by_cases hm : x ∈ M
      · exact .inl hm
      · refine .inr ?_
        cases e : H x with
        | none => rfl
        | some o => rw [a.keep x o e hm] at q; cases q
theorem Grow.rep (g : Grow H M H' M') {d : D} {v : V} (r : Rep K (M ++ R) H d v) : Rep K (M' ++ R) H' d v :=
  r.mono (fun a o h hz => g.keep a o h fun z => hz (List.mem_append_left _ z)) fun a ha => by
    rcases List.mem_append.mp ha with q | q
    · rcases g.new a q with z | z
      · exact .inl (List.mem_append_left _ z)
      · exact .inr z
    · exact .inl (List.mem_append_right _ q)
theorem Grow.reps (g : Grow H M H' M') {d : List D} {v : List V} (r : Reps K (M ++ R) H d v) : Reps K (M' ++ R) H' d v :=
  r.mono (fun a o h hz => g.keep a o h fun z => hz (List.mem_append_left _ z)) fun a ha => by
    rcases List.mem_append.mp ha with q | q
    · rcases g.new a q with z | z
      · exact .inl (List.mem_append_left _ z)
      · exact .inr z
    · exact .inl (List.mem_append_right _ q)
theorem Ext.refl : Ext H H := fun _ _ h => h
theorem Ext.new {p : Addr} {o : HO} (h : H p = none) : Ext H (upd H p o) := fun a u q => by rw [upd_ne (ne_of_none q h)]; exact q
theorem Ext.trans (a : Ext H H1) (b : Ext H1 H2) : Ext H H2 := fun x o h => b x o (a x o h)
theorem CellOk.there {Z : List Addr} {a : Addr} {c : Cell} (h : CellOk K Z H a c) : ∃ o, H a = some o := by
  cases c with
  | lst ds => obtain ⟨xs, e, _⟩ := h; exact ⟨_, e⟩
  | dct k => exact h.elim
theorem CellOk.ext {Z : List Addr} {a : Addr} {c : Cell} (e : Ext H H') (h : CellOk K Z H a c) : CellOk K Z H' a c := by
  cases c with
  | lst ds => obtain ⟨xs, q, r⟩ := h; exact ⟨xs, e a _ q, r.mono (fun a o q _ => e a o q) fun _ z => .inl z⟩
  | dct k => exact h.elim
theorem RelS.trkM (S : RelS K R H M st) {a : Addr} (h : a ∈ M) : ∃ o, H a = some o := by
  obtain ⟨i, hi, e⟩ := List.mem_iff_getElem.mp h
  have hi' : i < st.length := by rw [S.len]; exact hi
  exact (S.cells i st[i] a (by simp [hi']) (by simp [hi, e])).there
theorem RelS.fresh (S : RelS K R H M st) {p : Addr} (h : H p = none) : p ∉ M ++ R := fun z => by
  rcases List.mem_append.mp z with q | q
  · obtain ⟨o, e⟩ := S.trkM q; rw [h] at e; cases e
  · obtain ⟨o, e⟩ := S.trk p q; rw [h] at e; cases e
theorem RelS.ext (S : RelS K R H M st) (e : Ext H H') : RelS K R H' M st :=
  ⟨S.nd, S.dis, fun a h => let ⟨o, q⟩ := S.trk a h; ⟨o, e a o q⟩, S.len, fun i c a h1 h2 => (S.cells i c a h1 h2).ext e⟩
theorem RelS.get (S : RelS K R H M st) {i : Nat} {c : Cell} (h : st[i]? = some c) : ∃ a, M[i]? = some a ∧ CellOk K (M ++ R) H a c := by
  have hi : i < M.length := by rw [← S.len]; exact (List.getElem?_eq_some_iff.mp h).1
  exact ⟨M[i], by simp [hi], S.cells i c _ h (by simp [hi])⟩
/-- a new address is set aside -/
theorem RelS.aside (S : RelS K R H M st) {p : Addr} {o : HO} (h : H p = none) : RelS K (p :: R) (upd H p o) M st := by
  have f := S.fresh h
  refine ⟨S.nd, fun a ha z => ?_, fun a ha => ?_, S.len, fun i c a h1 h2 => ?_⟩
  · rcases List.mem_cons.mp z with q | q
    · subst q; exact f (List.mem_append_left _ ha)
    · exact S.dis a ha q
  · rcases List.mem_cons.mp ha with q | q
    · subst q; exact ⟨o, upd_same⟩
    · obtain ⟨u, e⟩ := S.trk a q; exact ⟨u, Ext.new h a u e⟩
  · have q := S.cells i c a h1 h2
    cases c with
    | dct k => exact q.elim
    | lst ds =>
      obtain ⟨xs, e, r⟩ := q
      refine ⟨xs, Ext.new h a _ e, r.mono (fun a o q _ => Ext.new h a o q) fun b hb => ?_⟩
      rcases List.mem_append.mp hb with z | z
      · exact .inl (List.mem_append_left _ z)
      · rcases List.mem_cons.mp z with z | z
        · subst z; exact .inr h
        · exact .inl (List.mem_append_right _ z)
theorem rep_less {d : D} {v : V} {Z Z' : List Addr} (hz : ∀ a, a ∈ Z' → a ∈ Z) (r : Rep K Z H d v) : Rep K Z' H d v := r.mono (fun _ _ h _ => h) fun a h => .inl (hz a h)
theorem reps_less {d : List D} {v : List V} {Z Z' : List Addr} (hz : ∀ a, a ∈ Z' → a ∈ Z) (r : Reps K Z H d v) : Reps K Z' H d v := r.mono (fun _ _ h _ => h) fun a h => .inl (hz a h)
theorem CellOk.less {a : Addr} {c : Cell} {Z Z' : List Addr} (hz : ∀ a, a ∈ Z' → a ∈ Z) (h : CellOk K Z H a c) : CellOk K Z' H a c := by
  cases c with
  | lst ds => obtain ⟨xs, q, r⟩ := h; exact ⟨xs, q, reps_less hz r⟩
  | dct k => exact h.elim
/-- what was set aside is let go -/
theorem RelS.back (S : RelS K (p :: R) H M st) : RelS K R H M st :=
  ⟨S.nd, fun a ha z => S.dis a ha (List.mem_cons_of_mem _ z), fun a ha => S.trk a (List.mem_cons_of_mem _ ha), S.len, fun i c a h1 h2 => (S.cells i c a h1 h2).less fun b hb => by
    rcases List.mem_append.mp hb with q | q
    · exact List.mem_append_left _ q
    · exact List.mem_append_right _ (List.mem_cons_of_mem _ q)⟩
/-- it becomes a cell -/
theorem RelS.cell {p : Addr} {c : Cell} (S : RelS K (p :: R) H M st) (h : CellOk K (M ++ p :: R) H p c) (hp : p ∉ R) : RelS K R H (M ++ [p]) (st ++ [c]) := by
  have hpm : p ∉ M := fun z => S.dis p z List.mem_cons_self
  have eqv : ∀ b, b ∈ (M ++ [p]) ++ R → b ∈ M ++ p :: R := fun b hb => by simpa using hb
  refine ⟨List.nodup_append.mpr ⟨S.nd, by simp, fun a ha b hb => ?_⟩, fun a ha => ?_, fun a ha => S.trk a (List.mem_cons_of_mem _ ha), by simp [S.len], fun i c' a h1 h2 => ?_⟩
  · have e : b = p := by simpa using hb
    subst e
    intro z; subst z; exact hpm ha
  · rcases List.mem_append.mp ha with q | q
    · exact fun z => S.dis a q (List.mem_cons_of_mem _ z)
    · have e : a = p := by simpa using q
      subst e; exact hp
  · by_cases hi : i < st.length
    · rw [List.getElem?_append_left hi] at h1
      rw [List.getElem?_append_left (by rw [← S.len]; exact hi)] at h2
      exact (S.cells i c' a h1 h2).less eqv
    · rw [List.getElem?_append_right (by omega)] at h1
      rw [List.getElem?_append_right (by rw [← S.len]; omega)] at h2
      rw [← S.len] at h2
      have i0 : i - st.length = 0 := by
        have q := (List.getElem?_eq_some_iff.mp h1).1
        simpa using q
      rw [i0] at h1 h2
      simp at h1 h2
      subst h1; subst h2
      exact h.less eqv
/-- the last cells are dropped -/
theorem RelS.drop (S : RelS K R H (M ++ t) st) : RelS K R H M (st.take M.length) := by
  have hl := S.len
  rw [List.length_append] at hl
  refine ⟨(List.nodup_append.mp S.nd).1, fun a ha => S.dis a (List.mem_append_left _ ha), S.trk, by rw [List.length_take]; omega, fun i c a h1 h2 => ?_⟩
  have hi : i < M.length := (List.getElem?_eq_some_iff.mp h2).1
  rw [List.getElem?_take_of_lt hi] at h1
  refine (S.cells i c a h1 (by rw [List.getElem?_append_left hi]; exact h2)).less fun b hb => ?_
  rcases List.mem_append.mp hb with q | q
  · exact List.mem_append_left _ (List.mem_append_left _ q)
  · exact List.mem_append_right _ q
/-- a cell is written -/
theorem RelS.put (S : RelS K R H M st) {n : Nat} {a : Addr} {ds : List D} {xs : List V} (ha : M[n]? = some a) (r : Reps K (M ++ R) H ds xs) : RelS K R (upd H a (.lst xs)) M (st.set n (.lst ds)) := by
  have hm : a ∈ M := List.mem_of_getElem? ha
  have keep : ∀ b o, H b = some o → b ∉ M ++ R → upd H a (.lst xs) b = some o := fun b o h hb => by
    rw [upd_ne fun z => hb (by rw [z]; exact List.mem_append_left _ hm)]; exact h
  refine ⟨S.nd, S.dis, fun b hb => ?_, by rw [List.length_set]; exact S.len, fun i c b h1 h2 => ?_⟩
  · obtain ⟨o, e⟩ := S.trk b hb
    refine ⟨o, ?_⟩
    rw [upd_ne fun z => S.dis a hm (by rw [← z]; exact hb)]; exact e
  · by_cases hi : i = n
    · subst hi
      rw [ha] at h2; cases h2
      have q : i < st.length := by
        have := (List.getElem?_eq_some_iff.mp h1).1
        simpa using this
      rw [List.getElem?_set_self q] at h1; cases h1
      exact ⟨xs, upd_same, r.mono keep fun _ z => .inl z⟩
    · rw [List.getElem?_set_ne (Ne.symm hi)] at h1
      have hba : b ≠ a := fun z => by
        subst z
        obtain ⟨l1, e1⟩ := List.getElem?_eq_some_iff.mp h2
        obtain ⟨l2, e2⟩ := List.getElem?_eq_some_iff.mp ha
        exact hi ((List.getElem_inj S.nd).mp (e1.trans e2.symm))
      have q := S.cells i c b h1 h2
      cases c with
      | dct k => exact q.elim
      | lst es =>
        obtain ⟨ys, e, r'⟩ := q
        exact ⟨ys, by rw [upd_ne hba]; exact e, r'.mono keep fun _ z => .inl z⟩
theorem Grow.put {a : Addr} {o : HO} (hm : a ∈ M) : Grow H M (upd H a o) M :=
  ⟨⟨[], by simp⟩, fun b u h hb => by rw [upd_ne fun z => hb (by rw [z]; exact hm)]; exact h, fun _ h => .inl h⟩
end
/-! ### slots -/
def RepW (K : Fg) (xa : Option (Addr × Nat)) (M Z : List Addr) (H : Hp) : W → V → Prop
  | .d x, v => Rep K Z H x v
  | .r n, v => ∃ a, M[n]? = some a ∧ v = .ref a
  | .rt ns, v => ∃ (a : Addr) (as : List Addr), v = .ref a ∧ H a = some (.tup (as.map V.ref)) ∧ a ∉ Z ∧ ns.map (M[·]?) = as.map some
  | .exc c, v => ∃ a, xa = some (a, c) ∧ v = .ref a
def RelE (K : Fg) (xa : Option (Addr × Nat)) (R : List Addr) (H : Hp) (M : List Addr) (σ : L2.St) (env : Env) : Prop :=
  ∀ (i : Nat) (w : W), slot env i = some w → ∃ v, σ[i]? = some (some v) ∧ RepW K xa M (M ++ R) H w v
section
variable {K : Fg} {R : List Addr} {H H' H1 H2 : Hp} {M M' M1 M2 : List Addr} {st st' : Store} {xa : Option (Addr × Nat)} {σ : L2.St} {env : Env}
theorem pre_get {t : List Addr} {n : Nat} {a : Addr} (e : M' = M ++ t) (h : M[n]? = some a) : M'[n]? = some a := by
  subst e
  rw [List.getElem?_append_left (List.getElem?_eq_some_iff.mp h).1]; exact h
theorem RepW.mono {Z Z' : List Addr} {w : W} {v : V} (hp : ∃ t, M' = M ++ t) (hk : ∀ a o, H a = some o → a ∉ Z → H' a = some o) (hz : ∀ a, a ∈ Z' → a ∈ Z ∨ H a = none) (h : RepW K xa M Z H w v) : RepW K xa M' Z' H' w v := by
  obtain ⟨t, et⟩ := hp
  cases w with
  | d x => exact Rep.mono hk hz h
  | r n => obtain ⟨a, e, q⟩ := h; exact ⟨a, pre_get et e, q⟩
  | exc c => exact h
  | rt ns =>
    obtain ⟨a, as, e, h1, h2, h3⟩ := h
    refine ⟨a, as, e, hk a _ h1 h2, fun z => ?_, ?_⟩
    · rcases hz a z with q | q
      · exact h2 q
      · rw [h1] at q; cases q
    · clear h1
      induction ns generalizing as with
      | nil => simpa using h3
      | cons n ns ih =>
        cases as with
        | nil => simp at h3
        | cons b bs =>
          simp only [List.map_cons, List.cons.injEq] at h3 ⊢
          exact ⟨pre_get et h3.1, ih bs h3.2⟩
theorem Grow.repW (g : Grow H M H' M') {w : W} {v : V} (r : RepW K xa M (M ++ R) H w v) : RepW K xa M' (M' ++ R) H' w v :=
  r.mono g.pre (fun a o h hz => g.keep a o h fun z => hz (List.mem_append_left _ z)) fun a ha => by
    rcases List.mem_append.mp ha with q | q
    · rcases g.new a q with z | z
      · exact .inl (List.mem_append_left _ z)
      · exact .inr z
    · exact .inl (List.mem_append_right _ q)
theorem Grow.relE (g : Grow H M H' M') (E : RelE K xa R H M σ env) : RelE K xa R H' M' σ env := fun i w h =>
  let ⟨v, e, r⟩ := E i w h
  ⟨v, e, g.repW r⟩
theorem slot_set {w : Option W} {i j : Nat} (h : slot (env.set i w) j = some w') : (i = j ∧ w = some w') ∨ (i ≠ j ∧ slot env j = some w') := by
  unfold slot at h ⊢
  by_cases e : i = j
  · subst e
    by_cases hi : i < env.length
    · rw [List.getElem?_set_self hi] at h
      exact .inl ⟨rfl, by simpa using h⟩
    · rw [List.getElem?_eq_none (by simpa using hi)] at h; simp at h
  · rw [List.getElem?_set_ne e] at h
    exact .inr ⟨e, h⟩
theorem RelE.set (E : RelE K xa R H M σ env) (hl : σ.length = env.length) {i : Nat} {w : W} {v : V} (r : RepW K xa M (M ++ R) H w v) : RelE K xa R H M (σ.set i (some v)) (env.set i (some w)) := fun j w' h => by
  have lt : j < (env.set i (some w)).length := by
    unfold slot at h
    cases q : (env.set i (some w))[j]? with
    | none => rw [q] at h; simp at h
    | some u => exact (List.getElem?_eq_some_iff.mp q).1
  rcases slot_set h with ⟨rfl, e⟩ | ⟨ne, e⟩
  · cases e
    exact ⟨v, by rw [List.getElem?_set_self (by rw [hl]; simpa using lt)], r⟩
  · obtain ⟨u, e1, r1⟩ := E j w' e
    exact ⟨u, by rw [List.getElem?_set_ne ne]; exact e1, r1⟩
theorem RelE.wipe (E : RelE K xa R H M σ env) : ∀ vs : List Nat, RelE K xa R H M (L2.wipe σ vs) (wipeE env vs)
  | [] => E
  | v :: vs => fun j w h => by
    rcases slot_set (show slot ((wipeE env vs).set v none) j = some w from h) with ⟨_, e⟩ | ⟨ne, e⟩
    · cases e
    · obtain ⟨u, e1, r1⟩ := RelE.wipe E vs j w e
      exact ⟨u, by show ((L2.wipe σ vs).set v none)[j]? = _; rw [List.getElem?_set_ne ne]; exact e1, r1⟩
theorem RelE.aside (S : RelS K R H M st) (E : RelE K xa R H M σ env) {p : Addr} {o : HO} (h : H p = none) : RelE K xa (p :: R) (upd H p o) M σ env := fun i w hw => by
  obtain ⟨v, e, r⟩ := E i w hw
  refine ⟨v, e, r.mono ⟨[], by simp⟩ (fun a u q _ => Ext.new h a u q) fun b hb => ?_⟩
  rcases List.mem_append.mp hb with z | z
  · exact .inl (List.mem_append_left _ z)
  · rcases List.mem_cons.mp z with z | z
    · subst z; exact .inr h
    · exact .inl (List.mem_append_right _ z)
end
end Cw
/-! 3. The judgement: what the interpreter says is what the model does. Expressions, one by one. -/
namespace Cw
open PySem PySem.Spec PyProof.Rows L2
abbrev XA := Option (Addr × Nat)
structure At (K : Fg) (xa : XA) (R : List Addr) (σ : L2.St) (H : Hp) (M : List Addr) (env : Env) (st : Store) : Prop where
  S : RelS K R H M st
  E : RelE K xa R H M σ env
  len : σ.length = env.length
/-- how a result stands: by the cells, what is set aside, the heap -/
abbrev RepT (A B : Type) := List Addr → List Addr → Hp → A → B → Prop
def Post {A B : Type} (K : Fg) (adr : Nat → Addr) (W' : WX) (rep : RepT A B) (R : List Addr) (σ : L2.St) (H : Hp) (M : List Addr) (Q : B → Hp → Prop) : Rs A × Store → Prop
  | (.val a, s) => ∀ b H' M', Grow H M H' M' → RelS K R H' M' s → rep M' (M' ++ R) H' a b → Q b H'
  | (.exc c, s) => ∀ H' M', Grow H M H' M' → RelS K R H' M' s → W' (.ref (adr c)) none σ H'
def tG {A B : Type} (K : Fg) (xa : XA) (adr : Nat → Addr) (W' : WX) (rep : RepT A B) (f : Env → Store → Out A) : L2.St → Hp → (B → Hp → Prop) → Prop := fun σ H Q =>
  ∃ R M env st o, At K xa R σ H M env st ∧ f env st = some o ∧ Post K adr W' rep R σ H M Q o
section
variable {K : Fg} {xa : XA} {adr : Nat → Addr} {W' : WX} {R : List Addr} {σ : L2.St} {H H1 H2 : Hp} {M M1 : List Addr} {env : Env} {st s : Store} {A B C E : Type} {rA : RepT A B} {rC : RepT C E}
theorem At.grow {s1 : Store} (a : At K xa R σ H M env st) (g : Grow H M H1 M1) (S : RelS K R H1 M1 s1) : At K xa R σ H1 M1 env s1 := ⟨S, g.relE a.E, a.len⟩
theorem Post.grow {Q : B → Hp → Prop} {o : Rs A × Store} (k : Post K adr W' rA R σ H M Q o) (g : Grow H M H1 M1) : Post K adr W' rA R σ H1 M1 Q o := by
  obtain ⟨o, s⟩ := o
  cases o with
  | val a => exact fun b H' M' g' S r => k b H' M' (g.trans g') S r
  | exc c => exact fun H' M' g' S => k H' M' (g.trans g') S
theorem tG_seq {f : Env → Store → Out A} {h : A → Store → Out C} {o : Rs C × Store} {Q : E → Hp → Prop} {Co : B → Hp → Prop} (a : At K xa R σ H M env st) (e : bnd (f env st) h = some o) (k : Post K adr W' rC R σ H M Q o)
    (c : ∀ x b s1 H1 M1, f env st = some (.val x, s1) → Grow H M H1 M1 → At K xa R σ H1 M1 env s1 → rA M1 (M1 ++ R) H1 x b → h x s1 = some o → Post K adr W' rC R σ H1 M1 Q o → Co b H1) : tG K xa adr W' rA f σ H Co := by
  cases q : f env st with
  | none => rw [q] at e; simp [bnd] at e
  | some p =>
    obtain ⟨p, s1⟩ := p
    cases p with
    | exc n =>
      rw [q] at e
      simp only [bnd, Option.some.injEq] at e
      subst e
      exact ⟨R, M, env, st, _, a, q, k⟩
    | val x =>
      rw [q] at e
      exact ⟨R, M, env, st, _, a, q, fun b H' M' g S r => c x b s1 H' M' q g (a.grow g S) r e (k.grow g)⟩
theorem tG_one {f : Env → Store → Out A} {o : Rs A × Store} {Q : B → Hp → Prop} (a : At K xa R σ H M env st) (e : f env st = some o) (k : Post K adr W' rA R σ H M Q o) : tG K xa adr W' rA f σ H Q := ⟨R, M, env, st, o, a, e, k⟩
theorem Post.ext {Q : B → Hp → Prop} {x : A} (k : Post K adr W' rA R σ H M Q (.val x, s)) (S : RelS K R H M s) : ∀ b H', Ext H H' → rA M (M ++ R) H' x b → Q b H' := fun b H' e r => k b H' M (.ext e) (S.ext e) r
theorem ret_eq {x : A} {o : Rs A × Store} (h : ret x s = some o) : o = (.val x, s) := (Option.some.inj h).symm
theorem lift_eq {x : Option A} {o : Rs A × Store} (h : lift x s = some o) : ∃ a, x = some a ∧ o = (.val a, s) := by
  cases x with
  | none => simp [lift] at h
  | some a => exact ⟨a, rfl, (Option.some.inj h).symm⟩
end
abbrev rD (K : Fg) : RepT D V := fun _ Z H d v => Rep K Z H d v
abbrev rDs (K : Fg) : RepT (List D) (List V) := fun _ Z H d v => Reps K Z H d v
abbrev rW (K : Fg) (xa : XA) : RepT W V := fun M Z H d v => RepW K xa M Z H d v
abbrev rEq (A : Type) : RepT A A := fun _ _ _ d v => d = v
/-- the parameters of a place: what is in the air, the classes' addresses -/
structure Pl where
  xa : XA
  adr : Nat → Addr
  W' : WX
abbrev tE (X : Cx) (p : Pl) (f : Env → Store → Out D) : TE := tG X.K p.xa p.adr p.W' (rD X.K) f
abbrev tV (X : Cx) (p : Pl) (f : Env → Store → Out W) : TE := tG X.K p.xa p.adr p.W' (rW X.K p.xa) f
abbrev tDs (X : Cx) (p : Pl) (f : Env → Store → Out (List D)) : TA := tG X.K p.xa p.adr p.W' (rDs X.K) f
abbrev tB (X : Cx) (p : Pl) (f : Env → Store → Out Bool) : TT := tG X.K p.xa p.adr p.W' (rEq Bool) f
abbrev tI (X : Cx) (p : Pl) (f : Env → Store → Out Int)   : L2.St → Hp → (Int → Hp → Prop) → Prop := tG X.K p.xa p.adr p.W' (rEq Int) f
theorem PE.less {X : Cx} {e : Expr} {t t' : TE} (h : PE X e t) (w : ∀ σ H Q, t' σ H Q → t σ H Q) : PE X e t' := ⟨fun pins s σ H Q I q => h.run pins s σ H Q I (w σ H Q q)⟩
theorem PT.less {X : Cx} {e : Expr} {t t' : TT} (h : PT X e t) (w : ∀ σ H Q, t' σ H Q → t σ H Q) : PT X e t' := ⟨fun pins s σ H Q I q => h.run pins s σ H Q I (w σ H Q q)⟩
theorem PW.less {X : Cx} {e : Expr} {t t' : TT} (h : PW X e t) (w : ∀ σ H Q, t' σ H Q → t σ H Q) : PW X e t' := ⟨fun wh pins s σ H Q I q => h.run wh pins s σ H Q I (w σ H Q q)⟩
theorem PA.less {X : Cx} {e : List Expr} {t t' : TA} (h : PA X e t) (w : ∀ σ H Q, t' σ H Q → t σ H Q) : PA X e t' := ⟨fun pos pins s σ H Q I q => h.run pos pins s σ H Q I (w σ H Q q)⟩
section
variable {X : Cx} {p : Pl} {a b c : Expr} {pos : Pos} {fa fb fc : Env → Store → Out D}
theorem asB_eq {d : D} {s : Store} {o : Rs Bool × Store} (h : asB d s = some o) : ∃ b, d = .bl b ∧ o = (.val b, s) := by
  cases d <;> simp [asB, ret] at h
  exact ⟨_, rfl, h.symm⟩
theorem asI_eq {d : D} {s : Store} {o : Rs Int × Store} (h : asI d s = some o) : ∃ b, d = .int b ∧ o = (.val b, s) := by
  cases d <;> simp [asI, ret] at h
  exact ⟨_, rfl, h.symm⟩
/-- a truth out of a value -/
theorem tB_of {f : Env → Store → Out D} {σ : L2.St} {H : Hp} {Q : Bool → Hp → Prop} (h : tB X p (fun env st => bnd (f env st) asB) σ H Q) : tE X p f σ H fun x H1 => ∃ c, x = .bl c ∧ Q c H1 := by
  obtain ⟨R, M, env, st, o, a, e, k⟩ := h
  refine tG_seq a e k fun x b s1 H1 M1 _ g a1 r e1 k1 => ?_
  obtain ⟨c, rfl, rfl⟩ := asB_eq e1
  have r : b = .bl c := by simpa [Rep] using r
  exact ⟨c, r, k1.ext a1.S c H1 Ext.refl rfl⟩
theorem tI_of {f : Env → Store → Out D} {σ : L2.St} {H : Hp} {Q : Int → Hp → Prop} (h : tI X p (fun env st => bnd (f env st) asI) σ H Q) : tE X p f σ H fun x H1 => ∃ c, x = .int c ∧ Q c H1 := by
  obtain ⟨R, M, env, st, o, a, e, k⟩ := h
  refine tG_seq a e k fun x b s1 H1 M1 _ g a1 r e1 k1 => ?_
  obtain ⟨c, rfl, rfl⟩ := asI_eq e1
  have r : b = .int c := by simpa [Rep] using r
  exact ⟨c, r, k1.ext a1.S c H1 Ext.refl rfl⟩
theorem n_var {i : Nat} {x : Str} (hN : X.N[i]? = some x) (hv : Vis X.env.scope x) (hd : (x == ("__debug__" : Str)) = false) (hcd : (x == ("__classdict__" : Str)) = false) : PE X (.Name x pos) (tE X p fun env st => lift (slotD env i) st) := by
  refine PE.less (pe_var hN hv hd hcd) fun σ H Q h => ?_
  obtain ⟨R, M, env, st, o, a, e, k⟩ := h
  obtain ⟨d, e2, rfl⟩ := lift_eq e
  unfold slotD at e2
  split at e2 <;> cases e2
  rename_i e3
  obtain ⟨v, e1, r⟩ := a.E i _ e3
  exact ⟨v, e1, k.ext a.S v H Ext.refl r⟩
theorem n_varW {i : Nat} {x : Str} (hN : X.N[i]? = some x) (hv : Vis X.env.scope x) (hd : (x == ("__debug__" : Str)) = false) (hcd : (x == ("__classdict__" : Str)) = false) : PE X (.Name x pos) (tV X p fun env st => lift (slotA env i) st) := by
  refine PE.less (pe_var hN hv hd hcd) fun σ H Q h => ?_
  obtain ⟨R, M, env, st, o, a, e, k⟩ := h
  obtain ⟨d, e2, rfl⟩ := lift_eq e
  have e3 : slot env i = some d := by
    unfold slotA at e2
    split at e2
    · cases e2
    · exact e2
  obtain ⟨v, e1, r⟩ := a.E i _ e3
  exact ⟨v, e1, k.ext a.S v H Ext.refl r⟩
/-- data as an operand -/
theorem n_opd (h : PE X a (tE X p fa)) : PE X a (tV X p fun env st => bnd (fa env st) fun x s => ret (.d x) s) := by
  refine PE.less h fun σ H Q h => ?_
  obtain ⟨R, M, env, st, o, a, e, k⟩ := h
  cases q : fa env st with
  | none => simp only [q, bnd] at e; cases e
  | some w =>
    obtain ⟨w, s⟩ := w
    refine ⟨R, M, env, st, _, a, q, ?_⟩
    cases w with
    | val x =>
      simp only [q, bnd, ret, Option.some.injEq] at e
      subst e
      exact fun b H' M' g S r => k b H' M' g S r
    | exc n =>
      simp only [q, bnd, Option.some.injEq] at e
      subst e
      exact k
theorem n_c {v : V} {d : D} (h : PE X a (tC v)) (hr : ∀ Z H, Rep X.K Z H d v) : PE X a (tE X p fun _ st => ret d st) := by
  refine PE.less h fun σ H Q h => ?_
  obtain ⟨R, M, env, st, o, a, e, k⟩ := h
  obtain rfl := ret_eq e
  exact k.ext a.S v H Ext.refl (hr _ _)
theorem n_int {i : Int} {j : Nat} : PE X (.Constant (.int i) j pos) (tE X p fun _ st => ret (.int i) st) := n_c pe_int fun _ _ => by simp [Rep]
theorem n_bl {i : Bool} {j : Nat} : PE X (.Constant (.bool i) j pos) (tE X p fun _ st => ret (.bl i) st) := n_c pe_bl fun _ _ => by simp [Rep]
theorem n_str {i : Str} {j : Nat} : PE X (.Constant (.str i) j pos) (tE X p fun _ st => ret (.str i) st) := n_c pe_str fun _ _ => by simp [Rep]
theorem n_non {j : Nat} : PE X (.Constant .none j pos) (tE X p fun _ st => ret .non st) := n_c pe_non fun _ _ => by simp [Rep]
theorem n_gint {x : Str} {i : Int} {t : Tok} (hg : Gl X x) (hm : X.mg x = some (.int i t)) (hd : (x == ("__debug__" : Str)) = false) : PE X (.Name x pos) (tE X p fun _ st => ret (.int i) st) := n_c (pe_glob (v := .int i) hg hm ⟨t, rfl⟩ hd) fun _ _ => by simp [Rep]
theorem n_gstr {x : Str} {i : Str} {t : Tok} (hg : Gl X x) (hm : X.mg x = some (.str i t)) (hd : (x == ("__debug__" : Str)) = false) : PE X (.Name x pos) (tE X p fun _ st => ret (.str i) st) := n_c (pe_glob (v := .str i) hg hm ⟨t, rfl⟩ hd) fun _ _ => by simp [Rep]
/-! ### displays -/
theorem n_nil : PA X [] (tDs X p fun _ st => ret [] st) := by
  refine PA.less pa_nil fun σ H Q h => ?_
  obtain ⟨R, M, env, st, o, a, e, k⟩ := h
  obtain rfl := ret_eq e
  exact k.ext a.S [] H Ext.refl .nil
theorem n_cons {es : List Expr} {fs : Env → Store → Out (List D)} (ha : PE X a (tE X p fa)) (hr : PA X es (tDs X p fs)) (hs : starEach (a :: es) X.env = (false, eval a X.env) :: starEach es X.env) :
    PA X (a :: es) (tDs X p fun env st => bnd (fa env st) fun x s => bnd (fs env s) fun xs s => ret (x :: xs) s) := by
  refine PA.less (pa_cons ha hr hs) fun σ H Q h => ?_
  obtain ⟨R, M, env, st, o, a, e, k⟩ := h
  refine tG_seq a e k fun x b s1 H1 M1 _ g a1 r e1 k1 => ?_
  refine tG_seq a1 e1 k1 fun xs bs s2 H2 M2 _ g2 a2 r2 e2 k2 => ?_
  obtain rfl := ret_eq e2
  exact k2.ext a2.S _ H2 Ext.refl (.cons (g2.rep r) r2)
theorem rep_newT {K : Fg} {R M : List Addr} {H : Hp} {st : Store} {q : Addr} {ds : List D} {xs : List V} (S : RelS K R H M st) (hq : H q = none) (r : Reps K (M ++ R) H ds xs) : Rep K (M ++ R) (upd H q (.tup xs)) (.tup ds) (.ref q) := by
  rw [Rep]
  exact ⟨q, xs, rfl, upd_same, S.fresh hq, r.mono (fun a o h _ => Ext.new hq a o h) fun _ z => .inl z⟩
theorem rep_newL {K : Fg} {R M : List Addr} {H : Hp} {st : Store} {q : Addr} {ds : List D} {xs : List V} (S : RelS K R H M st) (hq : H q = none) (r : Reps K (M ++ R) H ds xs) : Rep K (M ++ R) (upd H q (.lst xs)) (.lst ds) (.ref q) := by
  rw [Rep]
  exact ⟨q, xs, rfl, upd_same, S.fresh hq, r.mono (fun a o h _ => Ext.new hq a o h) fun _ z => .inl z⟩
theorem n_tup {es : List Expr} {fs : Env → Store → Out (List D)} {k0 : Nat} (h : PA X es (tDs X p fs)) (hz : ∀ env st ds s, fs env st = some (.val ds, s) → ds.length ≤ LIM) :
    PE X (.Tuple es k0 pos) (tE X p fun env st => bnd (fs env st) fun ds s => ret (.tup ds) s) := by
  refine PE.less (pe_tup h) fun σ H Q h => ?_
  obtain ⟨R, M, env, st, o, a, e, k⟩ := h
  refine tG_seq a e k fun x b s1 H1 M1 q1 g a1 r e1 k1 => ?_
  obtain rfl := ret_eq e1
  have hl := hz _ _ _ _ q1
  refine ⟨by rw [Reps.length r]; exact Nat.le_trans hl (by decide), fun q hq => ?_⟩
  exact k1.ext a1.S _ _ (Ext.new hq) (rep_newT a1.S hq r)
/-! ### a new list: it may be set aside -/
/-- Q gets the new list's address, set aside, with its items -/
def PostF (K : Fg) (adr : Nat → Addr) (W' : WX) (R : List Addr) (σ : L2.St) (H : Hp) (M : List Addr) (Q : V → Hp → Prop) : Rs D × Store → Prop
  | (.val a, s) => ∃ ds, a = .lst ds ∧ ∀ q xs H' M', H q = none → Grow H M H' M' → RelS K (q :: R) H' M' s → q ∉ R → H' q = some (.lst xs) → Reps K (M' ++ q :: R) H' ds xs → Q (.ref q) H'
  | (.exc c, s) => ∀ H' M', Grow H M H' M' → RelS K R H' M' s → W' (.ref (adr c)) none σ H'
def tF (X : Cx) (p : Pl) (f : Env → Store → Out D) : TE := fun σ H Q =>
  ∃ R M env st o, At X.K p.xa R σ H M env st ∧ f env st = some o ∧ PostF X.K p.adr p.W' R σ H M Q o
theorem PostF.grow {K : Fg} {adr : Nat → Addr} {W' : WX} {R : List Addr} {σ : L2.St} {H H1 : Hp} {M M1 : List Addr} {Q : V → Hp → Prop} {o : Rs D × Store} (k : PostF K adr W' R σ H M Q o) (g : Grow H M H1 M1) : PostF K adr W' R σ H1 M1 Q o := by
  obtain ⟨o, s⟩ := o
  cases o with
  | val a =>
    obtain ⟨ds, e, k⟩ := k
    refine ⟨ds, e, fun q xs H' M' hq g' S hn hl r => k q xs H' M' ?_ (g.trans g') S hn hl r⟩
    cases z : H q with
    | none => rfl
    | some u =>
      by_cases hm : q ∈ M
      · obtain ⟨t, et⟩ := g.pre
        obtain ⟨t', et'⟩ := g'.pre
        exact absurd List.mem_cons_self (S.dis q (by rw [et', et]; simp [hm]))
      · rw [g.keep q u z hm] at hq; cases hq
  | exc c => exact fun H' M' g' S => k H' M' (g.trans g') S
theorem tF_seq {A B : Type} {rA : RepT A B} {R : List Addr} {σ : L2.St} {H : Hp} {M : List Addr} {env : Env} {st : Store} {f : Env → Store → Out A} {h : A → Store → Out D} {o : Rs D × Store} {Q : V → Hp → Prop} {Co : B → Hp → Prop} (a : At X.K p.xa R σ H M env st) (e : bnd (f env st) h = some o) (k : PostF X.K p.adr p.W' R σ H M Q o)
    (c : ∀ x b s1 H1 M1, f env st = some (.val x, s1) → Grow H M H1 M1 → At X.K p.xa R σ H1 M1 env s1 → rA M1 (M1 ++ R) H1 x b → h x s1 = some o → PostF X.K p.adr p.W' R σ H1 M1 Q o → Co b H1) : tG X.K p.xa p.adr p.W' rA f σ H Co := by
  cases q : f env st with
  | none => rw [q] at e; simp [bnd] at e
  | some p =>
    obtain ⟨p, s1⟩ := p
    cases p with
    | exc n =>
      rw [q] at e
      simp only [bnd, Option.some.injEq] at e
      subst e
      exact ⟨R, M, env, st, _, a, q, k⟩
    | val x =>
      rw [q] at e
      exact ⟨R, M, env, st, _, a, q, fun b H' M' g S r => c x b s1 H' M' q g (a.grow g S) r e (k.grow g)⟩
/-- a new list as data -/
theorem n_frz {f : Env → Store → Out D} (h : PE X a (tF X p f)) (hl : ∀ env st d s, f env st = some (.val d, s) → ∃ ds, d = .lst ds) : PE X a (tE X p f) := by
  refine PE.less h fun σ H Q h => ?_
  obtain ⟨R, M, env, st, o, a, e, k⟩ := h
  refine ⟨R, M, env, st, o, a, e, ?_⟩
  obtain ⟨o, s⟩ := o
  cases o with
  | exc c => exact k
  | val d =>
    obtain ⟨ds, rfl⟩ := hl _ _ _ _ e
    refine ⟨ds, rfl, fun q xs H' M' hq g S hn hl r => k _ _ M' g S.back ?_⟩
    show Rep X.K (M' ++ R) H' (.lst ds) (.ref q)
    rw [Rep]
    refine ⟨q, xs, rfl, hl, fun z => ?_, reps_less (fun b hb => ?_) r⟩
    · rcases List.mem_append.mp z with y | y
      · exact S.dis q y List.mem_cons_self
      · exact hn y
    · rcases List.mem_append.mp hb with y | y
      · exact List.mem_append_left _ y
      · exact List.mem_append_right _ (List.mem_cons_of_mem _ y)
/-- the new list's place, for a rule that lays it -/
theorem PostF.lay {K : Fg} {adr : Nat → Addr} {W' : WX} {R : List Addr} {σ : L2.St} {H : Hp} {M : List Addr} {s : Store} {ds : List D} {xs : List V} {Q : V → Hp → Prop} (k : PostF K adr W' R σ H M Q (.val (.lst ds), s)) (S : RelS K R H M s) (r : Reps K (M ++ R) H ds xs) {q : Addr} (hq : H q = none) : Q (.ref q) (upd H q (.lst xs)) := by
  obtain ⟨ds', e, k⟩ := k
  cases e
  refine k q xs _ M hq (.ext (Ext.new hq)) (S.aside hq) (fun z => S.fresh hq (List.mem_append_right _ z)) upd_same ?_
  refine r.mono (fun a o h _ => Ext.new hq a o h) fun b hb => ?_
  rcases List.mem_append.mp hb with y | y
  · exact .inl (List.mem_append_left _ y)
  · rcases List.mem_cons.mp y with y | y
    · subst y; exact .inr hq
    · exact .inl (List.mem_append_right _ y)
theorem f_lst {es : List Expr} {fs : Env → Store → Out (List D)} (h : PA X es (tDs X p fs)) (hz : ∀ env st ds s, fs env st = some (.val ds, s) → ds.length ≤ LIM) :
    PE X (.List es pos) (tF X p fun env st => bnd (fs env st) fun ds s => ret (.lst ds) s) := by
  refine PE.less (pe_lst h) fun σ H Q h => ?_
  obtain ⟨R, M, env, st, o, a, e, k⟩ := h
  refine tF_seq a e k fun x b s1 H1 M1 q1 g a1 r e1 k1 => ?_
  obtain rfl := ret_eq e1
  have hl := hz _ _ _ _ q1
  refine ⟨by rw [Reps.length r]; exact Nat.le_trans hl (by decide), fun q hq => ?_⟩
  exact k1.lay a1.S r hq
theorem bnd_val {A B : Type} {m : Out A} {h : A → Store → Out B} {b : B} {s : Store} (e : bnd m h = some (.val b, s)) : ∃ a s1, m = some (.val a, s1) ∧ h a s1 = some (.val b, s) := by
  cases m with
  | none => simp [bnd] at e
  | some q =>
    obtain ⟨q, s1⟩ := q
    cases q with
    | exc c => simp [bnd] at e
    | val a => exact ⟨a, s1, rfl, e⟩
end
end Cw
/-! 4. Operators, comparisons, tests. -/
namespace Cw
open PySem PySem.Spec PyProof.Rows L2
section
variable {X : Cx} {p : Pl} {a b c : Expr} {pos : Pos} {fa fb fc : Env → Store → Out D}
/-- a two-place operation on data, by values -/
def SemR (K : Fg) (sem : D → D → Option D) (r : R2) : Prop := ∀ (R M : List Addr) (H : Hp) (st : Store) (dx dy dz : D) (x y : V) (Q : VK), RelS K R H M st → Rep K (M ++ R) H dx x → Rep K (M ++ R) H dy y → sem dx dy = some dz →
  (∀ v H', Ext H H' → Rep K (M ++ R) H' dz v → Q v H') → r x y H Q
theorem n_bin {op : Operator} {sem : D → D → Option D} {r : R2} (ho : OpR X (binaryOp op) r) (hs : SemR X.K sem r) (ha : PE X a (tE X p fa)) (hb : PE X b (tE X p fb)) :
    PE X (.BinOp a op b pos) (tE X p fun env st => bnd (fa env st) fun x s => bnd (fb env s) fun y s => lift (sem x y) s) := by
  refine PE.less (pe_op ho ha hb) fun σ H Q h => ?_
  obtain ⟨R, M, env, st, o, a, e, k⟩ := h
  try dsimp only at e
  refine tG_seq a e k fun x b s1 H1 M1 _ g a1 r e1 k1 => ?_
  refine tG_seq a1 e1 k1 fun y bs s2 H2 M2 _ g2 a2 r2 e2 k2 => ?_
  obtain ⟨d, e3, rfl⟩ := lift_eq e2
  exact hs R M2 H2 s2 x y d _ _ Q a2.S (g2.rep r) r2 e3 (k2.ext a2.S)
theorem n_cmpR {op : CmpOp} {sem : D → D → Option D} {r : R2} (ho : OpR X (compareOp op) r) (hs : SemR X.K sem r) (ha : PE X a (tE X p fa)) (hb : PE X b (tE X p fb)) (hm : behindInMarks op b = false) :
    PE X (.Compare a [op] [b] pos) (tE X p fun env st => bnd (fa env st) fun x s => bnd (fb env s) fun y s => lift (sem x y) s) := by
  refine PE.less (pe_cmpR ho ha hb hm) fun σ H Q h => ?_
  obtain ⟨R, M, env, st, o, a, e, k⟩ := h
  try dsimp only at e
  refine tG_seq a e k fun x b s1 H1 M1 _ g a1 r e1 k1 => ?_
  refine tG_seq a1 e1 k1 fun y bs s2 H2 M2 _ g2 a2 r2 e2 k2 => ?_
  obtain ⟨d, e3, rfl⟩ := lift_eq e2
  exact hs R M2 H2 s2 x y d _ _ Q a2.S (g2.rep r) r2 e3 (k2.ext a2.S)
theorem t_cmpR {op : CmpOp} {sem : D → D → Option D} {r : R2} (ho : OpR X (compareOp op) r) (hs : SemR X.K sem r) (ha : PE X a (tE X p fa)) (hb : PE X b (tE X p fb)) (hm : behindInMarks op b = false) :
    PT X (.Compare a [op] [b] pos) (tB X p fun env st => bnd (bnd (fa env st) fun x s => bnd (fb env s) fun y s => lift (sem x y) s) asB) := by
  refine PT.less (pt_cmpR ho ha hb hm) fun σ H Q h => ?_
  have h' := tB_of h
  obtain ⟨R, M, env, st, o, a, e, k⟩ := h'
  refine tG_seq a e k fun x b s1 H1 M1 _ g a1 r e1 k1 => ?_
  refine tG_seq a1 e1 k1 fun y bs s2 H2 M2 _ g2 a2 r2 e2 k2 => ?_
  obtain ⟨d, e3, rfl⟩ := lift_eq e2
  exact hs R M2 H2 s2 x y d _ _ _ a2.S (g2.rep r) r2 e3 (k2.ext a2.S)
theorem SemR.or1 {K : Fg} {sem : D → D → Option D} {r r' : R2} (h : SemR K sem r) : SemR K sem (fun x y H Q => r x y H Q ∨ r' x y H Q) := fun R M H st dx dy dz x y Q S hx hy e k => .inl (h R M H st dx dy dz x y Q S hx hy e k)
theorem rep_int {K : Fg} {Z : List Addr} {H : Hp} {i : Int} {v : V} : Rep K Z H (.int i) v ↔ v = .int i := by rw [Rep]
theorem rep_bl {K : Fg} {Z : List Addr} {H : Hp} {i : Bool} {v : V} : Rep K Z H (.bl i) v ↔ v = .bl i := by rw [Rep]
theorem rep_str {K : Fg} {Z : List Addr} {H : Hp} {i : Str} {v : V} : Rep K Z H (.str i) v ↔ v = .str i := by rw [Rep]
theorem rep_non {K : Fg} {Z : List Addr} {H : Hp} {v : V} : Rep K Z H .non v ↔ v = .non := by rw [Rep]
theorem rep_tup {K : Fg} {Z : List Addr} {H : Hp} {ds : List D} {v : V} : Rep K Z H (.tup ds) v ↔ ∃ a xs, v = .ref a ∧ H a = some (.tup xs) ∧ a ∉ Z ∧ Reps K Z H ds xs := by rw [Rep]
theorem rep_lst {K : Fg} {Z : List Addr} {H : Hp} {ds : List D} {v : V} : Rep K Z H (.lst ds) v ↔ ∃ a xs, v = .ref a ∧ H a = some (.lst xs) ∧ a ∉ Z ∧ Reps K Z H ds xs := by rw [Rep]
theorem rep_scr {K : Fg} {Z : List Addr} {H : Hp} {ns : List Int} {v : V} (h : Rep K Z H (.scr ns) v) : ∃ a, v = .ref a ∧ SqL K H a (ns.map V.int) := by
  rw [Rep] at h
  obtain ⟨a, e, h | h⟩ := h
  · exact ⟨a, e, .inl h.1⟩
  · exact ⟨a, e, .inr h⟩
/-! ### + - * % // ** -/
def rAddA (K : Fg) : R2 := fun x y H Q => rI0 (fun i j => .int (i + j)) x y H Q ∨ (∃ i j, x = .str i ∧ y = .str j ∧ i.length + j.length ≤ sizeLine ∧ Q (.str (i ++ j)) H) ∨ rCatA K x y H Q ∨ rCat x y H Q
theorem op_addA : OpR X (binaryOp .Add) (rAddA X.K) := op_add.or (op_add_str.or (op_catA.or op_cat))
theorem lim_line {n : Nat} (h : n ≤ LIM) : n ≤ sizeLine := Nat.le_trans h (by decide)
theorem sem_add {K : Fg} : SemR K addD (rAddA K) := by
  intro R M H st dx dy dz x y Q S hx hy e k
  cases dx <;> cases dy <;> simp only [addD] at e <;> try cases e
  · rw [rep_int] at hx hy
    exact .inl ⟨_, _, hx, hy, k _ _ Ext.refl (by rw [rep_int])⟩
  · rename_i i j
    split at e <;> cases e
    rename_i hl
    rw [rep_str] at hx hy
    exact .inr (.inl ⟨_, _, hx, hy, lim_line hl, k _ _ Ext.refl (by rw [rep_str])⟩)
  · rename_i ds es
    split at e <;> cases e
    rename_i hl
    have hx0 := hx
    have hy0 := hy
    rw [rep_tup] at hx hy
    obtain ⟨u, xs, rfl, h1, h2, h3⟩ := hx
    obtain ⟨v, ys, rfl, g1, g2, g3⟩ := hy
    refine .inr (.inr (.inl ⟨u, v, xs, ys, rfl, rfl, SqT.of h1, SqT.of g1, by rw [h3.length, g3.length]; exact lim_line hl, fun z => ?_, fun _ z => ?_, fun _ _ q hq => ?_⟩))
    · subst z
      have : ds = [] := List.length_eq_zero_iff.mp (by rw [← h3.length]; rfl)
      subst this
      exact k _ _ Ext.refl hy0
    · subst z
      have : es = [] := List.length_eq_zero_iff.mp (by rw [← g3.length]; rfl)
      subst this
      rw [List.append_nil] at k
      exact k _ _ Ext.refl hx0
    · exact k _ _ (Ext.new hq) (rep_newT S hq (h3.append g3))
  · rename_i ds es
    split at e <;> cases e
    rename_i hl
    rw [rep_lst] at hx hy
    obtain ⟨u, xs, rfl, h1, h2, h3⟩ := hx
    obtain ⟨v, ys, rfl, g1, g2, g3⟩ := hy
    exact .inr (.inr (.inr ⟨u, v, xs, ys, rfl, rfl, h1, g1, by rw [h3.length, g3.length]; exact lim_line hl, fun q hq => k _ _ (Ext.new hq) (rep_newL S hq (h3.append g3))⟩))
theorem sem_sub {K : Fg} : SemR K subD (rI0 fun i j => .int (i - j)) := by
  intro R M H st dx dy dz x y Q S hx hy e k
  cases dx <;> cases dy <;> simp only [subD] at e <;> try cases e
  rw [rep_int] at hx hy
  exact ⟨_, _, hx, hy, k _ _ Ext.refl (by rw [rep_int])⟩
theorem sem_md {K : Fg} : SemR K mdD (rI (fun _ j => 0 < j) fun i j => .int (i % j)) := by
  intro R M H st dx dy dz x y Q S hx hy e k
  cases dx <;> cases dy <;> simp only [mdD] at e <;> try cases e
  split at e <;> cases e
  rename_i hl
  rw [rep_int] at hx hy
  exact ⟨_, _, hx, hy, hl, k _ _ Ext.refl (by rw [rep_int])⟩
theorem sem_fd {K : Fg} : SemR K fdD (rI CDivW fun i j => .int (i / j)) := by
  intro R M H st dx dy dz x y Q S hx hy e k
  cases dx <;> cases dy <;> simp only [fdD] at e <;> try cases e
  split at e <;> cases e
  rename_i hl
  rw [rep_int] at hx hy
  exact ⟨_, _, hx, hy, hl, k _ _ Ext.refl (by rw [rep_int])⟩
theorem sem_pw {K : Fg} : SemR K pwD (rI CPow fun i j => .int (i ^ j.toNat)) := by
  intro R M H st dx dy dz x y Q S hx hy e k
  cases dx <;> cases dy <;> simp only [pwD] at e <;> try cases e
  split at e <;> cases e
  rename_i hl
  rw [rep_int] at hx hy
  exact ⟨_, _, hx, hy, hl, k _ _ Ext.refl (by rw [rep_int])⟩
theorem n_neg (ha : PE X a (tE X p fa)) : PE X (.UnaryOp .USub a pos) (tE X p fun env st => bnd (bnd (fa env st) asI) fun i s => ret (.int (-i)) s) := by
  refine PE.less (pe_un un_neg ha) fun σ H Q h => ?_
  obtain ⟨R, M, env, st, o, a, e, k⟩ := h
  try dsimp only at e
  refine tI_of (p := p) (f := fa) (tG_seq a e k fun x b s1 H1 M1 _ g a1 r e1 k1 => ?_)
  obtain rfl := ret_eq e1
  have r : x = b := r
  subst r
  exact k1.ext a1.S _ _ Ext.refl (rep_int.mpr rfl)
/-! ### comparisons -/
theorem sem_eq {K : Fg} : SemR K (fun x y => (eqD x y).map .bl) (rEqD K) := by
  intro R M H st dx dy dz x y Q S hx hy e k
  simp only [Option.map_eq_some_iff, eqD] at e
  obtain ⟨b, e, rfl⟩ := e
  split at e <;> cases e
  rename_i hl
  exact ⟨_, _, hx.dp, hy.dp, hl.1, hl.2, k _ _ Ext.refl (rep_bl.mpr rfl)⟩
theorem sem_ne {K : Fg} : SemR K (fun x y => ((eqD x y).map not).map .bl) (rNeD K) := by
  intro R M H st dx dy dz x y Q S hx hy e k
  simp only [Option.map_map, Option.map_eq_some_iff, eqD] at e
  obtain ⟨b, e, rfl⟩ := e
  split at e <;> cases e
  rename_i hl
  exact ⟨_, _, hx.dp, hy.dp, hl.1, hl.2, k _ _ Ext.refl (rep_bl.mpr rfl)⟩
theorem sem_int {K : Fg} {f : Int → Int → Bool} : SemR K (fun x y => (cmpI f x y).map .bl) (rI0 fun i j => .bl (f i j)) := by
  intro R M H st dx dy dz x y Q S hx hy e k
  cases dx <;> cases dy <;> simp only [cmpI] at e <;> try cases e
  rw [rep_int] at hx hy
  exact ⟨_, _, hx, hy, k _ _ Ext.refl (by rw [rep_bl])⟩
theorem sem_isN {K : Fg} : SemR K (fun x y => match y with
    | .non => some (.bl (match x with
      | .non => true
      | _ => false))
    | _ => none) (fun x y H Q => y = .non ∧ Q (.bl (decide (x = .non))) H) := by
  intro R M H st dx dy dz x y Q S hx hy e k
  cases dy <;> simp only at e <;> try cases e
  rw [rep_non] at hy
  refine ⟨hy, k _ _ Ext.refl ?_⟩
  rw [rep_bl]
  congr 1
  cases dx with
  | non => rw [Rep] at hx; subst hx; rfl
  | bl b => rw [Rep] at hx; subst hx; rfl
  | int b => rw [Rep] at hx; subst hx; rfl
  | str b => rw [Rep] at hx; subst hx; rfl
  | tup b => rw [Rep] at hx; obtain ⟨a, xs, rfl, _⟩ := hx; rfl
  | lst b => rw [Rep] at hx; obtain ⟨a, xs, rfl, _⟩ := hx; rfl
  | scr b => rw [Rep] at hx; obtain ⟨a, rfl, _⟩ := hx; rfl
theorem sem_notN {K : Fg} : SemR K (fun x y => match y with
    | .non => some (.bl (match x with
      | .non => false
      | _ => true))
    | _ => none) (fun x y H Q => y = .non ∧ Q (.bl (!decide (x = .non))) H) := by
  intro R M H st dx dy dz x y Q S hx hy e k
  cases dy <;> simp only at e <;> try cases e
  rw [rep_non] at hy
  refine ⟨hy, k _ _ Ext.refl ?_⟩
  rw [rep_bl]
  congr 1
  cases dx with
  | non => rw [Rep] at hx; subst hx; rfl
  | bl b => rw [Rep] at hx; subst hx; rfl
  | int b => rw [Rep] at hx; subst hx; rfl
  | str b => rw [Rep] at hx; subst hx; rfl
  | tup b => rw [Rep] at hx; obtain ⟨a, xs, rfl, _⟩ := hx; rfl
  | lst b => rw [Rep] at hx; obtain ⟨a, xs, rfl, _⟩ := hx; rfl
  | scr b => rw [Rep] at hx; obtain ⟨a, rfl, _⟩ := hx; rfl
theorem sem_notB {K : Fg} : SemR K (fun x y => match x, y with
    | .bl c, .bl b => some (.bl (!decide (c = b)))
    | _, _ => none) rNotB := by
  intro R M H st dx dy dz x y Q S hx hy e k
  cases dx <;> cases dy <;> simp only at e <;> try cases e
  rw [rep_bl] at hx hy
  exact ⟨_, _, hx, hy, k _ _ Ext.refl (by rw [rep_bl])⟩
/-! ### in -/
theorem flat_of {K : Fg} {Z : List Addr} {H : Hp} {d : D} {v : V} (h : Rep K Z H d v) (s : scalD d = true) : flatV v = true := by
  cases d <;> simp [scalD] at s
  · rw [rep_non] at h; subst h; rfl
  · rw [rep_bl] at h; subst h; rfl
  · rw [rep_int] at h; subst h; rfl
  · rw [rep_str] at h; subst h; rfl
theorem eqV_of {K : Fg} {Z : List Addr} {H : Hp} {d e : D} {v u : V} (h : Rep K Z H d v) (s : scalD d = true) (h' : Rep K Z H e u) (s' : scalD e = true) : eqV v u = deq d e := by
  cases d <;> try (simp [scalD] at s; done)
  all_goals (cases e <;> try (simp [scalD] at s'; done))
  all_goals (simp only [rep_non, rep_bl, rep_int, rep_str] at h h'; subst h h'; simp [deq, toPy, eqV, PyData.eqv])
theorem flats_of {K : Fg} {Z : List Addr} {H : Hp} : ∀ {ds : List D} {vs : List V}, Reps K Z H ds vs → ds.all scalD = true → vs.all flatV = true
  | [], _, h, _ => by rw [h.inv0]; rfl
  | d :: ds, _, h, s => by
    obtain ⟨x, r, rfl, h1, h2⟩ := h.inv
    rw [List.all_cons, Bool.and_eq_true] at s
    rw [List.all_cons, flat_of h1 s.1, flats_of h2 s.2]; rfl
theorem inV_of {K : Fg} {Z : List Addr} {H : Hp} {e : D} {u : V} (h' : Rep K Z H e u) (s' : scalD e = true) : ∀ {ds : List D} {vs : List V}, Reps K Z H ds vs → ds.all scalD = true → inV u vs = ds.any fun y => deq y e
  | [], _, h, _ => by rw [h.inv0]; rfl
  | d :: ds, _, h, s => by
    obtain ⟨x, r, rfl, h1, h2⟩ := h.inv
    rw [List.all_cons, Bool.and_eq_true] at s
    have ih := inV_of h' s' h2 s.2
    unfold inV at ih ⊢
    rw [List.any_cons, List.any_cons, ih, eqV_of h1 s.1 h' s']
def rInA (K : Fg) (neg : Bool) : R2 := fun x y H Q => (∃ (c : Nat) (z : Str), x = .str ⟨#[c]⟩ ∧ y = .str z ∧ Q (.bl (if neg then !decide (c ∈ z.cps.toList) else decide (c ∈ z.cps.toList))) H) ∨ rIn K neg x y H Q
theorem op_inA : OpR X (compareOp .In) (rInA X.K false) := OpR.or (r := fun x y H Q => ∃ (c : Nat) (z : Str), x = .str ⟨#[c]⟩ ∧ y = .str z ∧ Q (.bl (if false then !decide (c ∈ z.cps.toList) else decide (c ∈ z.cps.toList))) H) (fun pins s σ H x y v u Q I rx ry h => by
  obtain ⟨c, z, e1, e2, q⟩ := h
  exact op_in_sign pins s σ H x y v u Q I rx ry ⟨c, z, e1, e2, q⟩) op_in_seq
theorem op_notinA : OpR X (compareOp .NotIn) (rInA X.K true) := OpR.or (r := fun x y H Q => ∃ (c : Nat) (z : Str), x = .str ⟨#[c]⟩ ∧ y = .str z ∧ Q (.bl (if true then !decide (c ∈ z.cps.toList) else decide (c ∈ z.cps.toList))) H) (fun pins s σ H x y v u Q I rx ry h => by
  obtain ⟨c, z, e1, e2, q⟩ := h
  exact op_notIn_sign pins s σ H x y v u Q I rx ry ⟨c, z, e1, e2, q⟩) op_notIn_seq
theorem rin_of {K : Fg} {neg : Bool} {R M : List Addr} {H : Hp} {st : Store} {dx dy : D} {b : Bool} {x y : V} {Q : VK} (S : RelS K R H M st) (hx : Rep K (M ++ R) H dx x) (hy : Rep K (M ++ R) H dy y) (e : inD dx dy = some b) (k : Q (.bl (if neg then !b else b)) H) : rInA K neg x y H Q := by
  cases dy with
  | str z =>
    cases dx <;> simp only [inD] at e <;> try cases e
    rename_i u
    split at e <;> cases e
    rename_i c hc
    rw [rep_str] at hx hy
    refine .inl ⟨c, z, ?_, hy, k⟩
    rw [hx]
    obtain ⟨⟨l⟩⟩ := u
    simp only [signs] at hc
    subst hc
    rfl
  | tup ds =>
    have e' : (if (scalD dx && ds.all scalD) = true then some (ds.any fun y => deq y dx) else none) = some b := by
      cases dx <;> exact e
    split at e' <;> cases e'
    rename_i hl
    rw [Bool.and_eq_true] at hl
    rw [rep_tup] at hy
    obtain ⟨a, xs, rfl, h1, _, h3⟩ := hy
    refine .inr ⟨a, xs, rfl, .inr (SqT.of h1), flat_of hx hl.1, flats_of h3 hl.2, ?_⟩
    rw [inV_of hx hl.1 h3 hl.2]
    exact k
  | lst ds =>
    have e' : (if (scalD dx && ds.all scalD) = true then some (ds.any fun y => deq y dx) else none) = some b := by
      cases dx <;> exact e
    split at e' <;> cases e'
    rename_i hl
    rw [Bool.and_eq_true] at hl
    rw [rep_lst] at hy
    obtain ⟨a, xs, rfl, h1, _, h3⟩ := hy
    refine .inr ⟨a, xs, rfl, .inl (SqL.of h1), flat_of hx hl.1, flats_of h3 hl.2, ?_⟩
    rw [inV_of hx hl.1 h3 hl.2]
    exact k
  | _ => cases dx <;> simp [inD] at e
theorem sem_in {K : Fg} : SemR K (fun x y => (inD x y).map .bl) (rInA K false) := by
  intro R M H st dx dy dz x y Q S hx hy e k
  simp only [Option.map_eq_some_iff] at e
  obtain ⟨b, e, rfl⟩ := e
  exact rin_of S hx hy e (k _ _ Ext.refl (rep_bl.mpr rfl))
theorem sem_notin {K : Fg} : SemR K (fun x y => ((inD x y).map not).map .bl) (rInA K true) := by
  intro R M H st dx dy dz x y Q S hx hy e k
  simp only [Option.map_map, Option.map_eq_some_iff] at e
  obtain ⟨b, e, rfl⟩ := e
  exact rin_of S hx hy e (k _ _ Ext.refl (rep_bl.mpr rfl))
/-! ### truth -/
abbrev tT (X : Cx) (p : Pl) (f : Env → Store → Out D) : TT := tB X p fun env st => bnd (f env st) asB
theorem t_val (h : PE X a (tE X p fa)) (he : ∀ whole, isTrue a X.env whole = (do let v ← whole; standAt a.pos; holding [v] (truthy v))) : PT X a (tT X p fa) :=
  PT.less (pt_val h he) fun σ H Q q => tB_of q
theorem tB_bl {f : Env → Store → Out D} {h : Bool → Store → Out Bool} {m : Bool → Bool} : True := trivial
theorem t_not (h : PT X a (tT X p fa)) : PT X (.UnaryOp .Not a pos) (tT X p fun env st => bnd (bnd (fa env st) asB) fun b s => ret (.bl (!b)) s) := by
  refine PT.less (pt_not h) fun σ H Q h => ?_
  obtain ⟨R, M, env, st, o, a, e, k⟩ := h
  try dsimp only at e
  have e' : bnd (bnd (fa env st) asB) (fun b s => ret (!b) s) = some o := by
    rw [← e]
    cases bnd (fa env st) asB with
    | none => rfl
    | some q => obtain ⟨q, s⟩ := q; cases q <;> rfl
  refine tG_seq a e' k fun x b s1 H1 M1 _ g a1 r e1 k1 => ?_
  obtain rfl := ret_eq e1
  have r : x = b := r
  subst r
  exact k1.ext a1.S _ _ Ext.refl rfl
theorem n_not (h : PE X a (tE X p fa)) : PE X (.UnaryOp .Not a pos) (tE X p fun env st => bnd (bnd (fa env st) asB) fun b s => ret (.bl (!b)) s) := by
  refine PE.less (pe_not h) fun σ H Q h => ?_
  obtain ⟨R, M, env, st, o, a, e, k⟩ := h
  try dsimp only at e
  refine tB_of (p := p) (f := fa) (tG_seq a e k fun x b s1 H1 M1 _ g a1 r e1 k1 => ?_)
  obtain rfl := ret_eq e1
  have r : x = b := r
  subst r
  exact k1.ext a1.S _ _ Ext.refl (rep_bl.mpr rfl)
theorem bnd_bl {m : Out Bool} : bnd (bnd m fun b s => ret (.bl b) s) asB = m := by
  cases m with
  | none => rfl
  | some q => obtain ⟨q, s⟩ := q; cases q <;> rfl
theorem bnd_assoc {A B C : Type} {m : Out A} {f : A → Store → Out B} {g : B → Store → Out C} : bnd (bnd m f) g = bnd m fun a s => bnd (f a s) g := by
  cases m with
  | none => rfl
  | some q => obtain ⟨q, s⟩ := q; cases q <;> rfl
variable {rest : List Expr}
theorem w_and1 (h : PT X a (tT X p fa)) : PW X (.BoolOp .And [a] pos) (tT X p fun env st => bnd (bnd (fa env st) asB) fun b s => ret (.bl b) s) := by
  refine PW.less (pw_and1 h) fun σ H Q h => ?_
  simp only [tT, bnd_bl] at h
  exact h
theorem w_or1 (h : PT X a (tT X p fa)) : PW X (.BoolOp .Or [a] pos) (tT X p fun env st => bnd (bnd (fa env st) asB) fun b s => ret (.bl b) s) := by
  refine PW.less (pw_or1 h) fun σ H Q h => ?_
  simp only [tT, bnd_bl] at h
  exact h
theorem w_and (h : PT X a (tT X p fa)) (hb : PW X (.BoolOp .And (b :: rest) pos) (tT X p fb)) : PW X (.BoolOp .And (a :: b :: rest) pos) (tT X p fun env st => bnd (bnd (fa env st) asB) fun c s => if c = true then fb env s else ret (.bl false) s) := by
  refine PW.less (pw_and h hb) fun σ H Q h => ?_
  obtain ⟨R, M, env, st, o, a, e, k⟩ := h
  try dsimp only at e
  rw [bnd_assoc] at e
  refine tG_seq a e k fun x b s1 H1 M1 _ g a1 r e1 k1 => ?_
  have r : x = b := r
  subst r
  cases x with
  | true =>
    rw [if_pos rfl] at e1 ⊢
    exact tG_one a1 e1 k1
  | false =>
    rw [if_neg Bool.false_ne_true] at e1 ⊢
    obtain rfl : o = (.val false, s1) := (Option.some.inj e1).symm
    exact k1.ext a1.S _ _ Ext.refl rfl
theorem w_or (h : PT X a (tT X p fa)) (hb : PW X (.BoolOp .Or (b :: rest) pos) (tT X p fb)) : PW X (.BoolOp .Or (a :: b :: rest) pos) (tT X p fun env st => bnd (bnd (fa env st) asB) fun c s => if c = true then ret (.bl true) s else fb env s) := by
  refine PW.less (pw_or h hb) fun σ H Q h => ?_
  obtain ⟨R, M, env, st, o, a, e, k⟩ := h
  try dsimp only at e
  rw [bnd_assoc] at e
  refine tG_seq a e k fun x b s1 H1 M1 _ g a1 r e1 k1 => ?_
  have r : x = b := r
  subst r
  cases x with
  | true =>
    rw [if_pos rfl] at e1 ⊢
    obtain rfl : o = (.val true, s1) := (Option.some.inj e1).symm
    exact k1.ext a1.S _ _ Ext.refl rfl
  | false =>
    rw [if_neg Bool.false_ne_true] at e1 ⊢
    exact tG_one a1 e1 k1
theorem n_and1 {op : BoolOp} (h : PE X a (tE X p fa)) : PE X (.BoolOp op [a] pos) (tE X p fun env st => bnd (bnd (fa env st) asB) fun b s => ret (.bl b) s) := by
  refine PE.less (pe_one h) fun σ H Q h => ?_
  obtain ⟨R, M, env, st, o, a, e, k⟩ := h
  try dsimp only at e
  rw [bnd_assoc] at e
  refine tG_seq a e k fun x b s1 H1 M1 _ g a1 r e1 k1 => ?_
  obtain ⟨c, s2, e2, e3⟩ : ∃ c s2, asB x s1 = some (.val c, s2) ∧ o = (.val (.bl c), s2) := by
    cases x <;> simp only [asB, bnd, ret] at e1 <;> try cases e1
    exact ⟨_, _, rfl, rfl⟩
  obtain ⟨c', rfl, e4⟩ := asB_eq e2
  cases e4
  subst e3
  exact k1.ext a1.S _ _ Ext.refl r
theorem n_and (h : PE X a (tE X p fa)) (hb : PE X (.BoolOp .And (b :: rest) pos) (tE X p fb)) : PE X (.BoolOp .And (a :: b :: rest) pos) (tE X p fun env st => bnd (bnd (fa env st) asB) fun c s => if c = true then fb env s else ret (.bl false) s) := by
  refine PE.less (pe_and h hb) fun σ H Q h => ?_
  obtain ⟨R, M, env, st, o, a, e, k⟩ := h
  try dsimp only at e
  refine tB_of (p := p) (f := fa) (tG_seq a e k fun x b s1 H1 M1 _ g a1 r e1 k1 => ?_)
  have r : x = b := r
  subst r
  cases x with
  | true =>
    rw [if_pos rfl] at e1 ⊢
    exact tG_one a1 e1 k1
  | false =>
    rw [if_neg Bool.false_ne_true] at e1 ⊢
    obtain rfl := ret_eq e1
    exact k1.ext a1.S _ _ Ext.refl (rep_bl.mpr rfl)
theorem n_or (h : PE X a (tE X p fa)) (hb : PE X (.BoolOp .Or (b :: rest) pos) (tE X p fb)) : PE X (.BoolOp .Or (a :: b :: rest) pos) (tE X p fun env st => bnd (bnd (fa env st) asB) fun c s => if c = true then ret (.bl true) s else fb env s) := by
  refine PE.less (pe_or h hb) fun σ H Q h => ?_
  obtain ⟨R, M, env, st, o, a, e, k⟩ := h
  try dsimp only at e
  refine tB_of (p := p) (f := fa) (tG_seq a e k fun x b s1 H1 M1 _ g a1 r e1 k1 => ?_)
  have r : x = b := r
  subst r
  cases x with
  | true =>
    rw [if_pos rfl] at e1 ⊢
    obtain rfl := ret_eq e1
    exact k1.ext a1.S _ _ Ext.refl (rep_bl.mpr rfl)
  | false =>
    rw [if_neg Bool.false_ne_true] at e1 ⊢
    exact tG_one a1 e1 k1
theorem n_ife (h : PT X c (tT X p fc)) (ha : PE X a (tE X p fa)) (hb : PE X b (tE X p fb)) : PE X (.IfExp c a b pos) (tE X p fun env st => bnd (bnd (fc env st) asB) fun x s => if x = true then fa env s else fb env s) := by
  refine PE.less (pe_ifExp h ha hb) fun σ H Q h => ?_
  obtain ⟨R, M, env, st, o, a, e, k⟩ := h
  try dsimp only at e
  refine tG_seq a e k fun x b s1 H1 M1 _ g a1 r e1 k1 => ?_
  have r : x = b := r
  subst r
  cases x with
  | true =>
    rw [if_pos rfl] at e1 ⊢
    exact tG_one a1 e1 k1
  | false =>
    rw [if_neg Bool.false_ne_true] at e1 ⊢
    exact tG_one a1 e1 k1
/-! ### chains -/
def chainF (sem sem' : D → D → Option Bool) (fa fb fc : Env → Store → Out D) (env : Env) (st : Store) : Out D := bnd (fa env st) fun x s => bnd (fb env s) fun y s => match sem x y with
    | some true => bnd (fc env s) fun z s => lift ((sem' y z).map .bl) s
    | some false => ret (.bl false) s
    | none => none
theorem chain_read {sem sem' : D → D → Option Bool} {r r' : R2} (hs : SemR X.K (fun x y => (sem x y).map .bl) r) (hs' : SemR X.K (fun x y => (sem' x y).map .bl) r') {σ : L2.St} {H : Hp} {Q : VK} (h : tE X p (chainF sem sem' fa fb fc) σ H Q) : tChain r r' (tE X p fa) (tE X p fb) (tE X p fc) σ H Q := by
  obtain ⟨R, M, env, st, o, a, e, k⟩ := h
  try dsimp only at e
  refine tG_seq a e k fun x b s1 H1 M1 _ g a1 r e1 k1 => ?_
  refine tG_seq a1 e1 k1 fun y bs s2 H2 M2 _ g2 a2 r2 e2 k2 => ?_
  cases q : sem x y with
  | none => rw [q] at e2; cases e2
  | some c =>
    rw [q] at e2
    refine hs R M2 H2 s2 x y (.bl c) _ _ _ a2.S (g2.rep r) r2 (by show Option.map D.bl (sem x y) = _; rw [q]; rfl) fun v H3 e3 r3 => ?_
    rw [rep_bl] at r3
    refine ⟨c, r3, ?_⟩
    have a3 := a2.grow (.ext e3) (a2.S.ext e3)
    have k3 := k2.grow (Grow.ext (M := M2) e3)
    cases c with
    | false =>
      rw [if_neg Bool.false_ne_true]
      obtain rfl := ret_eq e2
      exact k3.ext a3.S _ _ Ext.refl (rep_bl.mpr rfl)
    | true =>
      rw [if_pos rfl]
      refine tG_seq a3 e2 k3 fun z bz s4 H4 M4 _ g4 a4 r4 e4 k4 => ?_
      obtain ⟨d, e5, rfl⟩ := lift_eq e4
      exact hs' R M4 H4 s4 y z d _ _ Q a4.S (g4.rep ((Grow.ext (M := M2) e3).rep r2)) r4 e5 (k4.ext a4.S)
theorem n_chain {op op' : CmpOp} {sem sem' : D → D → Option Bool} {r r' : R2} (ho : OpR X (compareOp op) r) (ho' : OpR X (compareOp op') r') (hs : SemR X.K (fun x y => (sem x y).map .bl) r) (hs' : SemR X.K (fun x y => (sem' x y).map .bl) r')
    (ha : PE X a (tE X p fa)) (hb : PE X b (tE X p fb)) (hc : PE X c (tE X p fc)) (hm : lastMarks [op, op'] [b, c] = false) : PE X (.Compare a [op, op'] [b, c] pos) (tE X p (chainF sem sem' fa fb fc)) :=
  PE.less (pe_chain ho ho' ha hb hc hm) fun σ H Q h => chain_read hs hs' h
theorem t_chain {op op' : CmpOp} {sem sem' : D → D → Option Bool} {r r' : R2} (ho : OpR X (compareOp op) r) (ho' : OpR X (compareOp op') r') (hs : SemR X.K (fun x y => (sem x y).map .bl) r) (hs' : SemR X.K (fun x y => (sem' x y).map .bl) r')
    (ha : PE X a (tE X p fa)) (hb : PE X b (tE X p fb)) (hc : PE X c (tE X p fc)) (hm : lastMarks [op, op'] [b, c] = false) : PT X (.Compare a [op, op'] [b, c] pos) (tT X p (chainF sem sem' fa fb fc)) :=
  PT.less (pt_chain ho ho' ha hb hc hm) fun σ H Q h => chain_read hs hs' (tB_of h)
end
end Cw
/-! 5. Rules that the hand layer lacks: a tuple (a text) times any small number; a tuple read backwards; max with a default. -/
namespace Cw
open PySem PySem.Spec PyProof.Rows L2
theorem tuple_mul1 (l : Addr) (items : Array Value) (n : Nat) (dd : Option Addr) (sl : Array (Option Value)) (x : Int) (u : Tok) (c0 : (decide (x < -(2 ^ 63)) || decide (x ≥ 2 ^ 63)) = false) (c1 : (items.isEmpty || x == 1) = true) :
    Meets (Builtin.«tuple.__mul__» ⟨[.ref l, .int x u], []⟩) (fun _ R s => s.heap.get? l = some { cls := .type "tuple", dict := dd, data := .seq items n, slots := sl } ∧
      R (.ok (.ret (Value.ref l))) s) :=
  .of_wp fun prog w A R s h => by
    obtain ⟨hp, g, d, tk, os⟩ := s
    obtain ⟨hl, h⟩ := h
    have f1 := AutoSeq1.idx_int
    wp_walk using wpAny_loadPart' hl
    repeat (first
      | (refine wpAny_ite_false (decide_eq_false (by rw [c0]; exact Bool.false_ne_true)) ?_; wp_walk using wpAny_loadPart' hl)
      | (refine wpAny_ite_true (decide_eq_true (by rw [c1])) ?_; wp_walk using wpAny_loadPart' hl))
    exact ⟨_, rfl, h⟩
theorem tuple_mul0 (l : Addr) (items : Array Value) (n : Nat) (dd : Option Addr) (sl : Array (Option Value)) (x : Int) (u : Tok) (c0 : (decide (x < -(2 ^ 63)) || decide (x ≥ 2 ^ 63)) = false) (c1 : (items.isEmpty || x == 1) = false) (c2 : (decide (x ≤ 0) || items.isEmpty) = true) :
    Meets (Builtin.«tuple.__mul__» ⟨[.ref l, .int x u], []⟩) (fun _ R s => s.heap.get? l = some { cls := .type "tuple", dict := dd, data := .seq items n, slots := sl } ∧
      R (.ok (.ret (Value.ref s.heap.objs.size))) { s with heap := s.heap.push { cls := Value.type "tuple", data := Data.seq #[] }, toks := s.toks }) :=
  .of_wp fun prog w A R s h => by
    obtain ⟨hp, g, d, tk, os⟩ := s
    obtain ⟨hl, h⟩ := h
    have f1 := AutoSeq1.idx_int
    wp_walk using wpAny_loadPart' hl
    repeat (first
      | (refine wpAny_ite_false (decide_eq_false (by rw [c0]; exact Bool.false_ne_true)) ?_; wp_walk using wpAny_loadPart' hl)
      | (refine wpAny_ite_false (decide_eq_false (by rw [c1]; exact Bool.false_ne_true)) ?_; wp_walk using wpAny_loadPart' hl)
      | (refine wpAny_ite_true (decide_eq_true (by rw [c2])) ?_; wp_walk using wpAny_loadPart' hl))
    exact ⟨_, rfl, h⟩
section
variable {X : Cx}
def rRepTA (K : Fg) : R2 := fun x y H Q => ∃ l k xs, x = .ref l ∧ y = .int k ∧ SqT K H l xs ∧ -1000 ≤ k ∧ k ≤ 1000 ∧ xs.length ≤ 1000 ∧ (xs = [] ∨ k = 1 → Q (.ref l) H) ∧ (xs ≠ [] → k ≠ 1 → ∀ p, H p = none → Q (.ref p) (upd H p (.tup (List.replicate k.toNat xs).flatten)))
theorem op_repTA : OpR X (binaryOp .Mult) (rRepTA X.K) := by
  intro pins s σ H x y v u Q I rx ry h
  obtain ⟨l, k, xs, rfl, rfl, hT, h1, h2, hz, q1, q2⟩ := h
  by_cases hbig : xs ≠ [] ∧ 2 ≤ k
  · exact op_repT pins s σ H _ _ v u Q I rx ry ⟨l, k, xs, rfl, rfl, hT, hbig.1, hbig.2, h2, hz, q2 hbig.1 (by omega)⟩
  cases rx
  obtain ⟨t, rfl⟩ := ry
  obtain ⟨its, r, ⟨⟨cls, dd, data, sl⟩, ho, hc, n, hd⟩, hs⟩ := I.tuple hT
  simp only at hc hd
  subst hc hd
  have c0 : (decide (k < -(2 ^ 63)) || decide (k ≥ 2 ^ 63)) = false := by
    rw [decide_eq_false (by omega), decide_eq_false (by omega)] <;> rfl
  by_cases hc1 : (its.toArray.isEmpty || k == 1) = true
  · refine wpAny_binaryOp_repeat_ref (T := "tuple") (U := "int") (by decide) ⟨_, ho, rfl⟩ (fun s' => typeIs_int s' k t) noFill_tuple_mul F.fills_int_mul F.slot_int_rmul repeat_tuple F.slot_int_index.lookup
      (call_meets F.slot_int_rmul (typeIs_int s k t) F.entry_int_rmul (F.args_int_rmul_2 _ _) (int_rmul_tuple k t l its.toArray n dd sl)
        ⟨ho, rfl, ⟨_, ho, rfl⟩, call_meets F.slot_tuple_mul ⟨_, ho, rfl⟩ F.entry_tuple_mul (F.args_tuple_mul_2 _ _) (tuple_mul1 l its.toArray n dd sl k t c0 hc1) ⟨ho, ?_⟩⟩)
    refine ⟨.ref l, H, I, rfl, q1 ?_⟩
    rcases Bool.or_eq_true_iff.mp hc1 with z | z
    · left
      cases its with
      | nil => exact List.length_eq_zero_iff.mp r.length
      | cons a b => simp at z
    · right; simpa using z
  · have hc1' : (its.toArray.isEmpty || k == 1) = false := by simpa using hc1
    have hne : xs ≠ [] := fun z => by
      subst z
      cases r
      simp at hc1'
    have hk1 : k ≠ 1 := fun z => by subst z; simp at hc1'
    have hk : k ≤ 0 := by
      rcases Int.lt_or_le k 2 with z | z
      · omega
      · exact absurd ⟨hne, z⟩ hbig
    have c2 : (decide (k ≤ 0) || its.toArray.isEmpty) = true := by rw [decide_eq_true hk]; rfl
    refine wpAny_binaryOp_repeat_ref (T := "tuple") (U := "int") (by decide) ⟨_, ho, rfl⟩ (fun s' => typeIs_int s' k t) noFill_tuple_mul F.fills_int_mul F.slot_int_rmul repeat_tuple F.slot_int_index.lookup
      (call_meets F.slot_int_rmul (typeIs_int s k t) F.entry_int_rmul (F.args_int_rmul_2 _ _) (int_rmul_tuple k t l its.toArray n dd sl)
        ⟨ho, rfl, ⟨_, ho, rfl⟩, call_meets F.slot_tuple_mul ⟨_, ho, rfl⟩ F.entry_tuple_mul (F.args_tuple_mul_2 _ _) (tuple_mul0 l its.toArray n dd sl k t c0 hc1' c2) ⟨ho, ?_⟩⟩)
    have e0 : (List.replicate k.toNat xs).flatten = [] := by
      have : k.toNat = 0 := by omega
      rw [this]; rfl
    have q := q2 hne hk1 s.heap.objs.size (I.hok.fresh (Nat.le_refl _))
    rw [e0] at q
    refine ⟨.ref s.heap.objs.size, _, I.laid (t' := s.toks) (o := .tup []) (fun b ob q => Heap.get?_push_of_some _ q) (Nat.le_refl _) ?_, rfl, q⟩
    exact ⟨Nat.zero_le _, [], .nil, IsTup.new _ _⟩
/-- a text times 0 or 1 -/
def rRepS : R2 := fun x y H Q => ∃ z k, x = .str z ∧ y = .int k ∧ ((k = 0 ∧ Q (.str Str.empty) H) ∨ (k = 1 ∧ Q (.str z) H))
theorem op_repS : OpR X (binaryOp .Mult) rRepS := by
  intro pins s σ H x y v u Q I rx ry h
  obtain ⟨z, k, rfl, rfl, h⟩ := h
  obtain ⟨t, rfl⟩ := rx
  obtain ⟨t', rfl⟩ := ry
  rcases h with ⟨rfl, q⟩ | ⟨rfl, q⟩
  · exact PySem.P.mul_str_none (by decide) (by decide) ⟨.str Str.empty, H, I.tok _, ⟨_, rfl⟩, q⟩
  · refine PySem.P.mul_str (by decide) (fun _ e => by simp at e) (fun _ e => by simp at e) ?_
    rw [if_neg (by decide), if_pos (by simp)]
    exact ⟨.str z, H, I, ⟨t, rfl⟩, q⟩
/-! ### a tuple from its end -/
theorem sliceApplied_back {prog : Program} {w : World} {A : Around} {E : Value → Shared → Prop} {s : Shared} {sl : Addr} {t : Tok} {n : Nat} {Q : Int × Int × Nat → Shared → Prop} (hs : s.heap.IsSliceOf sl .none .none (.int (-1) t))
    (h : Q (((n : Nat) : Int) - 1, -1, n) s) : wpAny (model prog w) A (Builtin.Slice.sliceApplied (.ref sl) (pure (n : Int))) Q E s := by
  obtain ⟨os, hos, hcs, hds⟩ := id hs
  unfold Builtin.Slice.sliceApplied Builtin.Slice.sliceFields
  refine wpAny_bind (wpAny_bind (wpAny_field hos hds (x := .none) rfl (wpAny_bind (wpAny_field hos hds (x := .none) rfl (wpAny_bind (wpAny_field hos hds (x := .int (-1) t) rfl (wpAny_pure ?_)))))))
  refine wpAny_bind (HT.slicePart_ (.int (-1) t) ?_)
  show wpAny _ _ (if ((-1 : Int) == 0) = true then _ else _) _ _ s
  rw [if_neg (by decide)]
  refine wpAny_bind (HT.slicePart_ .none (wpAny_bind (HT.slicePart_ .none (wpAny_bind (wpAny_pure ?_)))))
  have e1 : Builtin.Slice.slicePlaces ((n : Int) - 1) (-1) (-1) = n := by
    unfold Builtin.Slice.slicePlaces
    rw [if_neg (by decide)]
    by_cases hn : n = 0
    · subst hn; rfl
    · rw [if_pos (by omega)]
      have : ((n : Int) - 1 - -1 - 1) / (- (-1)) + 1 = n := by
        rw [show (- (-1) : Int) = 1 from rfl, Int.ediv_one]; omega
      rw [this]; rfl
  show wpAny _ _ (pure ((n : Int) - 1, (-1 : Int), Builtin.Slice.slicePlaces ((n : Int) - 1) (-1) (-1))) _ _ s
  rw [e1]
  exact wpAny_pure h
theorem filterMap_some {A B : Type} {f : A → Option B} {g : A → B} : ∀ {l : List A}, (∀ m ∈ l, f m = some (g m)) → l.filterMap f = l.map g
  | [], _ => rfl
  | a :: l, h => by rw [List.filterMap_cons, h a List.mem_cons_self, filterMap_some fun m hm => h m (List.mem_cons_of_mem _ hm)]; rfl
theorem pick_back (its : List Value) : ((List.range its.length).filterMap fun (m : Nat) => its.toArray[(((its.length : Nat) : Int) - 1 + (m : Int) * (-1)).toNat]?).toArray = its.reverse.toArray := by
  congr 1
  apply List.ext_getElem?
  intro i
  have e : (List.range its.length).filterMap (fun (m : Nat) => its.toArray[(((its.length : Nat) : Int) - 1 + (m : Int) * (-1)).toNat]?) = (List.range its.length).map fun m => its.getD (its.length - 1 - m) .none := by
    apply filterMap_some
    intro m hm
    have hm : m < its.length := List.mem_range.mp hm
    have e2 : (((its.length : Nat) : Int) - 1 + (m : Int) * (-1)).toNat = its.length - 1 - m := by omega
    rw [e2]
    have hlt : its.length - 1 - m < its.length := by omega
    simp [List.getD, hlt]
  rw [e]
  by_cases hi : i < its.length
  · have h2 : its.length - 1 - i < its.length := by omega
    rw [List.getElem?_map, List.getElem?_range hi, List.getElem?_reverse hi]
    simp [List.getD, h2]
  · rw [List.getElem?_eq_none (by simpa using hi), List.getElem?_eq_none (by simpa using hi)]
theorem getItem_tuple_back {prog : Program} {w : World} {A : Around} {E : Value → Shared → Prop} {s : Shared} {t sl : Addr} {its : List Value} {tk : Tok} {Q : Value → Shared → Prop} (ht : IsTup s.heap t its.toArray) (hs : s.heap.IsSliceOf sl .none .none (.int (-1) tk))
    (h : Q (.ref s.heap.objs.size) { s with heap := s.heap.push { cls := .type "tuple", data := .seq its.reverse.toArray } })
    (hsz : its.length ≤ sizeLine) : wpAny (model prog w) A (getItem (.ref t) (.ref sl)) Q E s := by
  have htake : sizeOk (.seq its.reverse.toArray) := by
    show its.reverse.toArray.size ≤ sizeLine
    rw [List.size_toArray, List.length_reverse]; exact hsz
  obtain ⟨os, hos, hcs, hds⟩ := id hs
  have hTs : s.TypeIs (.ref sl) "slice" := ⟨os, hos, hcs⟩
  unfold getItem
  try with_reducible refine wpAny_holding ?_
  first | refine wpAny_bind (wpAny_pure ?_) | skip
  refine wpAny_bind (wpAny_sequenceKey ht.typeIs (by decide) ?_)
  refine wpAny_bind (wpAny_callSpecial?_slot (name := Str.ofString "__getitem__") ht.typeIs PyProof.Rows.slot_tuple_getitem
    (wpAny_call_entry PyProof.Rows.slot_tuple_getitem ht.typeIs entry_tuple_getitem ?_ (args_tuple_getitem _ _)))
  show wpAny _ _ (Builtin.Tuple.tupleItemsOf (.ref t) >>= _) _ _ s
  refine wpAny_bind (tupleItemsOf_ ht ?_)
  refine wpAny_bind (wpAny_typeOf hTs ?_)
  rw [if_pos (by decide)]
  have hsize : its.toArray.size = its.length := List.size_toArray
  rw [hsize]
  refine wpAny_bind (sliceApplied_back hs ?_)
  have hno : ¬ ((((its.length : Nat) : Int) - 1 == 0 && (-1 : Int) == 1 && its.length == its.length) = true) := by
    intro q
    rw [Bool.and_eq_true, Bool.and_eq_true] at q
    exact absurd q.1.2 (by decide)
  show wpAny _ _ (if ((((its.length : Nat) : Int) - 1 == 0 && (-1 : Int) == 1 && its.length == its.length)) = true then _ else _) _ _ s
  rw [if_neg hno, pick_back]
  first
    | exact wpAny_bind (m := Builtin.Tuple.tupleExact _) (wpAny_newObj_type (wpAny_pure ⟨_, rfl, wpAny_pure h⟩) htake)
    | exact wpAny_bind (m := Builtin.Tuple.tupleExact _) (wpAny_newObj_type (wpAny_bind (wpAny_pure (wpAny_pure ⟨_, rfl, wpAny_pure h⟩))) htake)
    | exact wpAny_bind (wpAny_bind (m := Builtin.Tuple.tupleExact _) (wpAny_newObj_type (wpAny_pure (wpAny_pure ⟨_, rfl, wpAny_pure h⟩)) htake))
    | exact wpAny_bind (wpAny_bind (m := Builtin.Tuple.tupleExact _) (wpAny_newObj_type (wpAny_pure ⟨_, rfl, wpAny_pure h⟩) htake))
/-- x[::-1] of a list or a tuple -/
def tRevA (K : Fg) (te : TE) : TE := fun σ H Q => te σ H fun x H1 => ∃ a xs, x = .ref a ∧ ((SqL K H1 a xs ∧ ∀ p, H1 p = none → Q (.ref p) (upd H1 p (.lst xs.reverse))) ∨ (SqT K H1 a xs ∧ ∀ p, H1 p = none → Q (.ref p) (upd H1 p (.tup xs.reverse))))
theorem pe_revA {e : Expr} {te : TE} {k : Nat} {p1 p2 p3 pos : Pos} (he : PE X e te) : PE X (.Subscript e (.Slice none none (some (.UnaryOp .USub (.Constant (.int 1) k p1) p2)) p3) pos) (tRevA X.K te) := by
  refine ⟨fun pins s σ H Q I h => ?_⟩
  refine Subscript_ (thn (he.run pins s σ H _ I h) fun v s1 ⟨x, H1, I1, r1, q1⟩ => ?_)
  obtain ⟨a, xs, ex, hq⟩ := q1
  subst ex
  cases r1
  have hst : PO X (some (.UnaryOp .USub (.Constant (.int 1) k p1) p2)) (tPart (tUn (rU fun i => .int (-i)) (tC (.int 1)))) := po_some (pe_un un_neg pe_int)
  refine wpAny_Slice (thn (po_none.run pins s1 σ H1 (fun o H2 => o = none ∧ H2 = H1) I1 ⟨rfl, rfl⟩) fun vl s2 ⟨l, H2, I2, pl, el, e2⟩ => ?_)
  subst el e2
  refine thn (po_none.run pins s2 σ H2 (fun o H3 => o = none ∧ H3 = H2) I2 ⟨rfl, rfl⟩) fun vu s3 ⟨u, H3, I3, pu, eu, e3⟩ => ?_
  subst eu e3
  refine thn (hst.run pins s3 σ H3 (fun o H4 => o = some (-1) ∧ H4 = H3) I3 ⟨1, rfl, -1, rfl, rfl, rfl⟩) fun vs s4 ⟨o, H4, I4, ps, eo, e4⟩ => ?_
  subst eo e4
  have I5 : Inv X pins σ H4 { s4 with heap := s4.heap.push { cls := .type "slice", data := .fields #[vl, vu, vs] } } := I4.kept (t' := s4.toks) fun b ob q => Heap.get?_push_of_some _ q
  rcases hq with ⟨hx, q⟩ | ⟨hx, q⟩
  · obtain ⟨its, r, ht, hz⟩ := I5.list hx
    have hlen := r.length
    show wpAny (model X.prog X.w) X.A (subscriptTail e (.Slice none none (some (.UnaryOp .USub (.Constant (.int 1) k p1) p2)) p3) (.ref a) (.ref s4.heap.objs.size)) (EP X pins σ Q) X.xe { s4 with heap := s4.heap.push { cls := .type "slice", data := .fields #[vl, vu, vs] } }
    refine tail_any (ops := [.ref a, .ref s4.heap.objs.size]) ht.isList.typeIs (PySem.slot_list_getitem.lookup) ?_ (by with_unfolding_all rfl)
    refine wpAny_getItem_list_slice ht.isList (Heap.IsSliceOf.new _ vl vu vs) pl pu ps (by decide) ?_ (by rw [List.size_toArray]; omega)
    rw [PySem.W.krv_pick]
    refine ⟨.ref _, _, I5.laid (t' := s4.toks) (o := .lst xs.reverse) (fun b ob q => Heap.get?_push_of_some _ q) (Nat.le_refl _) ?_, rfl, q _ (I5.hok.fresh (Nat.le_refl _))⟩
    exact ⟨by rw [List.length_reverse]; exact hz, _, 0, r.reverse, Heap.get?_push_size _ rfl⟩
  · obtain ⟨its, r, ht, hz⟩ := I5.tuple hx
    have hlen := r.length
    show wpAny (model X.prog X.w) X.A (subscriptTail e (.Slice none none (some (.UnaryOp .USub (.Constant (.int 1) k p1) p2)) p3) (.ref a) (.ref s4.heap.objs.size)) (EP X pins σ Q) X.xe { s4 with heap := s4.heap.push { cls := .type "slice", data := .fields #[vl, vu, vs] } }
    refine tail_any (ops := [.ref a, .ref s4.heap.objs.size]) ht.typeIs (PyProof.Rows.slot_tuple_getitem.lookup) ?_ (by with_unfolding_all rfl)
    cases pl
    cases pu
    cases ps
    refine getItem_tuple_back ht (Heap.IsSliceOf.new _ _ _ _) ?_ (by rw [← hlen]; exact hz)
    refine ⟨.ref _, _, I5.laid (t' := s4.toks) (o := .tup xs.reverse) (fun b ob q => Heap.get?_push_of_some _ q) (Nat.le_refl _) ?_, rfl, q _ (I5.hok.fresh (Nat.le_refl _))⟩
    exact ⟨by rw [List.length_reverse]; exact hz, _, r.reverse, IsTup.new _ _⟩
/-! ### max(xs, default=d) -/
theorem reads_ints {h : Heap} : ∀ {ns : List Int} {us : List Value}, Vals (ns.map V.int) us → PySem.W.HoldAll h us ns
  | [], _, r => by cases r; exact ⟨_, ReadsAll.nil⟩
  | n :: ns, _, r => by
    cases r with
    | cons r rr =>
      obtain ⟨t, rfl⟩ := r
      obtain ⟨as, q⟩ := reads_ints rr
      exact ⟨_, ReadsAll.cons (Reads.int n t) q⟩
theorem maxOf_eq : ∀ (x : Int) (xs : List Int), PySem.W.maxOf x xs = maxs x xs
  | x, [] => rfl
  | x, y :: ys => by
    rw [maxs, ← maxOf_eq]
    unfold PySem.W.maxOf
    rw [List.foldl_cons]
    congr 1
    show (if decide (x < y) = true then y else x) = _
    by_cases h : x < y
    · rw [if_pos (decide_eq_true h), if_pos h]
    · rw [if_neg (by simpa using h), if_neg h]
def rMaxD (K : Fg) : List V → List V → Hp → VK → Prop := fun vs zs H Q => ∃ (a : Addr) (ns : List Int) (d : V), vs = [.ref a] ∧ zs = [d] ∧ SqL K H a (ns.map V.int) ∧ Q (match ns with
  | [] => d
  | n :: r => .int (maxs n r)) H
theorem cr_maxD (hc : X.calm = true) (hu : X.A.units + 64 < cLine) : CallRK X (.builtin "max") [Str.ofString "default"] (rMaxD X.K) := by
  intro pins s σ H vs zs us ws Q I r rz h
  obtain ⟨a, ns, d, rfl, rfl, hs, q⟩ := h
  obtain ⟨u, rfl, ru⟩ := vals1 r
  obtain ⟨w', rfl, rw'⟩ := vals1 rz
  cases ru
  obtain ⟨its, rv, hl, hz⟩ := I.list hs
  refine PySem.W.max_list_datum_default (I.ok.hd hc) hl.isList (by simpa using reads_ints rv) (by show X.A.units + 1 + 0 < cLine; omega) (fun e h' tk k => ?_) fun y ys i v h' tk e hi hh k => ?_
  · subst e
    exact ⟨d, H, I.kept k, rw', q⟩
  · subst e
    obtain ⟨as, hr⟩ := hh
    refine ⟨.int (maxs y ys), H, I.kept k, ?_, q⟩
    rw [maxOf_eq] at hr
    cases hr
    exact ⟨_, rfl⟩
end
end Cw
/-! 6. What is walked: lists, tuples (in any mix), texts, ranges of any size. -/
namespace Cw
open PySem PySem.Spec PyProof.Rows L2
/-- a tuple (true) or a list (false) -/
def SqB (b : Bool) (K : Fg) (H : Hp) (a : Addr) (xs : List V) : Prop := if b = true then SqT K H a xs else SqL K H a xs
def ItB (b : Bool) (h : Heap) (it a : Addr) (i : Nat) : Prop := if b = true then h.IsTupleIter it a i else h.IsListIter it a i
def OfB (b : Bool) (h : Heap) (a : Addr) (items : Array Value) : Prop := if b = true then h.IsTuple a items else h.IsList a items
def objB (b : Bool) (a : Addr) : Obj := if b = true then { cls := .type "tuple_iterator", data := .fields #[.ref a, .int 0 0] } else { cls := .type "list_iterator", data := .fields #[.ref a, .int 0 0] }
theorem ItB.rec_ {b : Bool} {h : Heap} {it a : Addr} {i : Nat} (x : ItB b h it a i) : ∃ o, h.get? it = some o ∧ ∀ v, o.data ≠ .cell v := by
  cases b with
  | true => obtain ⟨o, e, _, d⟩ := (show h.IsTupleIter it a i from x); exact ⟨o, e, fun v z => by rw [d] at z; cases z⟩
  | false => obtain ⟨o, e, _, d⟩ := (show h.IsListIter it a i from x); exact ⟨o, e, fun v z => by rw [d] at z; cases z⟩
theorem ItB.at {b : Bool} {h h' : Heap} {it a : Addr} {i : Nat} (x : ItB b h it a i) (k : ∀ o, h.get? it = some o → h'.get? it = some o) : ItB b h' it a i := by
  cases b with
  | true => exact Heap.IsTupleIter.at (show h.IsTupleIter it a i from x) k
  | false => exact Heap.IsListIter.at (show h.IsListIter it a i from x) k
section
variable {X : Cx} {pins : List (Addr × Obj)} {σ : L2.St} {H : Hp} {s : Shared} {a : Addr} {xs ys : List V} {b : Bool}
theorem Inv.sq (I : Inv X pins σ H s) (h : SqB b X.K H a xs) : ∃ its : List Value, Vals xs its ∧ OfB b s.heap a its.toArray ∧ xs.length ≤ sizeLine ∧ a < s.heap.objs.size := by
  cases b with
  | true =>
    obtain ⟨its, r, p, z⟩ := I.tuple (show SqT X.K H a xs from h)
    obtain ⟨o, ho, _⟩ := id p
    exact ⟨its, r, (show s.heap.IsTuple a its.toArray from p), z, Heap.lt_size ho⟩
  | false =>
    obtain ⟨its, r, p, z⟩ := I.list (show SqL X.K H a xs from h)
    exact ⟨its, r, (show s.heap.IsList a its.toArray from p.isList), z, p.lt⟩
theorem Inv.sq_inj (I : Inv X pins σ H s) (h : SqB b X.K H a xs) (h' : SqB b X.K H a ys) : xs = ys := by
  cases b with
  | true => exact I.tuple_inj (show SqT X.K H a xs from h) h'
  | false => exact I.list_inj (show SqL X.K H a xs from h) h'
end
theorem begins_B (b : Bool) (a : Addr) (items : Array Value) : Begins (.ref a) (objB b a) fun h => OfB b h a items := by
  cases b with
  | true => exact begins_tuple a items
  | false => exact begins_list a items
theorem itB_new {b : Bool} {h : Heap} {it a : Addr} (e : h.get? it = some (objB b a)) : ItB b h it a 0 := by
  cases b with
  | true => exact ⟨_, e, rfl, rfl⟩
  | false => exact ⟨_, e, rfl, rfl⟩
theorem draws_B {prog : Program} {w : World} {A : Around} (hh : A.handled = none) (b : Bool) (it a : Addr) (hne : a ≠ it) (items : Array Value) :
    Draws prog w A it [it, a] items.size (fun i v => items[i]? = some v) (fun i h => ItB b h it a i ∧ OfB b h a items) := by
  cases b with
  | true => exact Draws.tuple hh it a hne items
  | false => exact Draws.list hh it a hne items
/-! ### zip -/
def ItzG (K : Fg) (b1 b2 : Bool) (a c : Addr) : It :=
  ⟨fun i H => ∃ (xs ys : List V) (x y : V), SqB b1 K H a xs ∧ SqB b2 K H c ys ∧ xs[i]? = some x ∧ ys[i]? = some y,
    fun i H v H' => ∃ T x y, v = .ref T ∧ H T = none ∧ H' = upd H T (.tup [x, y]) ∧ (∀ xs, SqB b1 K H a xs → xs[i]? = some x) ∧ ∀ ys, SqB b2 K H c ys → ys[i]? = some y,
    fun i H => ∃ xs ys : List V, SqB b1 K H a xs ∧ SqB b2 K H c ys ∧ i ≤ xs.length ∧ i ≤ ys.length ∧ (i = xs.length ∨ i = ys.length)⟩
theorem sep_of {z TI TO i1 i2 a c : Addr} (D : ZipApart z TI TO i1 i2 a c) : ZipSep2 z TI TO i1 i2 [i1, a] [i2, c] where
  TIz := D.TIz
  TOz := D.TOz
  TITO := D.TITO
  TIi1 := D.TIi1
  mem1 := by simp
  zf1 := by
    intro h
    have h' : z = i1 ∨ z = a := by simpa using h
    rcases h' with q | q
    · exact D.i1z q.symm
    · exact D.l1z q.symm
  Tf1 := by
    intro h
    have h' : TO = i1 ∨ TO = a := by simpa using h
    rcases h' with q | q
    · exact D.TOi1 q
    · exact D.l1TO q.symm
  TIi2 := D.TIi2
  mem2 := by simp
  zf2 := by
    intro h
    have h' : z = i2 ∨ z = c := by simpa using h
    rcases h' with q | q
    · exact D.i2z q.symm
    · exact D.l2z q.symm
  Tf2 := by
    intro h
    have h' : TO = i2 ∨ TO = c := by simpa using h
    rcases h' with q | q
    · exact D.TOi2 q
    · exact D.l2TO q.symm
  sep1_2 := by
    intro h
    have h' : i1 = i2 ∨ i1 = c := by simpa using h
    rcases h' with q | q
    · exact D.i12 q
    · exact D.l2i1 q.symm
  sep2_1 := by
    intro h
    have h' : i2 = i1 ∨ i2 = a := by simpa using h
    rcases h' with q | q
    · exact D.i12 q.symm
    · exact D.l1i2 q.symm
theorem turn_zipG {P : Program} {w : World} {K : Fg} {elts : List Expr} {kk : Nat} {tpos : Pos} {b1 b2 : Bool} {a b z TI TO i1 i2 : Addr} (D : ZipApart z TI TO i1 i2 a b) :
    Turn P w K (.Tuple elts kk tpos) (ItzG K b1 b2 a b) [z, TI, TO, i1, i2] z (fun i h => IsZip h z TI TO .none ∧ IsPair h TI (.ref i1) (.ref i2) ∧ (∃ x y, IsPair h TO x y) ∧ ItB b1 h i1 a i ∧ ItB b2 h i2 b i) where
  mem := by simp
  obj := fun i h st c hc => by
    obtain ⟨hz, hTI, ⟨x, y, hTO⟩, h1, h2⟩ := st
    have e' : c = z ∨ c = TI ∨ c = TO ∨ c = i1 ∨ c = i2 := by simpa using hc
    rcases e' with q | q | q | q | q
    · rw [q]; exact ⟨_, hz, fun v q => nomatch q⟩
    · rw [q]; exact ⟨_, hTI, fun v q => nomatch q⟩
    · rw [q]; exact ⟨_, hTO, fun v q => nomatch q⟩
    · rw [q]; exact h1.rec_
    · rw [q]; exact h2.rec_
  keep := fun i h h' st k => by
    obtain ⟨hz, hTI, ⟨x, y, hTO⟩, h1, h2⟩ := st
    exact ⟨k z (by simp) _ hz, k TI (by simp) _ hTI, ⟨x, y, k TO (by simp) _ hTO⟩, h1.at fun o q => k i1 (by simp) o q, h2.at fun o q => k i2 (by simp) o q⟩
  item := by
    intro X hP hw hK hc i pins s σ H E I hf st hg
    subst hP hw hK
    obtain ⟨hz, hTI, ⟨x0, y0, hTO⟩, h1, h2⟩ := st
    obtain ⟨xs, ys, x, y, hqx, hqy, hx, hy⟩ := hg
    obtain ⟨its, rv, p, _⟩ := Inv.sq I hqx
    obtain ⟨its2, rv2, p2, _⟩ := Inv.sq I hqy
    obtain ⟨u, hu, ru⟩ := rv.get hx
    obtain ⟨u2, hu2, ru2⟩ := rv2.get hy
    have hzl : z < s.heap.objs.size := Heap.lt_size hz
    have S := sep_of D
    refine wpAny_pyNext_zipD2_item S (draws_B (A := X.A.in1) (show X.A.in1.handled = none from I.ok.hd hc) b1 i1 a D.l1i1 its.toArray) (draws_B (A := X.A.in1) (show X.A.in1.handled = none from I.ok.hd hc) b2 i2 b D.l2i2 its2.toArray) hz hTI hTO ⟨h1, p⟩ ⟨h2, p2⟩ (by
        have := (List.getElem?_eq_some_iff.mp hu).1
        simpa using this) (by
        have := (List.getElem?_eq_some_iff.mp hu2).1
        simpa using this) fun x1 x2 h' tk e1 e2 z' TO' st1 st2 hT hsz hk => ?_
    have e1 : u = x1 := Option.some.inj (hu.symm.trans (by simpa using e1))
    have e2 : u2 = x2 := Option.some.inj (hu2.symm.trans (by simpa using e2))
    subst e1 e2
    refine ⟨_, rfl, wpAny_letOwnedTupleGo_zip (s := { s with heap := h', toks := tk }) z' fun h'' z'' sb => ?_⟩
    have hT2 : h''.get? s.heap.objs.size = some { cls := .type "tuple", data := .seq #[u, u2] } := (sb.2 _ (Nat.ne_of_gt hzl)).trans hT
    have new : ObjOk X.prog X.w (upd H s.heap.objs.size (.tup [x, y])) h'' s.heap.objs.size (.tup [x, y]) :=
      ⟨by show 2 ≤ sizeLine; decide, [u, u2], .cons ru (.cons ru2 .nil), ⟨_, hT2, rfl, _, rfl⟩⟩
    have I1 : Inv X pins σ (upd H s.heap.objs.size (.tup [x, y])) { s with heap := h'', toks := tk } :=
      I.turnedNew (t' := tk) (ch := [z, TI, TO, i1, i2]) (fun c o hb q => (sb.2 c (fun q' => hb (by simp [q']))).trans (hk c o (fun q' => hb (by simp [q'])) (fun q' => hb (by simp [q'])) (fun q' => hb (by simp [q'])) (fun q' => hb (by simp [q'])) q)) hf (Nat.le_refl _) new
    refine ⟨.ref s.heap.objs.size, _, I1, rfl, ⟨_, x, y, rfl, I.hok.fresh (Nat.le_refl _), rfl, fun l hl => by rw [Inv.sq_inj I hl hqx]; exact hx, fun l hl => by rw [Inv.sq_inj I hl hqy]; exact hy⟩, ⟨z'', ?_, ⟨u, u2, ?_⟩, ?_, ?_⟩, fun c hcm => ?_⟩
    · exact (sb.2 _ D.TIz).trans (hk _ _ D.TIz D.TITO D.TIi1 D.TIi2 hTI)
    · exact (sb.2 _ D.TOz).trans TO'
    · exact st1.1.at fun o q => (sb.2 _ D.i1z).trans q
    · exact st2.1.at fun o q => (sb.2 _ D.i2z).trans q
    · have hlt : c < s.heap.objs.size := by
        have e' : c = z ∨ c = TI ∨ c = TO ∨ c = i1 ∨ c = i2 := by simpa using hcm
        rcases e' with q | q | q | q | q
        · rw [q]; exact hzl
        · rw [q]; exact Heap.lt_size hTI
        · rw [q]; exact Heap.lt_size hTO
        · rw [q]; obtain ⟨_, e1, _⟩ := h1.rec_; exact Heap.lt_size e1
        · rw [q]; obtain ⟨_, e2, _⟩ := h2.rec_; exact Heap.lt_size e2
      rw [upd_ne (Nat.ne_of_lt hlt)]
      exact (hf c hcm).1
  done := by
    intro X hP hw hK hc i pins s σ H E I hf st hg
    subst hP hw hK
    obtain ⟨hz, hTI, ⟨x0, y0, hTO⟩, h1, h2⟩ := st
    obtain ⟨xs, ys, hqx, hqy, q1, q2, hend⟩ := hg
    obtain ⟨its, rv, p, _⟩ := Inv.sq I hqx
    obtain ⟨its2, rv2, p2, _⟩ := Inv.sq I hqy
    have l1 := rv.length
    have l2 := rv2.length
    exact wpAny_pyNext_zipD2_end (sep_of D) (draws_B (A := X.A.in1) (show X.A.in1.handled = none from I.ok.hd hc) b1 i1 a D.l1i1 its.toArray) (draws_B (A := X.A.in1) (show X.A.in1.handled = none from I.ok.hd hc) b2 i2 b D.l2i2 its2.toArray) hz hTI hTO ⟨h1, p⟩ ⟨h2, p2⟩ (by simp; omega) (by simp; omega) (by simp; omega)
      fun h' tk hk => ⟨rfl, I.turnedL (t' := tk) (ch := [z, TI, TO, i1, i2]) (fun c o hb q =>
        hk c o (fun q' => hb (by simp [q'])) (fun q' => hb (by simp [q'])) (fun q' => hb (by simp [q'])) (fun q' => hb (by simp [q'])) q) hf⟩
  self := fun A i s Q E st h => wpAny_pyIter_zip st.1 h
def iZipG (K : Fg) (ta : TA) : TI := fun σ H R => ta σ H fun vs H1 => ∃ b1 b2 a b xs ys, vs = [.ref a, .ref b] ∧ SqB b1 K H1 a xs ∧ SqB b2 K H1 b ys ∧ R (ItzG K b1 b2 a b) H1
theorem pi_zipG {X : Cx} {e e2 : Expr} {ta : TA} {p pos tpos : Pos} {elts : List Expr} {kk : Nat} (hg : Gl X "zip") (hm : X.mg "zip" = none) (ha : PA X [e, e2] ta)
    (hs : starEach [e, e2] X.env = (false, eval e X.env) :: starEach [e2] X.env) (hpl : (backTo pos (starEach [e2] X.env)).any (·.1) = false) :
    PI X (.Tuple elts kk tpos) (.Call (.Name "zip" p) [e, e2] [] pos) (iZipG X.K ta) := by
  refine ⟨fun pins s σ H R I h => ?_⟩
  refine Call_ (ld_blt I hg hm PyProof.Rows.boot_zip (PyProof.Rows.callWith_type1 (thn (ha.run pos pins s σ H _ I h) fun us s1 ⟨vs, H1, I1, r1, q1⟩ => ?_) hs hpl))
  obtain ⟨b1, b2, a, b, xs, ys, ex, hqx, hqy, q⟩ := q1
  subst ex
  cases r1 with
  | cons r rr =>
    cases rr with
    | cons r' rr =>
      cases rr
      cases r
      cases r'
      obtain ⟨its, rv, p1, _, la⟩ := Inv.sq I1 hqx
      obtain ⟨its2, rv2, p2, _, lb⟩ := Inv.sq I1 hqy
      refine zip_begins2 (begins_B b1 a its.toArray) (begins_B b2 b its2.toArray) p1 p2 fun h' hz hTI hTO h1 h2 hsz hk => wpAny_pyIter_zip hz ?_
      have I2 : Inv X pins σ H1 { s1 with heap := h' } := I1.kept (t' := s1.toks) hk
      refine ⟨s1.heap.objs.size + 4, [s1.heap.objs.size + 4, s1.heap.objs.size + 2, s1.heap.objs.size + 3, s1.heap.objs.size, s1.heap.objs.size + 1], _, _, H1, rfl, I2, turn_zipG (PySem.W.ktu_apart s1.heap.objs.size a b la lb), ⟨hz, hTI, ⟨_, _, hTO⟩, itB_new h1, itB_new h2⟩, fun c hcm => ?_, q⟩
      have e' : c = s1.heap.objs.size + 4 ∨ c = s1.heap.objs.size + 2 ∨ c = s1.heap.objs.size + 3 ∨ c = s1.heap.objs.size ∨ c = s1.heap.objs.size + 1 := by simpa using hcm
      have hle : s1.heap.objs.size ≤ c := by
        rcases e' with z | z | z | z | z
        · rw [z]; exact Nat.le_add_right _ _
        · rw [z]; exact Nat.le_add_right _ _
        · rw [z]; exact Nat.le_add_right _ _
        · rw [z]; exact Nat.le_refl _
        · rw [z]; exact Nat.le_add_right _ _
      exact I1.fpOk hle (I1.hok.fresh hle)
/-! ### enumerate -/
theorem meets_enumB {v : Value} {o : Obj} {H : Heap → Prop} (B : Begins v o H) :
    Meets (Builtin.«enumerate.__new__» ⟨[.type "enumerate", v], []⟩) (fun _ R s => H s.heap ∧
      R (.ok (.ret (.ref (s.heap.push o).objs.size))) { s with heap := (s.heap.push o).push { cls := .type "enumerate", data := .fields #[.none, .bool false, .ref s.heap.objs.size, rawInt 0, .none, .none] } }) :=
  .of_wp fun prog w A R s h => by
    obtain ⟨hp, g, d, tk, os⟩ := s; obtain ⟨h1, h⟩ := h
    have hsub := sub_enumerate
    have q1 : ∀ {A' : Around} {E : Value → Shared → Prop} {Q : Value → Shared → Prop}, Q (.ref hp.objs.size) ⟨hp.push o, g, d, tk, os⟩ → wpAny (model prog w) A' (pyIter v) Q E ⟨hp, g, d, tk, os⟩ :=
      fun q => B.iter prog w _ _ ⟨hp, g, d, tk, os⟩ _ h1 q
    wp_walk using q1
    refine wpAny_stack_any fun st => wpAny_pure ?_
    split
    · rename_i c _ _ _ _ _
      cases (c == Value.type "enumerate")
      · wp_walk using q1
        exact ⟨_, rfl, h⟩
      · wp_walk using q1
        exact ⟨_, rfl, h⟩
    · wp_walk using q1
      exact ⟨_, rfl, h⟩
theorem enum_beginsB {prog : Program} {w : World} {A : Around} {E : Value → Shared → Prop} {s : Shared} {v : Value} {o : Obj} {H : Heap → Prop} {Q : Value → Shared → Prop} (B : Begins v o H) (h1 : H s.heap)
    (h : ∀ h', IsEnum h' (s.heap.objs.size + 1) s.heap.objs.size 0 .none → h'.get? s.heap.objs.size = some o → (∀ b o, s.heap.get? b = some o → h'.get? b = some o) → Q (.ref (s.heap.objs.size + 1)) { s with heap := h' }) :
    wpAny (model prog w) A (call (.type "enumerate") [v]) Q E s := by
  refine callType_new F.called_enumerate (by decide) (F.typeCall_enumerate_1 _) (F.newCall_enumerate_1 _) (fun obj => F.args_object_init_2 obj _) F.entry_enumerate_new (meets_enumB B) ⟨h1, ?_⟩
  have hz : (s.heap.push o).objs.size = s.heap.objs.size + 1 := Heap.size_push ..
  show _ ∧ _
  rw [hz]
  have he : IsEnum ((s.heap.push o).push { cls := .type "enumerate", data := .fields #[.none, .bool false, .ref s.heap.objs.size, rawInt 0, .none, .none] }) (s.heap.objs.size + 1) s.heap.objs.size 0 .none := by
    have := Heap.get?_push_size (s.heap.push o) (o := { cls := .type "enumerate", data := .fields #[.none, .bool false, .ref s.heap.objs.size, rawInt 0, .none, .none] }) rfl
    rw [hz] at this; exact this
  exact ⟨⟨_, he, rfl⟩, h _ he (Heap.get?_push_of_some _ (Heap.get?_push_size _ B.free)) fun b o x => Heap.get?_push_of_some _ (Heap.get?_push_of_some _ x)⟩
def IteG (K : Fg) (b : Bool) (a : Addr) : It :=
  ⟨fun i H => ∃ (xs : List V) (x : V), SqB b K H a xs ∧ xs[i]? = some x, fun i H v H' => ∃ T x, v = .ref T ∧ H T = none ∧ H' = upd H T (.tup [.int (i : Nat), x]) ∧ ∀ xs, SqB b K H a xs → xs[i]? = some x, fun i H => ∃ xs : List V, SqB b K H a xs ∧ xs.length = i⟩
theorem turn_enumG {P : Program} {w : World} {K : Fg} {elts : List Expr} {kk : Nat} {tpos : Pos} {b : Bool} (a e it : Addr) (hae : a ≠ e) (hai : a ≠ it) :
    Turn P w K (.Tuple elts kk tpos) (IteG K b a) [e, it] e (fun i h => (∃ old, IsEnum h e it ((i : Nat) : Int) old) ∧ ItB b h it a i ∧ e ≠ it) where
  mem := by simp
  obj := fun i h st b hb => by
    obtain ⟨⟨old, he⟩, hi, _⟩ := st
    have e' : b = e ∨ b = it := by simpa using hb
    rcases e' with z | z
    · rw [z]; exact ⟨_, he, fun v q => nomatch q⟩
    · rw [z]; exact hi.rec_
  keep := fun i h h' st k => let ⟨⟨old, he⟩, hi, hne⟩ := st; ⟨⟨old, k e (by simp) _ he⟩, hi.at fun o q => k it (by simp) o q, hne⟩
  item := by
    intro X hP hw hK hc i pins s σ H E I hf st hg
    subst hP hw hK
    obtain ⟨⟨old, he⟩, hit, hne⟩ := st
    obtain ⟨xs, x, hq, hx⟩ := hg
    obtain ⟨its, rv, p, hz, _⟩ := Inv.sq I hq
    obtain ⟨u, hu, ru⟩ := rv.get hx
    have hel : e < s.heap.objs.size := Heap.lt_size he
    have hil : it < s.heap.objs.size := by obtain ⟨_, q, _⟩ := hit.rec_; exact Heap.lt_size q
    have hef : e ∉ [it, a] := fun z => by
      have z' : e = it ∨ e = a := by simpa using z
      rcases z' with q | q
      · exact hne q
      · exact hae q.symm
    refine wpAny_pyNext_enum_itemC (draws_B (A := X.A.in1) (show X.A.in1.handled = none from I.ok.hd hc) b it a hai its.toArray) he ⟨hit, p⟩ (by
        have := (List.getElem?_eq_some_iff.mp hu).1
        simpa using this) hne hef fun x1 h' tk e1 ho hit' hT hsz hk => ?_
    have e1 : u = x1 := Option.some.inj (hu.symm.trans (by simpa using e1))
    subst e1
    refine ⟨_, rfl, wpAny_letOwnedTupleGo_enum (s := { s with heap := h', toks := tk + 1 }) ho fun h'' he' sb => ?_⟩
    have hT2 : h''.get? s.heap.objs.size = some { cls := .type "tuple", data := .seq #[.int i tk, u] } := (sb.2 _ (Nat.ne_of_gt hel)).trans hT
    have new : ObjOk X.prog X.w (upd H s.heap.objs.size (.tup [.int (i : Nat), x])) h'' s.heap.objs.size (.tup [.int (i : Nat), x]) :=
      ⟨by show 2 ≤ sizeLine; decide, [.int i tk, u], .cons ⟨_, rfl⟩ (.cons ru .nil), ⟨_, hT2, rfl, _, rfl⟩⟩
    have I1 : Inv X pins σ (upd H s.heap.objs.size (.tup [.int (i : Nat), x])) { s with heap := h'', toks := tk + 1 } :=
      I.turnedNew (ch := [e, it]) (fun b ob hb q => (sb.2 b (fun z => hb (by simp [z]))).trans (hk b ob (fun z => hb (by simp [z])) (fun z => hb (by simp [z])) q)) hf (Nat.le_refl _) new
    refine ⟨.ref s.heap.objs.size, _, I1, rfl, ⟨_, x, rfl, I.hok.fresh (Nat.le_refl _), rfl, fun ys hy => by rw [Inv.sq_inj I hy hq]; exact hx⟩, ⟨⟨u, ?_⟩, hit'.1.at fun o q => (sb.2 it (Ne.symm hne)).trans q, hne⟩, fun b hb => ?_⟩
    · have e1 : ((i + 1 : Nat) : Int) = (i : Int) + 1 := by omega
      rw [e1]; exact he'
    · have hb' : b < s.heap.objs.size := by
        have e' : b = e ∨ b = it := by simpa using hb
        rcases e' with z | z
        · rw [z]; exact hel
        · rw [z]; exact hil
      rw [upd_ne (Nat.ne_of_lt hb')]
      exact (hf b hb).1
  done := by
    intro X hP hw hK hc i pins s σ H E I hf st hg
    subst hP hw hK
    obtain ⟨⟨old, he⟩, hit, hne⟩ := st
    obtain ⟨xs, hq, hx⟩ := hg
    obtain ⟨its, rv, p, hz, _⟩ := Inv.sq I hq
    obtain ⟨f0, f1, f2, f3, f4, f5⟩ := hf it (by simp)
    have hl := rv.length
    have ei : its.toArray.size = i := by simp; omega
    exact wpAny_pyNext_enum_endD (draws_B (A := X.A.in1) (show X.A.in1.handled = none from I.ok.hd hc) b it a hai its.toArray) he (by rw [ei]; exact ⟨hit, p⟩) fun h' eb => ⟨rfl, I.turned (t' := s.toks) (fun b o hb q => eb b o hb q) f0 f1 f3 f4 f5⟩
  self := fun A i s Q E st h => let ⟨⟨_, he⟩, _⟩ := st; wpAny_pyIter_enum he h
def iEnumG (K : Fg) (ta : TA) : TI := fun σ H R => ta σ H fun vs H1 => ∃ b a xs, vs = [.ref a] ∧ SqB b K H1 a xs ∧ R (IteG K b a) H1
theorem pi_enumG {X : Cx} {e : Expr} {ta : TA} {p pos tpos : Pos} {elts : List Expr} {kk : Nat} (hg : Gl X "enumerate") (hm : X.mg "enumerate" = none) (ha : PA X [e] ta) (hs : starEach [e] X.env = [(false, eval e X.env)]) :
    PI X (.Tuple elts kk tpos) (.Call (.Name "enumerate" p) [e] [] pos) (iEnumG X.K ta) := by
  refine ⟨fun pins s σ H R I h => ?_⟩
  refine Call_ (ld_blt I hg hm boot_enumerate (PyProof.Rows.callWith_type1 (thn (ha.run pos pins s σ H _ I h) fun us s1 ⟨vs, H1, I1, r1, q1⟩ => ?_) hs rfl))
  obtain ⟨b, a, xs, ex, hq, q⟩ := q1
  subst ex
  cases r1 with
  | cons r rr =>
    cases rr
    cases r
    obtain ⟨its, rv, p', hz, la⟩ := Inv.sq I1 hq
    refine enum_beginsB (begins_B b a its.toArray) p' fun h' he hit hk => wpAny_pyIter_enum he ?_
    have I2 : Inv X pins σ H1 { s1 with heap := h' } := I1.kept (t' := s1.toks) hk
    refine ⟨s1.heap.objs.size + 1, [s1.heap.objs.size + 1, s1.heap.objs.size], _, _, H1, rfl, I2, turn_enumG a (s1.heap.objs.size + 1) s1.heap.objs.size (Nat.ne_of_lt (Nat.lt_succ_of_lt la)) (Nat.ne_of_lt la), ⟨⟨.none, he⟩, itB_new hit, Nat.succ_ne_self _⟩, fun b hb => ?_, q⟩
    have e' : b = s1.heap.objs.size + 1 ∨ b = s1.heap.objs.size := by simpa using hb
    have hle : s1.heap.objs.size ≤ b := by
      rcases e' with z | z
      · rw [z]; exact Nat.le_add_right _ _
      · rw [z]; exact Nat.le_refl _
    exact I1.fpOk hle (I1.hok.fresh hle)
/-! ### a list, a tuple, a text -/
def iAny (K : Fg) (tl : TE) : TI := fun σ H R => tl σ H fun x H1 => (∃ a xs, x = .ref a ∧ SqL K H1 a xs ∧ R (Itl K a) H1) ∨ (∃ a xs, x = .ref a ∧ SqT K H1 a xs ∧ R (Itt K a) H1) ∨ (∃ z, x = .str z ∧ R (Its z) H1)
theorem pi_any {X : Cx} {tg l : Expr} {tl : TE} (hl : PE X l tl) : PI X tg l (iAny X.K tl) := by
  refine ⟨fun pins s σ H R I h => ?_⟩
  refine thn (hl.run pins s σ H _ I h) fun v s1 ⟨x, H1, I1, r1, q1⟩ => ?_
  rcases q1 with ⟨a, xs, e, hq, q⟩ | ⟨a, xs, e, hq, q⟩ | ⟨z, e, q⟩
  · subst e
    cases r1
    obtain ⟨its, rv, p, hz⟩ := I1.list hq
    refine wpAny_pyIter_list p.isList ?_
    refine ⟨s1.heap.objs.size, [s1.heap.objs.size], _, _, H1, rfl, I1.kept (t' := s1.toks) fun b o e => Heap.get?_push_of_some _ e, turn_list a _, ⟨_, Heap.get?_push_size _ rfl, rfl, rfl⟩, fun b hb => ?_, q⟩
    have e : b = s1.heap.objs.size := by simpa using hb
    subst e
    exact I1.fpOk (Nat.le_refl _) (I1.hok.fresh (Nat.le_refl _))
  · subst e
    cases r1
    obtain ⟨its, rv, p, hz⟩ := I1.tuple hq
    refine wpAny_pyIter_tuple (show s1.heap.IsTuple a its.toArray from p) ?_
    refine ⟨s1.heap.objs.size, [s1.heap.objs.size], _, _, H1, rfl, I1.kept (t' := s1.toks) fun b o e => Heap.get?_push_of_some _ e, turn_tuple a _, ⟨_, Heap.get?_push_size _ rfl, rfl, rfl⟩, fun b hb => ?_, q⟩
    have e : b = s1.heap.objs.size := by simpa using hb
    subst e
    exact I1.fpOk (Nat.le_refl _) (I1.hok.fresh (Nat.le_refl _))
  · subst e
    obtain ⟨t, rfl⟩ := r1
    cases ha : z.cps.all (· < 128)
    · exact wpAny_pyIter_wide ha (pi_one (tk := s1.toks) I1 _ (turn_str _ z t "str_iterator" (.inr rfl)) ⟨_, Heap.get?_push_size _ rfl, rfl, rfl⟩ q)
    · exact wpAny_pyIter_ascii ha (pi_one (tk := s1.toks) I1 _ (turn_str _ z t "str_ascii_iterator" (.inl rfl)) ⟨_, Heap.get?_push_size _ rfl, rfl, rfl⟩ q)
/-! ### ranges of any size -/
def ItrG (lo : Int) (n : Nat) : It := ⟨fun i _ => i < n, fun i H x H' => H' = H ∧ x = .int (lo + i), fun i _ => i = n⟩
theorem turn_long {P : Program} {w : World} {K : Fg} {tg : Expr} (it : Addr) (lo : Int) (n : Nat) : Turn P w K tg (ItrG lo n) [it] it (fun i h => IsLongIter h it (lo + (i : Nat) * 1) ((n : Int) - (i : Nat)) 1) where
  mem := by simp
  obj := fun i h st b hb => by
    have e : b = it := by simpa using hb
    subst e
    exact ⟨_, st, fun v z => by
      have z' : Data.fields _ = Data.cell v := z
      cases z'⟩
  keep := fun i h h' st k => k it (by simp) _ st
  item := by
    intro X hP hw hK hc i pins s σ H E I hf st hg
    subst hP hw hK
    obtain ⟨f0, f1, f2, f3, f4, f5⟩ := hf it (by simp)
    have W := Walks.longrange (prog := X.prog) (w := X.w) (I.ok.hd hc) it lo 1 n
    refine W.item i s _ _ hg st fun v h' tk hv st' kk => ?_
    obtain ⟨t, rfl⟩ := hv
    have I1 : Inv X pins σ H { s with heap := h', toks := tk } := I.turned (fun b o hb e => kk b o (by simpa using hb) e) f0 f1 f3 f4 f5
    refine ⟨_, rfl, go_of (s := { s with heap := h', toks := tk }) (n := "longrange_iterator") st' rfl rfl (by decide) ⟨.int (lo + i), H, I1, ⟨t, ?_⟩, ⟨rfl, rfl⟩, st', fun b hb => (hf b hb).1⟩⟩
    rw [Int.mul_one]
  done := by
    intro X hP hw hK hc i pins s σ H E I hf st hg
    subst hP hw hK
    obtain ⟨f0, f1, f2, f3, f4, f5⟩ := hf it (by simp)
    exact wpAny_pyNext_long_end (I.ok.hd hc) st (by have : i = n := hg; omega) fun h' eb => ⟨rfl, I.turned (t' := s.toks) (fun b o hb e => eb b o hb e) f0 f1 f3 f4 f5⟩
  self := fun _ _ _ _ _ st h => wpAny_pyIter_longiter st h
theorem turn_rangeG {P : Program} {w : World} {K : Fg} {tg : Expr} (it : Addr) (lo : Int) (n : Nat) : Turn P w K tg (ItrG lo n) [it] it (fun i h => IsRangeIter h it (lo + (i : Nat) * 1) ((n : Int) - (i : Nat)) 1) where
  mem := by simp
  obj := (turn_range (P := P) (w := w) (K := K) (tg := tg) it lo n).obj
  keep := (turn_range (P := P) (w := w) (K := K) (tg := tg) it lo n).keep
  item := fun X hP hw hK hc i pins s σ H E I hf st hg => (turn_range (P := P) (w := w) (K := K) (tg := tg) it lo n).item X hP hw hK hc i pins s σ H E I hf st hg
  done := fun X hP hw hK hc i pins s σ H E I hf st hg => (turn_range (P := P) (w := w) (K := K) (tg := tg) it lo n).done X hP hw hK hc i pins s σ H E I hf st (by have : i = n := hg; show n ≤ i; omega)
  self := (turn_range (P := P) (w := w) (K := K) (tg := tg) it lo n).self
section
variable {X : Cx} {tg : Expr}
theorem range_itG {pins : List (Addr × Obj)} {σ : L2.St} {H : Hp} {s : Shared} {R : It → Hp → Prop} {E : Value → Shared → Prop} {lo hi : Int} {t u v : Tok} {tk : Nat} (I : Inv X pins σ H s)
    (q : R (ItrG lo (hi - lo).toNat) H) : wpAny (model X.prog X.w) X.A (pyIter (.ref s.heap.objs.size)) (PIE X pins σ tg R) E { s with heap := s.heap.push { cls := .type "range", data := .fields #[.int lo t, .int hi u, .int 1 v] }, toks := tk } := by
  have I1 : Inv X pins σ H { s with heap := s.heap.push { cls := .type "range", data := .fields #[.int lo t, .int hi u, .int 1 v] }, toks := tk } := I.kept fun b o e => Heap.get?_push_of_some _ e
  have e1 : lo + ((0 : Nat) : Int) * 1 = lo := by simp
  have e2 : (((hi - lo).toNat : Nat) : Int) - ((0 : Nat) : Int) = Builtin.Range.rangeSize lo hi 1 := by rw [rangeSize_one]; split <;> omega
  have fp : ∀ b, b ∈ [(s.heap.push { cls := .type "range", data := .fields #[.int lo t, .int hi u, .int 1 v] }).objs.size] → FpOk X pins H b := fun b hb => by
    have e : b = (s.heap.push { cls := .type "range", data := .fields #[.int lo t, .int hi u, .int 1 v] }).objs.size := by simpa using hb
    subst e
    exact I1.fpOk (Nat.le_refl _) (I1.hok.fresh (Nat.le_refl _))
  by_cases hsm : Builtin.Range.small lo hi 1 = true
  · refine wpAny_pyIter_range (IsRange.new ..) hsm ?_
    refine ⟨(s.heap.push { cls := .type "range", data := .fields #[.int lo t, .int hi u, .int 1 v] }).objs.size, [(s.heap.push { cls := .type "range", data := .fields #[.int lo t, .int hi u, .int 1 v] }).objs.size], _, _, H, rfl,
      I1.kept (t' := tk) fun b o e => Heap.get?_push_of_some _ e, turn_rangeG _ lo (hi - lo).toNat, ?_, fp, q⟩
    show IsRangeIter _ _ (lo + ((0 : Nat) : Int) * 1) ((((hi - lo).toNat : Nat) : Int) - ((0 : Nat) : Int)) 1
    rw [e1, e2]
    exact Heap.get?_push_size _ rfl
  · refine wpAny_pyIter_longrange (IsRange.new ..) (by simpa using hsm) ?_
    refine ⟨(s.heap.push { cls := .type "range", data := .fields #[.int lo t, .int hi u, .int 1 v] }).objs.size, [(s.heap.push { cls := .type "range", data := .fields #[.int lo t, .int hi u, .int 1 v] }).objs.size], _, _, H, rfl,
      I1.kept (t' := tk) fun b o e => Heap.get?_push_of_some _ e, turn_long _ lo (hi - lo).toNat, ?_, fp, q⟩
    show IsLongIter _ _ (lo + ((0 : Nat) : Int) * 1) ((((hi - lo).toNat : Nat) : Int) - ((0 : Nat) : Int)) 1
    rw [e1, e2]
    exact Heap.get?_push_size _ rfl
def iRng1G (ta : TA) : TI := fun σ H R => ta σ H fun vs H1 => ∃ j : Int, vs = [.int j] ∧ R (ItrG 0 (j - 0).toNat) H1
def iRng2G (ta : TA) : TI := fun σ H R => ta σ H fun vs H1 => ∃ i j : Int, vs = [.int i, .int j] ∧ R (ItrG i (j - i).toNat) H1
theorem pi_range1G {a : Expr} {ta : TA} {p pos : Pos} (hg : Gl X "range") (hm : X.mg "range" = none) (ha : PA X [a] ta) (hs : starEach [a] X.env = [(false, eval a X.env)]) : PI X tg (.Call (.Name "range" p) [a] [] pos) (iRng1G ta) := by
  refine ⟨fun pins s σ H R I h => ?_⟩
  refine Call_ (ld_blt I hg hm boot_range (PyProof.Rows.callWith_type1 (thn (ha.run pos pins s σ H _ I h) fun us s1 ⟨vs, H1, I1, r1, q1⟩ => ?_) hs rfl))
  obtain ⟨j, e, q⟩ := q1
  subst e
  cases r1 with
  | cons r rr =>
    cases rr
    obtain ⟨t, rfl⟩ := r
    exact call_range_1 (range_itG I1 q)
theorem pi_range2G {a b : Expr} {ta : TA} {p pos : Pos} (hg : Gl X "range") (hm : X.mg "range" = none) (ha : PA X [a, b] ta) (hs : starEach [a, b] X.env = [(false, eval a X.env), (false, eval b X.env)]) (hs2 : starEach [b] X.env = [(false, eval b X.env)]) :
    PI X tg (.Call (.Name "range" p) [a, b] [] pos) (iRng2G ta) := by
  refine ⟨fun pins s σ H R I h => ?_⟩
  refine Call_ (ld_blt I hg hm boot_range (PyProof.Rows.callWith_type1 (thn (ha.run pos pins s σ H _ I h) fun us s1 ⟨vs, H1, I1, r1, q1⟩ => ?_) (by rw [hs, hs2]) (by rw [hs2]; rfl)))
  obtain ⟨i, j, e, q⟩ := q1
  subst e
  cases r1 with
  | cons r rr =>
    cases rr with
    | cons r' rr =>
      cases rr
      obtain ⟨t, rfl⟩ := r
      obtain ⟨t', rfl⟩ := r'
      exact call_range_2 (range_itG I1 q)
end
end Cw
/-! 7. Subscripts, slices, built-ins, calls. -/
namespace Cw
open PySem PySem.Spec PyProof.Rows L2
section
variable {X : Cx} {p : Pl} {a b c : Expr} {pos : Pos} {fa fb fc : Env → Store → Out D} {fA fB : Env → Store → Out W}
/-! ### products -/
def rMulA (K : Fg) : R2 := fun x y H Q => rI CMul (fun i j => .int (i * j)) x y H Q ∨ rI CMulW (fun i j => .int (i * j)) x y H Q ∨ rRepTA K x y H Q ∨ rRep x y H Q ∨ rRepS x y H Q
theorem op_mulA : OpR X (binaryOp .Mult) (rMulA X.K) := op_mul.or (op_mulW.or (op_repTA.or (op_rep.or op_repS)))
theorem small_rep {n k : Nat} (h : n ≤ 1000) (hk : k ≤ 1000) : n * k ≤ sizeLine := Nat.le_trans (Nat.mul_le_mul h hk) (by decide)
theorem sem_mul {K : Fg} : SemR K mulD (rMulA K) := by
  intro R M H st dx dy dz x y Q S hx hy e k
  cases dx with
  | int i =>
    cases dy <;> simp only [mulD] at e <;> try cases e
    split at e <;> cases e
    rename_i hl
    rw [rep_int] at hx hy
    simp only [mulOk, Bool.or_eq_true, decide_eq_true_eq] at hl
    rcases hl with (h | h) | h
    · exact .inl ⟨_, _, hx, hy, .inl (by omega), k _ _ Ext.refl (rep_int.mpr rfl)⟩
    · exact .inl ⟨_, _, hx, hy, .inr (by omega), k _ _ Ext.refl (rep_int.mpr rfl)⟩
    · exact .inr (.inl ⟨_, _, hx, hy, h, k _ _ Ext.refl (rep_int.mpr rfl)⟩)
  | tup ds =>
    cases dy <;> simp only [mulD] at e <;> try cases e
    split at e <;> cases e
    rename_i n hl
    have hx0 := hx
    rw [rep_tup] at hx
    rw [rep_int] at hy
    obtain ⟨u, xs, rfl, h1, h2, h3⟩ := hx
    refine .inr (.inr (.inl ⟨u, n, xs, rfl, hy, SqT.of h1, hl.2.1, hl.2.2, by rw [h3.length]; exact hl.1, fun z => ?_, fun _ _ q hq => ?_⟩))
    · have e0 : repD ds n = ds := by
        rcases z with z | z
        · subst z
          have : ds = [] := List.length_eq_zero_iff.mp (by rw [← h3.length]; rfl)
          subst this
          unfold repD
          rw [List.eq_nil_iff_length_eq_zero, PyProof.Rows.lm_len_rep_flat]; rfl
        · subst z
          simp [repD]
      rw [e0] at k
      exact k _ _ Ext.refl hx0
    · exact k _ _ (Ext.new hq) (rep_newT S hq (h3.rep n.toNat))
  | lst ds =>
    cases dy <;> simp only [mulD] at e <;> try cases e
    split at e <;> cases e
    rename_i n hl
    rw [rep_lst] at hx
    rw [rep_int] at hy
    obtain ⟨u, xs, rfl, h1, h2, h3⟩ := hx
    exact .inr (.inr (.inr (.inl ⟨u, n, xs, rfl, hy, h1, by omega, by omega, by rw [h3.length]; exact small_rep hl.1 (by omega), fun q hq => k _ _ (Ext.new hq) (rep_newL S hq (h3.rep n.toNat))⟩)))
  | str z =>
    cases dy with
    | int n =>
      simp only [mulD] at e
      rw [rep_str] at hx
      rw [rep_int] at hy
      split at e
      · rename_i h0
        cases e
        exact .inr (.inr (.inr (.inr ⟨z, n, hx, hy, .inl ⟨h0, k _ _ Ext.refl (rep_str.mpr rfl)⟩⟩)))
      · split at e <;> cases e
        rename_i h1
        exact .inr (.inr (.inr (.inr ⟨z, n, hx, hy, .inr ⟨h1, k _ _ Ext.refl (rep_str.mpr rfl)⟩⟩)))
    | _ => simp [mulD] at e
  | _ => cases dy <;> simp [mulD] at e
/-! ### operators that make a new list -/
theorem addD_lst {x y : D} {ds : List D} (e : addD x y = some (.lst ds)) : ∃ u v, x = .lst u ∧ y = .lst v ∧ u.length + v.length ≤ LIM ∧ ds = u ++ v := by
  unfold addD at e
  split at e
  · cases e
  · split at e <;> cases e
  · split at e <;> cases e
  · split at e <;> cases e
    rename_i h
    exact ⟨_, _, rfl, rfl, h, rfl⟩
  · cases e
theorem mulD_lst {x y : D} {ds : List D} (e : mulD x y = some (.lst ds)) : ∃ u k, x = .lst u ∧ y = .int k ∧ (u.length ≤ 1000 ∧ -1000 ≤ k ∧ k ≤ 1000) ∧ ds = repD u k := by
  unfold mulD at e
  split at e
  · split at e <;> cases e
  · split at e <;> cases e
  · split at e <;> cases e
    rename_i h
    exact ⟨_, _, rfl, rfl, h, rfl⟩
  · split at e
    · cases e
    · split at e <;> cases e
  · cases e
theorem f_add (ha : PE X a (tE X p fa)) (hb : PE X b (tE X p fb)) : PE X (.BinOp a .Add b pos) (tF X p fun env st => bnd (fa env st) fun x s => bnd (fb env s) fun y s => lift (addD x y) s) := by
  refine PE.less (pe_op op_cat ha hb) fun σ H Q h => ?_
  obtain ⟨R, M, env, st, o, a, e, k⟩ := h
  refine tF_seq a e k fun x b s1 H1 M1 _ g a1 r e1 k1 => ?_
  refine tF_seq a1 e1 k1 fun y bs s2 H2 M2 _ g2 a2 r2 e2 k2 => ?_
  obtain ⟨d, e3, rfl⟩ := lift_eq e2
  obtain ⟨ds, rfl, _⟩ := id k2
  have r1 := g2.rep r
  obtain ⟨es, fs, rfl, rfl, hl, rfl⟩ := addD_lst e3
  have r1 := rep_lst.mp r1
  have r2 := rep_lst.mp r2
  obtain ⟨u, xs, rfl, h1, h2, h3⟩ := r1
  obtain ⟨v, ys, rfl, g1, g2, g3⟩ := r2
  exact ⟨u, v, xs, ys, rfl, rfl, h1, g1, by rw [h3.length, g3.length]; exact lim_line hl, fun q hq => k2.lay a2.S (h3.append g3) hq⟩
theorem f_mul (ha : PE X a (tE X p fa)) (hb : PE X b (tE X p fb)) : PE X (.BinOp a .Mult b pos) (tF X p fun env st => bnd (fa env st) fun x s => bnd (fb env s) fun y s => lift (mulD x y) s) := by
  refine PE.less (pe_op op_rep ha hb) fun σ H Q h => ?_
  obtain ⟨R, M, env, st, o, a, e, k⟩ := h
  refine tF_seq a e k fun x b s1 H1 M1 _ g a1 r e1 k1 => ?_
  refine tF_seq a1 e1 k1 fun y bs s2 H2 M2 _ g2 a2 r2 e2 k2 => ?_
  obtain ⟨d, e3, rfl⟩ := lift_eq e2
  obtain ⟨ds, rfl, _⟩ := id k2
  have r1 := g2.rep r
  obtain ⟨es, n, rfl, rfl, hl, rfl⟩ := mulD_lst e3
  have r1 := rep_lst.mp r1
  have r2 := rep_int.mp r2
  obtain ⟨u, xs, rfl, h1, h2, h3⟩ := r1
  exact ⟨u, n, xs, rfl, r2, h1, by omega, by omega, by rw [h3.length]; exact small_rep hl.1 (by omega), fun q hq => k2.lay a2.S (h3.rep n.toNat) hq⟩
/-! ### what an operand stands for now -/
/-- as Rep, but the list itself may be a cell -/
def RepN (K : Fg) (Z : List Addr) (H : Hp) (d : D) (v : V) : Prop := Rep K Z H d v ∨ ∃ ds a xs, d = .lst ds ∧ v = .ref a ∧ H a = some (.lst xs) ∧ Reps K Z H ds xs
theorem now_rep {K : Fg} {xa : XA} {R M : List Addr} {H : Hp} {st : Store} {w : W} {v : V} {d : D} (S : RelS K R H M st) (r : RepW K xa M (M ++ R) H w v) (e : now st w = some d) : RepN K (M ++ R) H d v := by
  cases w with
  | d x => cases e; exact .inl r
  | r n =>
    simp only [now] at e
    split at e <;> cases e
    rename_i ds hn
    obtain ⟨a, ha, rfl⟩ := r
    obtain ⟨xs, h1, h2⟩ := S.cells n _ a hn ha
    exact .inr ⟨ds, a, xs, rfl, rfl, h1, h2⟩
  | rt ns => cases e
  | exc c => cases e
theorem RepN.lst {K : Fg} {Z : List Addr} {H : Hp} {ds : List D} {v : V} (h : RepN K Z H (.lst ds) v) : ∃ a xs, v = .ref a ∧ H a = some (.lst xs) ∧ Reps K Z H ds xs := by
  rcases h with h | ⟨ds', a, xs, e, rfl, h1, h2⟩
  · rw [rep_lst] at h
    obtain ⟨a, xs, e, h1, _, h3⟩ := h
    exact ⟨a, xs, e, h1, h3⟩
  · cases e; exact ⟨a, xs, rfl, h1, h2⟩
theorem RepN.rep {K : Fg} {Z : List Addr} {H : Hp} {d : D} {v : V} (h : RepN K Z H d v) (hd : ∀ ds, d ≠ .lst ds) : Rep K Z H d v := by
  rcases h with h | ⟨ds, _, _, e, _⟩
  · exact h
  · exact absurd e (hd ds)
theorem Reps.atI {K : Fg} {Z : List Addr} {H : Hp} {ds : List D} {xs : List V} {i : Int} {d : D} (h : Reps K Z H ds xs) (e : L2.atI ds i = some d) : ∃ x, L2.atI xs i = some x ∧ Rep K Z H d x := by
  unfold L2.atI at e ⊢
  rw [h.length]
  obtain ⟨j, e1, e2⟩ := Option.bind_eq_some_iff.mp e
  obtain ⟨x, e3, r⟩ := h.get e2
  exact ⟨x, by rw [e1]; exact e3, r⟩
theorem atI_map {A B : Type} {f : A → B} {xs : List A} {i : Int} : L2.atI (xs.map f) i = (L2.atI xs i).map f := by
  unfold L2.atI
  rw [List.length_map]
  cases L2.ixN xs.length i with
  | none => rfl
  | some j => simp
theorem n_idx (ha : PE X a (tV X p fA)) (hb : PE X b (tE X p fb)) (hs : PlainIx b) : PE X (.Subscript a b pos) (tE X p fun env st => bnd (fA env st) fun x s => bnd (fb env s) fun y s => lift ((now s x).bind fun d => idxD d y) s) := by
  refine PE.less (pe_ix ix_seq ha hb hs) fun σ H Q h => ?_
  obtain ⟨R, M, env, st, o, a, e, k⟩ := h
  refine tG_seq a e k fun x b s1 H1 M1 _ g a1 r e1 k1 => ?_
  refine tG_seq a1 e1 k1 fun y bs s2 H2 M2 _ g2 a2 r2 e2 k2 => ?_
  obtain ⟨d, e3, rfl⟩ := lift_eq e2
  obtain ⟨dx, e4, e5⟩ := Option.bind_eq_some_iff.mp e3
  have rn := now_rep a2.S (g2.repW r) e4
  have kk := k2.ext a2.S
  cases y with
  | int i =>
    have ry := rep_int.mp r2
    cases dx with
    | str z =>
      simp only [idxD] at e5
      split at e5
      · rename_i hl
        obtain ⟨c, e6, rfl⟩ := Option.map_eq_some_iff.mp e5
        have rx := rep_str.mp (rn.rep fun _ h => nomatch h)
        exact .inr (.inr ⟨z, i, c, rx, ry, lim_line hl, e6, kk _ _ Ext.refl (rep_str.mpr rfl)⟩)
      · cases e5
    | tup ds =>
      simp only [idxD] at e5
      obtain ⟨u, xs, rfl, h1, _, h3⟩ := rep_tup.mp (rn.rep fun _ h => nomatch h)
      obtain ⟨v, e6, rv⟩ := h3.atI e5
      exact .inr (.inl ⟨u, xs, i, v, rfl, ry, SqT.of h1, e6, kk _ _ Ext.refl rv⟩)
    | lst ds =>
      simp only [idxD] at e5
      obtain ⟨u, xs, rfl, h1, h3⟩ := rn.lst
      obtain ⟨v, e6, rv⟩ := h3.atI e5
      exact .inl ⟨u, xs, i, v, rfl, ry, SqL.of h1, e6, kk _ _ Ext.refl rv⟩
    | scr ns =>
      simp only [idxD] at e5
      obtain ⟨u, rfl, h1⟩ := rep_scr (rn.rep fun _ h => nomatch h)
      obtain ⟨j, e6, rfl⟩ := Option.map_eq_some_iff.mp e5
      exact .inl ⟨u, _, i, .int j, rfl, ry, h1, by rw [atI_map, e6]; rfl, kk _ _ Ext.refl (rep_int.mpr rfl)⟩
    | _ => simp [idxD] at e5
  | _ => cases dx <;> simp [idxD] at e5
/-! ### slices -/
abbrev tO (X : Cx) (p : Pl) (f : Env → Store → Out (Option Int)) : TO := tG X.K p.xa p.adr p.W' (rEq (Option Int)) f
theorem PO.less {e : Option Expr} {t t' : TO} (h : PO X e t) (w : ∀ σ H Q, t' σ H Q → t σ H Q) : PO X e t' := ⟨fun pins s σ H Q I q => h.run pins s σ H Q I (w σ H Q q)⟩
theorem o_no : PO X none (tO X p fun _ st => ret none st) := by
  refine PO.less po_none fun σ H Q h => ?_
  obtain ⟨R, M, env, st, o, a, e, k⟩ := h
  obtain rfl := ret_eq e
  exact k.ext a.S _ H Ext.refl rfl
theorem o_yes (h : PE X a (tE X p fa)) : PO X (some a) (tO X p fun env st => bnd (bnd (fa env st) asI) fun i s => ret (some i) s) := by
  refine PO.less (po_some h) fun σ H Q h => ?_
  obtain ⟨R, M, env, st, o, a, e, k⟩ := h
  refine tI_of (p := p) (f := fa) (tG_seq a e k fun x b s1 H1 M1 _ g a1 r e1 k1 => ?_)
  obtain rfl := ret_eq e1
  have r : x = b := r
  subst r
  exact k1.ext a1.S _ _ Ext.refl rfl
theorem Reps.cut {K : Fg} {Z : List Addr} {H : Hp} {ds : List D} {xs : List V} (h : Reps K Z H ds xs) (lo hi : Option Int) : Reps K Z H (cutD ds lo hi) (cutV xs lo hi) := by
  unfold cutD cutV
  rw [h.length]
  exact (h.drop _).take _
theorem n_sl {lo hi : Option Expr} {p2 : Pos} {fl fh : Env → Store → Out (Option Int)} (ha : PE X a (tE X p fa)) (hl : PO X lo (tO X p fl)) (hh : PO X hi (tO X p fh)) :
    PE X (.Subscript a (.Slice lo hi none p2) pos) (tE X p fun env st => bnd (fa env st) fun x s => bnd (fl env s) fun l s => bnd (fh env s) fun h s => lift (slD l h x) s) := by
  refine PE.less (pe_slice (sl_list.or sl_tupA) ha hl hh) fun σ H Q h => ?_
  obtain ⟨R, M, env, st, o, a, e, k⟩ := h
  refine tG_seq a e k fun x b s1 H1 M1 _ g a1 r e1 k1 => ?_
  refine tG_seq a1 e1 k1 fun l bl s2 H2 M2 _ g2 a2 r2 e2 k2 => ?_
  refine tG_seq a2 e2 k2 fun u bu s3 H3 M3 _ g3 a3 r3 e3 k3 => ?_
  have r2 : l = bl := r2
  have r3 : u = bu := r3
  subst r2 r3
  obtain ⟨d, e4, rfl⟩ := lift_eq e3
  have kk := k3.ext a3.S
  have rx := (g2.trans g3).rep r
  cases x <;> simp only [slD] at e4 <;> cases e4
  · obtain ⟨w, xs, rfl, h1, h2, h3⟩ := rep_tup.mp rx
    refine .inr ⟨w, xs, rfl, SqT.of h1, fun z => ?_, fun _ q hq => kk _ _ (Ext.new hq) (rep_newT a3.S hq (h3.cut l u))⟩
    refine kk _ _ Ext.refl (rep_tup.mpr ⟨w, xs, rfl, h1, h2, ?_⟩)
    have q := h3.cut l u
    have e5 : cutV xs l u = xs := by
      unfold cutV
      rw [z.1, z.2]; simp
    rw [e5] at q
    exact q
  · obtain ⟨w, xs, rfl, h1, h2, h3⟩ := rep_lst.mp rx
    exact .inl ⟨w, xs, rfl, SqL.of h1, fun q hq => kk _ _ (Ext.new hq) (rep_newL a3.S hq (h3.cut l u))⟩
theorem n_rev {k0 : Nat} {p1 p2 p3 : Pos} (ha : PE X a (tE X p fa)) : PE X (.Subscript a (.Slice none none (some (.UnaryOp .USub (.Constant (.int 1) k0 p1) p2)) p3) pos) (tE X p fun env st => bnd (fa env st) fun x s => lift (revD x) s) := by
  refine PE.less (pe_revA ha) fun σ H Q h => ?_
  obtain ⟨R, M, env, st, o, a, e, k⟩ := h
  refine tG_seq a e k fun x b s1 H1 M1 _ g a1 r e1 k1 => ?_
  obtain ⟨d, e4, rfl⟩ := lift_eq e1
  have kk := k1.ext a1.S
  cases x <;> simp only [revD] at e4 <;> cases e4
  · obtain ⟨w, xs, rfl, h1, h2, h3⟩ := rep_tup.mp r
    exact ⟨w, xs, rfl, .inr ⟨SqT.of h1, fun q hq => kk _ _ (Ext.new hq) (rep_newT a1.S hq h3.reverse)⟩⟩
  · obtain ⟨w, xs, rfl, h1, h2, h3⟩ := rep_lst.mp r
    exact ⟨w, xs, rfl, .inl ⟨SqL.of h1, fun q hq => kk _ _ (Ext.new hq) (rep_newL a1.S hq h3.reverse)⟩⟩
/-! ### list + list of operands -/
theorem n_cat (ha : PE X a (tV X p fA)) (hb : PE X b (tV X p fB)) : PE X (.BinOp a .Add b pos) (tF X p fun env st => bnd (fA env st) fun x s => bnd (fB env s) fun y s => lift ((now s x).bind fun d => (now s y).bind fun e => match d, e with
    | .lst _, .lst _ => addD d e
    | _, _ => none) s) := by
  refine PE.less (pe_op op_cat ha hb) fun σ H Q h => ?_
  obtain ⟨R, M, env, st, o, a, e, k⟩ := h
  refine tF_seq a e k fun x b s1 H1 M1 _ g a1 r e1 k1 => ?_
  refine tF_seq a1 e1 k1 fun y bs s2 H2 M2 _ g2 a2 r2 e2 k2 => ?_
  obtain ⟨d, e3, rfl⟩ := lift_eq e2
  obtain ⟨ds, rfl, _⟩ := id k2
  obtain ⟨dx, e4, e5⟩ := Option.bind_eq_some_iff.mp e3
  obtain ⟨dy, e6, e7⟩ := Option.bind_eq_some_iff.mp e5
  have r1 := now_rep a2.S (g2.repW r) e4
  have r3 := now_rep a2.S r2 e6
  have e8 : addD dx dy = some (.lst ds) := by
    cases dx <;> cases dy <;> first | exact e7 | cases e7
  obtain ⟨es, fs, rfl, rfl, hl, rfl⟩ := addD_lst e8
  obtain ⟨u, xs, rfl, h1, h3⟩ := r1.lst
  obtain ⟨v, ys, rfl, g1, g3⟩ := r3.lst
  exact ⟨u, v, xs, ys, rfl, rfl, h1, g1, by rw [h3.length, g3.length]; exact lim_line hl, fun q hq => k2.lay a2.S (h3.append g3) hq⟩
/-! ### built-ins of one operand -/
theorem one_arg {x : Str} {p0 : Pos} {r : List V → Hp → VK → Prop} (hna : starEach [a] X.env = [(false, eval a X.env)]) : starEach (a :: []) X.env = (false, eval a X.env) :: starEach [] X.env := hna
theorem pa_one {ta : TE} (ha : PE X a ta) (hna : starEach [a] X.env = [(false, eval a X.env)]) : PA X [a] (tCons ta tNil) := pa_cons ha pa_nil hna
theorem pa_two {ta tb : TE} (ha : PE X a ta) (hb : PE X b tb) (hna : starEach [a, b] X.env = (false, eval a X.env) :: starEach [b] X.env) (hnb : starEach [b] X.env = [(false, eval b X.env)]) : PA X [a, b] (tCons ta (tCons tb tNil)) := pa_cons ha (pa_one hb hnb) hna
theorem call_lenA : CallR X (.builtin "len") (fun xs H Q => (∃ p ys, xs = [.ref p] ∧ (SqL X.K H p ys ∨ SqT X.K H p ys) ∧ Q (.int ys.length) H) ∨ ∃ z, xs = [.str z] ∧ z.length ≤ sizeLine ∧ Q (.int z.length) H) := call_len_seq.or call_len_str
theorem n_len {x : Str} {p0 : Pos} (hx : x = "len") (ha : PE X a (tV X p fA)) (hg : Gl X x) (hm : X.mg x = none) (hna : starEach [a] X.env = [(false, eval a X.env)]) :
    PE X (.Call (.Name x p0) [a] [] pos) (tE X p fun env st => bnd (fA env st) fun x s => lift ((now s x).bind (bfD .len)) s) := by
  subst hx
  refine PE.less (pe_callB call_lenA hg hm PySem.boot_len (pa_one ha hna) (by decide) (by decide) hna rfl) fun σ H Q h => ?_
  obtain ⟨R, M, env, st, o, a, e, k⟩ := h
  refine tG_seq a e k fun x b s1 H1 M1 _ g a1 r e1 k1 => ?_
  obtain ⟨d, e4, rfl⟩ := lift_eq e1
  obtain ⟨dx, e5, e6⟩ := Option.bind_eq_some_iff.mp e4
  have rn := now_rep a1.S r e5
  have kk := k1.ext a1.S
  cases dx <;> simp only [bfD, lenD] at e6 <;> try cases e6
  · split at e6 <;> cases e6
    rename_i z hl
    exact .inr ⟨z, by rw [rep_str.mp (rn.rep fun _ h => nomatch h)], lim_line hl, kk _ _ Ext.refl (rep_int.mpr rfl)⟩
  · rename_i ds
    obtain ⟨w, xs, rfl, h1, h2, h3⟩ := rep_tup.mp (rn.rep fun _ h => nomatch h)
    exact .inl ⟨w, xs, rfl, .inr (SqT.of h1), kk _ _ Ext.refl (rep_int.mpr (by rw [h3.length]))⟩
  · rename_i ds
    obtain ⟨w, xs, rfl, h1, h3⟩ := rn.lst
    exact .inl ⟨w, xs, rfl, .inl (SqL.of h1), kk _ _ Ext.refl (rep_int.mpr (by rw [h3.length]))⟩
  · rename_i ns
    obtain ⟨w, rfl, h1⟩ := rep_scr (rn.rep fun _ h => nomatch h)
    exact .inl ⟨w, _, rfl, .inl h1, kk _ _ Ext.refl (rep_int.mpr (by rw [List.length_map]))⟩
theorem n_tupOf {x : Str} {p0 : Pos} (hx : x = "tuple") (ha : PE X a (tV X p fA)) (hg : Gl X x) (hm : X.mg x = none) (hna : starEach [a] X.env = [(false, eval a X.env)]) :
    PE X (.Call (.Name x p0) [a] [] pos) (tE X p fun env st => bnd (fA env st) fun x s => lift ((now s x).bind (bfD .tup)) s) := by
  subst hx
  refine PE.less (pe_callTy call_tuple_of hg hm (by decide +kernel) (pa_one ha hna) (by decide) (by decide) hna rfl) fun σ H Q h => ?_
  obtain ⟨R, M, env, st, o, a, e, k⟩ := h
  refine tG_seq a e k fun x b s1 H1 M1 _ g a1 r e1 k1 => ?_
  obtain ⟨d, e4, rfl⟩ := lift_eq e1
  obtain ⟨dx, e5, e6⟩ := Option.bind_eq_some_iff.mp e4
  have rn := now_rep a1.S r e5
  have kk := k1.ext a1.S
  cases dx <;> simp only [bfD] at e6 <;> cases e6
  · have r0 := rn.rep fun _ h => nomatch h
    obtain ⟨w, xs, rfl, h1, h2, h3⟩ := rep_tup.mp r0
    exact ⟨w, xs, rfl, .inr ⟨SqT.of h1, kk _ _ Ext.refl r0⟩⟩
  · obtain ⟨w, xs, rfl, h1, h3⟩ := rn.lst
    exact ⟨w, xs, rfl, .inl ⟨SqL.of h1, fun q hq => kk _ _ (Ext.new hq) (rep_newT a1.S hq h3)⟩⟩
theorem f_lstOf {x : Str} {p0 : Pos} (hx : x = "list") (ha : PE X a (tV X p fA)) (hg : Gl X x) (hm : X.mg x = none) (hna : starEach [a] X.env = [(false, eval a X.env)]) :
    PE X (.Call (.Name x p0) [a] [] pos) (tF X p fun env st => bnd (fA env st) fun x s => lift ((now s x).bind (bfD .lst)) s) := by
  subst hx
  refine PE.less (pe_callTy call_list_of hg hm (by decide +kernel) (pa_one ha hna) (by decide) (by decide) hna rfl) fun σ H Q h => ?_
  obtain ⟨R, M, env, st, o, a, e, k⟩ := h
  refine tF_seq a e k fun x b s1 H1 M1 _ g a1 r e1 k1 => ?_
  obtain ⟨d, e4, rfl⟩ := lift_eq e1
  obtain ⟨dx, e5, e6⟩ := Option.bind_eq_some_iff.mp e4
  have rn := now_rep a1.S r e5
  cases dx <;> simp only [bfD] at e6 <;> cases e6
  · obtain ⟨w, xs, rfl, h1, h2, h3⟩ := rep_tup.mp (rn.rep fun _ h => nomatch h)
    exact ⟨w, xs, rfl, .inr (SqT.of h1), fun q hq => k1.lay a1.S h3 hq⟩
  · obtain ⟨w, xs, rfl, h1, h3⟩ := rn.lst
    exact ⟨w, xs, rfl, .inl (SqL.of h1), fun q hq => k1.lay a1.S h3 hq⟩
theorem n_sum {x : Str} {p0 : Pos} (hx : x = "sum") (hc : X.calm = true) (ha : PE X a (tV X p fA)) (hg : Gl X x) (hm : X.mg x = none) (hna : starEach [a] X.env = [(false, eval a X.env)]) :
    PE X (.Call (.Name x p0) [a] [] pos) (tE X p fun env st => bnd (fA env st) fun x s => lift ((now s x).bind (bfD .sum)) s) := by
  subst hx
  refine PE.less (pe_callB (cr_sum hc) hg hm (by decide +kernel) (pa_one ha hna) (by decide) (by decide) hna rfl) fun σ H Q h => ?_
  obtain ⟨R, M, env, st, o, a, e, k⟩ := h
  refine tG_seq a e k fun x b s1 H1 M1 _ g a1 r e1 k1 => ?_
  obtain ⟨d, e4, rfl⟩ := lift_eq e1
  obtain ⟨dx, e5, e6⟩ := Option.bind_eq_some_iff.mp e4
  have rn := now_rep a1.S r e5
  cases dx <;> simp only [bfD] at e6 <;> try cases e6
  obtain ⟨ns, e7, rfl⟩ := Option.map_eq_some_iff.mp e6
  obtain ⟨w, xs, rfl, h1, h3⟩ := rn.lst
  rw [h3.ints e7] at h1
  exact ⟨w, ns, rfl, SqL.of h1, k1.ext a1.S _ _ Ext.refl (rep_int.mpr rfl)⟩
theorem n_any {x : Str} {p0 : Pos} (hx : x = "any") (hc : X.calm = true) (ha : PE X a (tV X p fA)) (hg : Gl X x) (hm : X.mg x = none) (hna : starEach [a] X.env = [(false, eval a X.env)]) :
    PE X (.Call (.Name x p0) [a] [] pos) (tE X p fun env st => bnd (fA env st) fun x s => lift ((now s x).bind (bfD .any)) s) := by
  subst hx
  refine PE.less (pe_callB (cr_any hc) hg hm (by decide +kernel) (pa_one ha hna) (by decide) (by decide) hna rfl) fun σ H Q h => ?_
  obtain ⟨R, M, env, st, o, a, e, k⟩ := h
  refine tG_seq a e k fun x b s1 H1 M1 _ g a1 r e1 k1 => ?_
  obtain ⟨d, e4, rfl⟩ := lift_eq e1
  obtain ⟨dx, e5, e6⟩ := Option.bind_eq_some_iff.mp e4
  have rn := now_rep a1.S r e5
  cases dx <;> simp only [bfD] at e6 <;> try cases e6
  obtain ⟨ns, e7, rfl⟩ := Option.map_eq_some_iff.mp e6
  obtain ⟨w, xs, rfl, h1, h3⟩ := rn.lst
  rw [h3.bls e7] at h1
  exact ⟨w, ns, rfl, SqL.of h1, k1.ext a1.S _ _ Ext.refl (rep_bl.mpr rfl)⟩
theorem n_all {x : Str} {p0 : Pos} (hx : x = "all") (hc : X.calm = true) (ha : PE X a (tV X p fA)) (hg : Gl X x) (hm : X.mg x = none) (hna : starEach [a] X.env = [(false, eval a X.env)]) :
    PE X (.Call (.Name x p0) [a] [] pos) (tE X p fun env st => bnd (fA env st) fun x s => lift ((now s x).bind (bfD .all)) s) := by
  subst hx
  refine PE.less (pe_callB (cr_all hc) hg hm (by decide +kernel) (pa_one ha hna) (by decide) (by decide) hna rfl) fun σ H Q h => ?_
  obtain ⟨R, M, env, st, o, a, e, k⟩ := h
  refine tG_seq a e k fun x b s1 H1 M1 _ g a1 r e1 k1 => ?_
  obtain ⟨d, e4, rfl⟩ := lift_eq e1
  obtain ⟨dx, e5, e6⟩ := Option.bind_eq_some_iff.mp e4
  have rn := now_rep a1.S r e5
  cases dx <;> simp only [bfD] at e6 <;> try cases e6
  obtain ⟨ns, e7, rfl⟩ := Option.map_eq_some_iff.mp e6
  obtain ⟨w, xs, rfl, h1, h3⟩ := rn.lst
  rw [h3.bls e7] at h1
  exact ⟨w, ns, rfl, SqL.of h1, k1.ext a1.S _ _ Ext.refl (rep_bl.mpr rfl)⟩
theorem n_intOf {x : Str} {p0 : Pos} (hx : x = "int") (ha : PE X a (tV X p fA)) (hg : Gl X x) (hm : X.mg x = none) (hna : starEach [a] X.env = [(false, eval a X.env)]) :
    PE X (.Call (.Name x p0) [a] [] pos) (tE X p fun env st => bnd (fA env st) fun x s => lift ((now s x).bind (bfD .int)) s) := by
  subst hx
  refine PE.less (pe_callTy call_int1 hg hm (by decide +kernel) (pa_one ha hna) (by decide) (by decide) hna rfl) fun σ H Q h => ?_
  obtain ⟨R, M, env, st, o, a, e, k⟩ := h
  refine tG_seq a e k fun x b s1 H1 M1 _ g a1 r e1 k1 => ?_
  obtain ⟨d, e4, rfl⟩ := lift_eq e1
  obtain ⟨dx, e5, e6⟩ := Option.bind_eq_some_iff.mp e4
  have rn := now_rep a1.S r e5
  cases dx <;> simp only [bfD] at e6 <;> cases e6
  · rename_i c
    have r0 := rep_bl.mp (rn.rep fun _ h => nomatch h)
    exact .inr ⟨c, by rw [r0], k1.ext a1.S _ _ Ext.refl (rep_int.mpr rfl)⟩
  · rename_i c
    have r0 := rep_int.mp (rn.rep fun _ h => nomatch h)
    exact .inl ⟨c, by rw [r0], k1.ext a1.S _ _ Ext.refl (rep_int.mpr rfl)⟩
theorem n_maxd {x dn : Str} {p0 kpos dpos : Pos} {j0 : Nat} (hx : x = "max") (hdn : dn = "default") (hc : X.calm = true) (hu : X.A.units + 64 < cLine) (ha : PE X a (tV X p fA)) (hg : Gl X x) (hm : X.mg x = none) (hna : starEach [a] X.env = [(false, eval a X.env)]) :
    PE X (.Call (.Name x p0) [a] [⟨some dn, .Constant (.int 0) j0 dpos, kpos⟩] pos) (tE X p fun env st => bnd (fA env st) fun x s => lift ((now s x).bind (bfD .maxd)) s) := by
  subst hx hdn
  refine PE.less (pe_callBK (cr_maxD hc hu) hg hm (by decide +kernel) (pa_one ha hna) (pk_cons pe_int pk_nil) (by decide) (by decide) (by rw [hna]; rfl) (by rw [hna]; rfl) rfl rfl rfl) fun σ H Q h => ?_
  obtain ⟨R, M, env, st, o, a, e, k⟩ := h
  refine tG_seq a e k fun x b s1 H1 M1 _ g a1 r e1 k1 => ?_
  obtain ⟨d, e4, rfl⟩ := lift_eq e1
  obtain ⟨dx, e5, e6⟩ := Option.bind_eq_some_iff.mp e4
  have rn := now_rep a1.S r e5
  cases dx <;> simp only [bfD] at e6 <;> try cases e6
  obtain ⟨ns, e7, rfl⟩ := Option.map_eq_some_iff.mp e6
  obtain ⟨w, xs, rfl, h1, h3⟩ := rn.lst
  rw [h3.ints e7] at h1
  refine ⟨w, ns, .int 0, rfl, rfl, SqL.of h1, k1.ext a1.S _ _ Ext.refl ?_⟩
  cases ns with
  | nil => exact rep_int.mpr rfl
  | cons n r => exact rep_int.mpr rfl
theorem n_max2 {x : Str} {p0 : Pos} (hx : x = "max") (hc : X.calm = true) (ha : PE X a (tE X p fa)) (hb : PE X b (tE X p fb)) (hg : Gl X x) (hm : X.mg x = none) (hna : starEach [a, b] X.env = (false, eval a X.env) :: starEach [b] X.env) (hnb : starEach [b] X.env = [(false, eval b X.env)]) :
    PE X (.Call (.Name x p0) [a, b] [] pos) (tE X p fun env st => bnd (fa env st) fun x s => bnd (fb env s) fun y s => lift (bgD .max x y) s) := by
  subst hx
  refine PE.less (pe_callB (call_max2 hc) hg hm (by decide +kernel) (pa_two ha hb hna hnb) (by decide) (by decide) hna (by rw [hnb]; rfl)) fun σ H Q h => ?_
  obtain ⟨R, M, env, st, o, a, e, k⟩ := h
  refine tG_seq a e k fun x b s1 H1 M1 _ g a1 r e1 k1 => ?_
  refine tG_seq a1 e1 k1 fun y bs s2 H2 M2 _ g2 a2 r2 e2 k2 => ?_
  obtain ⟨d, e3, rfl⟩ := lift_eq e2
  have r1 := g2.rep r
  cases x <;> cases y <;> simp only [bgD] at e3 <;> cases e3
  exact ⟨_, _, by rw [rep_int.mp r1, rep_int.mp r2], k2.ext a2.S _ _ Ext.refl (rep_int.mpr rfl)⟩
theorem n_min2 {x : Str} {p0 : Pos} (hx : x = "min") (hc : X.calm = true) (ha : PE X a (tE X p fa)) (hb : PE X b (tE X p fb)) (hg : Gl X x) (hm : X.mg x = none) (hna : starEach [a, b] X.env = (false, eval a X.env) :: starEach [b] X.env) (hnb : starEach [b] X.env = [(false, eval b X.env)]) :
    PE X (.Call (.Name x p0) [a, b] [] pos) (tE X p fun env st => bnd (fa env st) fun x s => bnd (fb env s) fun y s => lift (bgD .min x y) s) := by
  subst hx
  refine PE.less (pe_callB (call_min2 hc) hg hm (by decide +kernel) (pa_two ha hb hna hnb) (by decide) (by decide) hna (by rw [hnb]; rfl)) fun σ H Q h => ?_
  obtain ⟨R, M, env, st, o, a, e, k⟩ := h
  refine tG_seq a e k fun x b s1 H1 M1 _ g a1 r e1 k1 => ?_
  refine tG_seq a1 e1 k1 fun y bs s2 H2 M2 _ g2 a2 r2 e2 k2 => ?_
  obtain ⟨d, e3, rfl⟩ := lift_eq e2
  have r1 := g2.rep r
  cases x <;> cases y <;> simp only [bgD] at e3 <;> cases e3
  exact ⟨_, _, by rw [rep_int.mp r1, rep_int.mp r2], k2.ext a2.S _ _ Ext.refl (rep_int.mpr rfl)⟩
theorem n_join {z x : Str} {j0 : Nat} {apos p1 : Pos} (hx : x = "join") (hb : PE X b (tE X p fb)) (hline : (apos.endLine == pos.line) = true)
    (hnb : starEach [b] X.env = [(false, eval b X.env)]) : PE X (.Call (.Attribute (.Constant (.str z) j0 p1) x apos) [b] [] pos) (tE X p fun env st => bnd (fb env st) fun x s => lift (joinD z x) s) := by
  subst hx
  refine PE.less (pe_bm PySem.F.plainAttrs_str PySem.F.slot_str_join PySem.F.type_str_join mt_join pe_str (pa_one hb hnb) rfl (by rw [hnb]; rfl) hline hnb rfl) fun σ H Q h => ?_
  obtain ⟨R, M, env, st, o, a, e, k⟩ := h
  refine ⟨rfl, tG_seq a e k fun x b s1 H1 M1 _ g a1 r e1 k1 => ?_⟩
  obtain ⟨d, e3, rfl⟩ := lift_eq e1
  cases x <;> simp only [joinD] at e3 <;> try cases e3
  obtain ⟨ys, e4, e5⟩ := Option.bind_eq_some_iff.mp e3
  split at e5 <;> cases e5
  rename_i hj
  obtain ⟨w, xs, rfl, h1, h2, h3⟩ := rep_lst.mp r
  rw [h3.strs e4] at h1
  exact ⟨z, w, ys, rfl, rfl, .inl (SqL.of h1), Nat.le_trans (of_decide_eq_true hj) (by decide), k1.ext a1.S _ _ Ext.refl (rep_str.mpr rfl)⟩
end
end Cw
/-! 8. isinstance, calls of defs, pop, what is walked, comprehensions. -/
namespace Cw
open PySem PySem.Spec PyProof.Rows L2
def tyName : Ty → String
  | .int => "int" | .bool => "bool" | .str => "str" | .tuple => "tuple" | .list => "list"
def tyOfD : D → String
  | .non => "NoneType" | .bl _ => "bool" | .int _ => "int" | .str _ => "str" | .tup _ => "tuple" | .lst _ => "list" | .scr _ => "list"
theorem kit_isTy (t : Ty) (d : D) : kitB (tyOfD d) (tyName t) = some (isTy t d) := by
  cases t <;> cases d <;> simp only [tyOfD, tyName, isTy] <;> decide +kernel
theorem tyx_of {K : Fg} {Z : List Addr} {H : Hp} {d : D} {v : V} (h : Rep K Z H d v) : TyX K H v (.type (tyOfD d)) := by
  cases d with
  | non => rw [rep_non.mp h]; exact .base .non
  | bl b => rw [rep_bl.mp h]; exact .base (.bl b)
  | int b => rw [rep_int.mp h]; exact .base (.int b)
  | str b => rw [rep_str.mp h]; exact .base (.str b)
  | tup ds => obtain ⟨a, xs, rfl, h1, _⟩ := rep_tup.mp h; exact .base (.tup h1)
  | lst ds => obtain ⟨a, xs, rfl, h1, _⟩ := rep_lst.mp h; exact .base (.lst h1)
  | scr ns =>
    rw [Rep] at h
    obtain ⟨a, rfl, h | h⟩ := h
    · rcases h.1 with q | ⟨o, q⟩
      · exact .base (.lst q)
      · exact .base (.frz q)
    · obtain ⟨o, its, n, h1, h2, _⟩ := h
      exact .kList h1 h2
section
variable {X : Cx} {p : Pl} {a b c : Expr} {pos : Pos} {fa fb fc : Env → Store → Out D} {fA fB : Env → Store → Out W}
theorem n_isi {x y : Str} {t : Ty} {p0 p1 : Pos} (hx : x = "isinstance") (hy : y = Str.ofString (tyName t)) (ha : PE X a (tE X p fa)) (hg : Gl X x) (hm : X.mg x = none) (hgy : Gl X y) (hmy : X.mg y = none)
    (hna : starEach [a, .Name y p1] X.env = (false, eval a X.env) :: starEach [.Name y p1] X.env) :
    PE X (.Call (.Name x p0) [a, .Name y p1] [] pos) (tE X p fun env st => bnd (fa env st) fun x s => ret (.bl (isTy t x)) s) := by
  subst hx
  have hT : PE X (.Name y p1) (tC (.ty (tyName t))) := by
    refine pe_bltn hgy hmy (v := .ty (tyName t)) (u := .type (tyName t)) ?_ rfl ?_ ?_
    · subst hy; cases t <;> decide +kernel
    · subst hy; cases t <;> decide +kernel
    · subst hy; cases t <;> decide +kernel
  refine PE.less (pe_callB call_isi hg hm (by decide +kernel) (pa_two ha hT hna rfl) (by decide) (by decide) hna rfl) fun σ H Q h => ?_
  obtain ⟨R, M, env, st, o, a, e, k⟩ := h
  refine tG_seq a e k fun x b s1 H1 M1 _ g a1 r e1 k1 => ?_
  obtain rfl := ret_eq e1
  exact ⟨b, .ty (tyName t), _, _, _, rfl, .ty _, tyx_of r, kit_ty (kit_isTy t x), k1.ext a1.S _ _ Ext.refl (rep_bl.mpr rfl)⟩
/-! ### calls -/
def RepWs (K : Fg) (M Z : List Addr) (H : Hp) : List W → List V → Prop
  | [], xs => xs = []
  | w :: ws, xs => ∃ x r, xs = x :: r ∧ RepW K none M Z H w x ∧ RepWs K M Z H ws r
abbrev rWs (K : Fg) : RepT (List W) (List V) := fun M Z H d v => RepWs K M Z H d v
theorem RepWs.length {K : Fg} {M Z : List Addr} {H : Hp} : ∀ {ws : List W} {xs : List V}, RepWs K M Z H ws xs → xs.length = ws.length
  | [], _, h => by
    have e : _ = [] := h
    subst e; rfl
  | w :: ws, _, h => by
    obtain ⟨x, r, rfl, _, h2⟩ := h
    simp [RepWs.length h2]
/-- what a def promises: what g says of the arguments' data and the store -/
def spD (K : Fg) (adr : Nat → Addr) (np : Nat) (g : List W → Store → Out W) : Sp := fun vs H Q E => vs.length = np ∧ ∃ R M ws st o, RelS K R H M st ∧ RepWs K M (M ++ R) H ws vs ∧ g ws st = some o ∧ (match o with
  | (.val w, s) => ∀ v H' M', Grow H M H' M' → RelS K R H' M' s → RepW K none M' (M' ++ R) H' w v → Q v H'
  | (.exc c, s) => ∀ H' M', Grow H M H' M' → RelS K R H' M' s → E (.ref (adr c)) none H')
theorem Grow.shrink {H H' : Hp} {M M' : List Addr} (g : Grow H M H' M') : Grow H M H' M := ⟨⟨[], by simp⟩, g.keep, fun a h => .inl h⟩
theorem frz_cell {K : Fg} {R : List Addr} {H' : Hp} {M t : List Addr} {s : Store} {k : Nat} {ds : List D} {a : Addr} (S : RelS K R H' (M ++ t) s) (hk : M.length ≤ k) (hc : s[k]? = some (.lst ds)) (ha : (M ++ t)[k]? = some a) : Rep K (M ++ R) H' (.lst ds) (.ref a) := by
  obtain ⟨xs, h1, h2⟩ := S.cells k _ a hc ha
  refine rep_lst.mpr ⟨a, xs, rfl, h1, fun z => ?_, reps_less (fun b hb => ?_) h2⟩
  · have ht : a ∈ t := by
      rw [List.getElem?_append_right hk] at ha
      exact List.mem_of_getElem? ha
    rcases List.mem_append.mp z with y | y
    · exact (List.nodup_append.mp S.nd).2.2 a y a ht rfl
    · exact S.dis a (List.mem_append_right _ ht) y
  · rcases List.mem_append.mp hb with y | y
    · exact List.mem_append_left _ (List.mem_append_left _ y)
    · exact List.mem_append_right _ y
theorem frz_rep {K : Fg} {R : List Addr} {H' : Hp} {M t : List Addr} {s : Store} {w : W} {d : D} {v : V} (S : RelS K R H' (M ++ t) s) (e : freeze M.length s w = some d) (r : RepW K none (M ++ t) (M ++ t ++ R) H' w v) : Rep K (M ++ R) H' d v := by
  have less : ∀ b, b ∈ M ++ R → b ∈ M ++ t ++ R := fun b hb => by
    rcases List.mem_append.mp hb with y | y
    · exact List.mem_append_left _ (List.mem_append_left _ y)
    · exact List.mem_append_right _ y
  cases w with
  | d x => cases e; exact rep_less less r
  | r k =>
    simp only [freeze] at e
    split at e
    · rename_i hk
      split at e <;> cases e
      rename_i ds hc
      obtain ⟨a, ha, rfl⟩ := r
      exact frz_cell S hk hc ha
    · cases e
  | exc c => cases e
  | rt ks =>
    simp only [freeze, Option.map_eq_some_iff] at e
    obtain ⟨ds, e, rfl⟩ := e
    obtain ⟨a, as, rfl, h1, h2, h3⟩ := r
    refine rep_tup.mpr ⟨a, _, rfl, h1, fun z => h2 (less a z), ?_⟩
    clear h1
    induction ks generalizing ds as with
    | nil =>
      simp only [List.mapM_nil] at e
      cases e
      have : as = [] := by simpa using h3
      subst this
      exact .nil
    | cons k ks ih =>
      cases as with
      | nil => simp at h3
      | cons b bs =>
        simp only [List.map_cons, List.cons.injEq] at h3
        simp only [List.mapM_cons] at e
        obtain ⟨d0, e0, e⟩ := Option.bind_eq_some_iff.mp e
        obtain ⟨ds', e1, e⟩ := Option.bind_eq_some_iff.mp e
        cases e
        have q : M.length ≤ k ∧ ∃ es, s[k]? = some (.lst es) ∧ d0 = .lst es := by
          by_cases hk : M.length ≤ k
          · rw [if_pos hk] at e0
            cases hc : s[k]? with
            | none => rw [hc] at e0; cases e0
            | some c =>
              rw [hc] at e0
              cases c with
              | lst es => cases e0; exact ⟨hk, es, rfl, rfl⟩
              | dct kv => cases e0
          · rw [if_neg hk] at e0; cases e0
        obtain ⟨hk, es, hc, rfl⟩ := q
        exact .cons (frz_cell S hk hc h3.1) (ih ds' e1 bs h3.2)
abbrev tWs (X : Cx) (p : Pl) (f : Env → Store → Out (List W)) : TA := tG X.K p.xa p.adr p.W' (rWs X.K) f
theorem as_nil : PA X [] (tWs X p fun _ st => ret [] st) := by
  refine PA.less pa_nil fun σ H Q h => ?_
  obtain ⟨R, M, env, st, o, a, e, k⟩ := h
  obtain rfl := ret_eq e
  exact k.ext a.S [] H Ext.refl rfl
/-- an operand that is no exception -/
abbrev tVn (X : Cx) (p : Pl) (f : Env → Store → Out W) : TE := tG X.K p.xa p.adr p.W' (rW X.K none) f
theorem Grow.repWn {K : Fg} {xa : XA} {R : List Addr} {H H' : Hp} {M M' : List Addr} (g : Grow H M H' M') {w : W} {v : V} (r : RepW K xa M (M ++ R) H w v) : RepW K xa M' (M' ++ R) H' w v := g.repW r
theorem Grow.repWs {K : Fg} {R : List Addr} {H H' : Hp} {M M' : List Addr} (g : Grow H M H' M') : ∀ {ws : List W} {vs : List V}, RepWs K M (M ++ R) H ws vs → RepWs K M' (M' ++ R) H' ws vs
  | [], _, h => h
  | w :: ws, _, h => by
    obtain ⟨x, r, e, h1, h2⟩ := h
    exact ⟨x, r, e, g.repW h1, g.repWs h2⟩
theorem as_cons {es : List Expr} {fs : Env → Store → Out (List W)} (ha : PE X a (tVn X p fA)) (hr : PA X es (tWs X p fs)) (hs : starEach (a :: es) X.env = (false, eval a X.env) :: starEach es X.env) :
    PA X (a :: es) (tWs X p fun env st => bnd (fA env st) fun x s => bnd (fs env s) fun xs s => ret (x :: xs) s) := by
  refine PA.less (pa_cons ha hr hs) fun σ H Q h => ?_
  obtain ⟨R, M, env, st, o, a, e, k⟩ := h
  refine tG_seq a e k fun x b s1 H1 M1 _ g a1 r e1 k1 => ?_
  refine tG_seq a1 e1 k1 fun xs bs s2 H2 M2 _ g2 a2 r2 e2 k2 => ?_
  obtain rfl := ret_eq e2
  exact k2.ext a2.S _ H2 Ext.refl ⟨_, _, rfl, g2.repWn r, r2⟩
theorem n_varN {i : Nat} {x : Str} (hN : X.N[i]? = some x) (hv : Vis X.env.scope x) (hd : (x == ("__debug__" : Str)) = false) (hcd : (x == ("__classdict__" : Str)) = false) : PE X (.Name x pos) (tVn X p fun env st => lift (slotA env i) st) := by
  refine PE.less (pe_var hN hv hd hcd) fun σ H Q h => ?_
  obtain ⟨R, M, env, st, o, a, e, k⟩ := h
  obtain ⟨d, e2, rfl⟩ := lift_eq e
  have e3 : slot env i = some d ∧ ∀ c, d ≠ .exc c := by
    unfold slotA at e2
    split at e2
    · cases e2
    · rename_i h
      exact ⟨e2, fun c z => h c (by rw [e2, z])⟩
  obtain ⟨v, e1, r⟩ := a.E i _ e3.1
  refine ⟨v, e1, k.ext a.S v H Ext.refl ?_⟩
  cases d with
  | exc c => exact absurd rfl (e3.2 c)
  | d x => exact r
  | r n => exact r
  | rt ns => exact r
theorem n_opdN (h : PE X a (tE X p fa)) : PE X a (tVn X p fun env st => bnd (fa env st) fun x s => ret (.d x) s) := by
  refine PE.less h fun σ H Q h => ?_
  obtain ⟨R, M, env, st, o, a, e, k⟩ := h
  cases q : fa env st with
  | none => simp only [q, bnd] at e; cases e
  | some w =>
    obtain ⟨w, s⟩ := w
    refine ⟨R, M, env, st, _, a, q, ?_⟩
    cases w with
    | val x =>
      simp only [q, bnd, ret, Option.some.injEq] at e
      subst e
      exact fun b H' M' g S r => k b H' M' g S r
    | exc n =>
      simp only [q, bnd, Option.some.injEq] at e
      subst e
      exact k
/-- f(..) and its answer as an operand -/
theorem n_callW {x : Str} {p0 : Pos} {es : List Expr} {e : Expr} {fs : Env → Store → Out (List W)} {g : List W → Store → Out W} {k : Nat} {f : Addr} {fd : FuncData} {ps : List Str} {np : Nat}
    (F : FnOk X.prog X.w X.K X.mg X.base (L2.CX X.prog X.w) k f fd ps (spD X.K p.adr np g)) (hr : Room k X.A) (hg : Gl X x) (hm : X.mg x = some (.ref f)) (hk : PySem.W.keepIn X.K (.ref f) = true) (hb : Binds X.K fd ps [])
    (tk : Takes X p.W') (ha : PA X (e :: es) (tWs X p fs)) (hl : ps.length = np) (hn : (e :: es).length = np) (hes : ∀ env st ws s, fs env st = some (.val ws, s) → ws.length = np) (hdb : (x == ("__debug__" : Str)) = false) (he : starEach (e :: es) X.env = (false, eval e X.env) :: starEach es X.env) (hpl : (backTo pos (starEach es X.env)).any (·.1) = false) :
    PE X (.Call (.Name x p0) (e :: es) [] pos) (tVn X p fun env st => bnd (fs env st) fun ws s => g ws s) := by
  refine PE.less (pe_callS F hr hg hm hk hb (fun σ => passAt tk σ) ha hdb he hpl) fun σ H Q h => ?_
  obtain ⟨R, M, env, st, o, a, e, k⟩ := h
  refine tG_seq a e k fun ws vs s1 H1 M1 q1 g1 a1 r e1 k1 => ?_
  refine ⟨by rw [r.length]; exact hes _ _ _ _ q1, R, M1, ws, s1, o, a1.S, r, e1, ?_⟩
  obtain ⟨o, s2⟩ := o
  cases o with
  | val w => exact fun v H' M' g' S' r' => k1 v H' M' g' S' r'
  | exc c => exact fun H' M' g' S' => k1 H' M' g' S'
theorem n_call {f : Env → Store → Out W} (h : PE X a (tVn X p f)) : PE X a (tE X p fun env st => frzO st.length (f env st)) := by
  refine PE.less h fun σ H Q h => ?_
  obtain ⟨R, M, env, st, o, a, e, k⟩ := h
  cases q : f env st with
  | none => simp only [q, frzO] at e; cases e
  | some w =>
    obtain ⟨w, s⟩ := w
    refine ⟨R, M, env, st, _, a, q, ?_⟩
    cases w with
    | exc c =>
      simp only [q, frzO, Option.some.injEq] at e
      subst e
      exact k
    | val w =>
      simp only [q, frzO] at e
      obtain ⟨d, e2, rfl⟩ := lift_eq e
      intro v H' M' g S r
      obtain ⟨t, rfl⟩ := g.pre
      rw [a.S.len] at e2 k
      exact k v H' M g.shrink S.drop (frz_rep S e2 r)
/-! ### what is walked -/
/-- J walks what src tells, from where (H, M) stands on -/
def SrcOk (K : Fg) (M Z : List Addr) (H : Hp) (src : Src) (J : It) : Prop := ∀ (R' : List Addr) (H' : Hp) (M' : List Addr) (st' : Store), Grow H M H' M' → (∀ a, a ∈ M' ++ R' → a ∈ Z ∨ H a = none) → RelS K R' H' M' st' → ∀ j,
  (∀ d, src j st' = some (some d) → J.go j H' ∧ ∀ x H'', J.yld j H' x H'' → Ext H' H'' ∧ Rep K (M' ++ R') H'' d x) ∧ (src j st' = some none → J.stop j H')
abbrev rSrc (K : Fg) : RepT Src It := fun M Z H s J => SrcOk K M Z H s J
abbrev tS (X : Cx) (p : Pl) (f : Env → Store → Out Src) : TI := tG X.K p.xa p.adr p.W' (rSrc X.K) f
theorem PI.less {X : Cx} {tg e : Expr} {t t' : TI} (h : PI X tg e t) (w : ∀ σ H Q, t' σ H Q → t σ H Q) : PI X tg e t' := ⟨fun pins s σ H R I q => h.run pins s σ H R I (w σ H R q)⟩
theorem stat_some {ds : List D} {st : Store} {j : Nat} {d : D} (h : stat ds j st = some (some d)) : ds[j]? = some d := by
  unfold stat at h
  split at h
  · exact Option.some.inj h
  · cases h
theorem stat_none {ds : List D} {st : Store} {j : Nat} (h : stat ds j st = some none) : j = ds.length := by
  unfold stat at h
  split at h
  · rename_i hl
    have := List.getElem?_eq_none_iff.mp (Option.some.inj h)
    omega
  · cases h
theorem cell_some {n : Nat} {st : Store} {j : Nat} {o : Option D} (h : cellS n j st = some o) : ∃ ds, st[n]? = some (.lst ds) ∧ stat ds j st = some o := by
  unfold cellS at h
  split at h
  · rename_i ds hc
    exact ⟨ds, hc, h⟩
  · cases h
/-- a list or tuple that is read: what stands there whenever it is asked -/
def SeqOk (K : Fg) (M Z : List Addr) (H : Hp) (src : Src) (b : Bool) (a : Addr) : Prop := ∀ (R' : List Addr) (H' : Hp) (M' : List Addr) (st' : Store), Grow H M H' M' → (∀ a, a ∈ M' ++ R' → a ∈ Z ∨ H a = none) → RelS K R' H' M' st' → ∀ j o, src j st' = some o →
  ∃ ds xs, H' a = some (if b = true then .tup xs else .lst xs) ∧ Reps K (M' ++ R') H' ds xs ∧ stat ds j st' = some o
theorem seqW_ok {K : Fg} {xa : XA} {R M : List Addr} {H : Hp} {st : Store} {w : W} {v : V} {src : Src} (S : RelS K R H M st) (r : RepW K xa M (M ++ R) H w v) (e : seqW w = some src) : ∃ b a xs, v = .ref a ∧ SqB b K H a xs ∧ SeqOk K M (M ++ R) H src b a := by
  unfold seqW at e
  split at e
  · rename_i ds
    cases e
    obtain ⟨a, xs, rfl, h1, h2, h3⟩ := rep_lst.mp r
    refine ⟨false, a, xs, rfl, SqL.of h1, fun R' H' M' st' g hz S' j o ho => ⟨ds, xs, ?_, ?_, ho⟩⟩
    · exact g.keep a _ h1 fun z => h2 (List.mem_append_left _ z)
    · exact h3.mono (fun b u q hb => g.keep b u q fun z => hb (List.mem_append_left _ z)) hz
  · rename_i ds
    cases e
    obtain ⟨a, xs, rfl, h1, h2, h3⟩ := rep_tup.mp r
    refine ⟨true, a, xs, rfl, SqT.of h1, fun R' H' M' st' g hz S' j o ho => ⟨ds, xs, ?_, ?_, ho⟩⟩
    · exact g.keep a _ h1 fun z => h2 (List.mem_append_left _ z)
    · exact h3.mono (fun b u q hb => g.keep b u q fun z => hb (List.mem_append_left _ z)) hz
  · rename_i n
    cases e
    obtain ⟨a, ha, rfl⟩ := r
    have hn : n < st.length := by rw [S.len]; exact (List.getElem?_eq_some_iff.mp ha).1
    cases hc : st[n]? with
    | none => simp at hc; omega
    | some c =>
      cases c with
      | dct kv => exact (S.cells n _ a hc ha).elim
      | lst ds =>
        obtain ⟨xs, h1, _⟩ := S.cells n _ a hc ha
        refine ⟨false, a, xs, rfl, SqL.of h1, fun R' H' M' st' g hz S' j o ho => ?_⟩
        obtain ⟨ds', hc', ho'⟩ := cell_some ho
        obtain ⟨t, et⟩ := g.pre
        obtain ⟨xs', h1', h3'⟩ := S'.cells n _ a hc' (pre_get et ha)
        exact ⟨ds', xs', h1', h3', ho'⟩
  · cases e
theorem sq_of_at {K : Fg} {H : Hp} {b : Bool} {a : Addr} {xs : List V} (h : H a = some (if b = true then .tup xs else .lst xs)) : SqB b K H a xs := by
  cases b with
  | true => exact SqT.of h
  | false => exact SqL.of h
theorem SeqOk.any {K : Fg} {M Z : List Addr} {H : Hp} {src : Src} {b : Bool} {a : Addr} (h : SeqOk K M Z H src b a) : SrcOk K M Z H src (if b = true then Itt K a else Itl K a) := by
  intro R' H' M' st' g hz S' j
  cases b with
  | true =>
    refine ⟨fun d hd => ?_, fun hd => ?_⟩
    · obtain ⟨ds, xs, h1, h2, h3⟩ := h R' H' M' st' g hz S' j _ hd
      obtain ⟨x, e1, r⟩ := h2.get (stat_some h3)
      refine ⟨⟨xs, x, SqT.of h1, e1⟩, fun y H'' hy => ?_⟩
      obtain ⟨rfl, hy⟩ := hy
      have := hy xs (SqT.of h1)
      rw [e1] at this; cases this
      exact ⟨Ext.refl, r⟩
    · obtain ⟨ds, xs, h1, h2, h3⟩ := h R' H' M' st' g hz S' j _ hd
      exact ⟨xs, SqT.of h1, by rw [h2.length, stat_none h3]; exact Nat.le_refl _⟩
  | false =>
    refine ⟨fun d hd => ?_, fun hd => ?_⟩
    · obtain ⟨ds, xs, h1, h2, h3⟩ := h R' H' M' st' g hz S' j _ hd
      obtain ⟨x, e1, r⟩ := h2.get (stat_some h3)
      refine ⟨⟨xs, x, SqL.of h1, e1⟩, fun y H'' hy => ?_⟩
      obtain ⟨rfl, hy⟩ := hy
      have := hy xs (SqL.of h1)
      rw [e1] at this; cases this
      exact ⟨Ext.refl, r⟩
    · obtain ⟨ds, xs, h1, h2, h3⟩ := h R' H' M' st' g hz S' j _ hd
      exact ⟨xs, SqL.of h1, by rw [h2.length, stat_none h3]; exact Nat.le_refl _⟩
theorem str_ok {K : Fg} {M Z : List Addr} {H : Hp} {z : Str} : SrcOk K M Z H (stat (z.cps.toList.map fun c => .str ⟨#[c]⟩)) (Its z) := by
  intro R' H' M' st' g hz S' j
  refine ⟨fun d hd => ?_, fun hd => ?_⟩
  · have e := stat_some hd
    rw [List.getElem?_map] at e
    obtain ⟨c, e1, rfl⟩ := Option.map_eq_some_iff.mp e
    have e2 : z.cps[j]? = some c := by simpa using e1
    refine ⟨(Array.getElem?_eq_some_iff.mp e2).1, fun x H'' hy => ?_⟩
    obtain ⟨rfl, c', e3, rfl⟩ := hy
    rw [e2] at e3; cases e3
    exact ⟨Ext.refl, rep_str.mpr rfl⟩
  · have e := stat_none hd
    show z.cps.size ≤ j
    rw [e]; simp
theorem i_of {tg : Expr} (ha : PE X a (tV X p fA)) : PI X tg a (tS X p fun env st => bnd (fA env st) fun w s => lift (srcW w) s) := by
  refine PI.less (pi_any ha) fun σ H Q h => ?_
  obtain ⟨R, M, env, st, o, a, e, k⟩ := h
  refine tG_seq a e k fun x b s1 H1 M1 _ g a1 r e1 k1 => ?_
  obtain ⟨src, e2, rfl⟩ := lift_eq e1
  have kk := fun J => k1.ext a1.S J H1 Ext.refl
  have seq : seqW x = some src → (∃ a xs, b = .ref a ∧ SqL X.K H1 a xs ∧ Q (Itl X.K a) H1) ∨ (∃ a xs, b = .ref a ∧ SqT X.K H1 a xs ∧ Q (Itt X.K a) H1) ∨ (∃ z, b = .str z ∧ Q (Its z) H1) := fun e3 => by
    obtain ⟨t, a0, xs, rfl, h1, h2⟩ := seqW_ok a1.S r e3
    cases t with
    | true => exact .inr (.inl ⟨a0, xs, rfl, h1, kk _ h2.any⟩)
    | false => exact .inl ⟨a0, xs, rfl, h1, kk _ h2.any⟩
  unfold srcW at e2
  split at e2
  · cases e2
    have rz : Rep X.K (M1 ++ R) H1 (.str _) b := r
    exact .inr (.inr ⟨_, rep_str.mp rz, kk _ str_ok⟩)
  · exact seq e2
theorem rng_ok {K : Fg} {M Z : List Addr} {H : Hp} {lo hi : Int} : SrcOk K M Z H (rngS lo hi) (ItrG lo (hi - lo).toNat) := by
  intro R' H' M' st' g hz S' j
  refine ⟨fun d hd => ?_, fun hd => ?_⟩
  · unfold rngS at hd
    split at hd
    · split at hd
      · rename_i hl
        cases hd
        refine ⟨hl, fun x H'' hy => ?_⟩
        obtain ⟨rfl, rfl⟩ := hy
        exact ⟨Ext.refl, rep_int.mpr rfl⟩
      · cases hd
    · cases hd
  · unfold rngS at hd
    show j = (hi - lo).toNat
    split at hd
    · split at hd
      · cases hd
      · omega
    · cases hd
theorem i_rng1 {tg : Expr} {x : Str} {p0 : Pos} (hx : x = "range") (ha : PE X a (tE X p fa)) (hg : Gl X x) (hm : X.mg x = none) (hna : starEach [a] X.env = [(false, eval a X.env)]) :
    PI X tg (.Call (.Name x p0) [a] [] pos) (tS X p fun env st => bnd (bnd (fa env st) asI) fun i s => ret (rngS 0 i) s) := by
  subst hx
  refine PI.less (pi_range1G hg hm (pa_one ha hna) hna) fun σ H Q h => ?_
  obtain ⟨R, M, env, st, o, a, e, k⟩ := h
  dsimp only at e
  rw [bnd_assoc] at e
  refine tG_seq a e k fun x b s1 H1 M1 _ g a1 r e1 k1 => ?_
  obtain ⟨i, s2, e2, e3⟩ : ∃ i s2, asI x s1 = some (.val i, s2) ∧ o = (.val (rngS 0 i), s2) := by
    cases x <;> simp only [asI, bnd, ret] at e1 <;> try cases e1
    exact ⟨_, _, rfl, rfl⟩
  obtain ⟨i', rfl, e4⟩ := asI_eq e2
  cases e4
  subst e3
  exact ⟨i, by rw [rep_int.mp r], k1.ext a1.S _ H1 Ext.refl rng_ok⟩
theorem i_rng2 {tg : Expr} {x : Str} {p0 : Pos} (hx : x = "range") (ha : PE X a (tE X p fa)) (hb : PE X b (tE X p fb)) (hg : Gl X x) (hm : X.mg x = none) (hna : starEach [a, b] X.env = (false, eval a X.env) :: starEach [b] X.env) (hnb : starEach [b] X.env = [(false, eval b X.env)]) :
    PI X tg (.Call (.Name x p0) [a, b] [] pos) (tS X p fun env st => bnd (bnd (fa env st) asI) fun i s => bnd (bnd (fb env s) asI) fun j s => ret (rngS i j) s) := by
  subst hx
  refine PI.less (pi_range2G hg hm (pa_two ha hb hna hnb) (by rw [hna, hnb]) hnb) fun σ H Q h => ?_
  obtain ⟨R, M, env, st, o, a, e, k⟩ := h
  dsimp only at e
  rw [bnd_assoc] at e
  refine tG_seq a e k fun x b s1 H1 M1 _ g a1 r e1 k1 => ?_
  have h1 : ∃ i, x = .int i ∧ bnd (bnd (fb env s1) asI) (fun j s => ret (rngS i j) s) = some o := by
    cases x with
    | int i => exact ⟨i, rfl, e1⟩
    | _ => cases e1
  obtain ⟨i, rfl, e2⟩ := h1
  rw [bnd_assoc] at e2
  refine tG_seq a1 e2 k1 fun y bs s2 H2 M2 _ g2 a2 r2 e3 k2 => ?_
  have h2 : ∃ j, y = .int j ∧ o = (.val (rngS i j), s2) := by
    cases y with
    | int j => exact ⟨j, rfl, (ret_eq e3)⟩
    | _ => cases e3
  obtain ⟨j, rfl, rfl⟩ := h2
  exact ⟨i, j, by rw [rep_int.mp r, rep_int.mp r2], k2.ext a2.S _ H2 Ext.refl rng_ok⟩
theorem zip_ok {K : Fg} {M Z : List Addr} {H : Hp} {s1 s2 : Src} {b1 b2 : Bool} {a1 a2 : Addr} (h1 : SeqOk K M Z H s1 b1 a1) (h2 : SeqOk K M Z H s2 b2 a2) : SrcOk K M Z H (zipS s1 s2) (ItzG K b1 b2 a1 a2) := by
  intro R' H' M' st' g hz S' j
  refine ⟨fun d hd => ?_, fun hd => ?_⟩
  · unfold zipS at hd
    split at hd <;> cases hd
    rename_i x y e1 e2
    obtain ⟨ds, xs, p1, p2, p3⟩ := h1 R' H' M' st' g hz S' j _ e1
    obtain ⟨es, ys, q1, q2, q3⟩ := h2 R' H' M' st' g hz S' j _ e2
    obtain ⟨u, u1, ru⟩ := p2.get (stat_some p3)
    obtain ⟨v, v1, rv⟩ := q2.get (stat_some q3)
    refine ⟨⟨xs, ys, u, v, sq_of_at p1, sq_of_at q1, u1, v1⟩, fun w H'' hy => ?_⟩
    obtain ⟨T, u', v', rfl, hT, rfl, k1, k2⟩ := hy
    have z1 := k1 xs (sq_of_at p1)
    have z2 := k2 ys (sq_of_at q1)
    rw [u1] at z1; cases z1
    rw [v1] at z2; cases z2
    exact ⟨Ext.new hT, rep_newT S' hT (.cons ru (.cons rv .nil))⟩
  · unfold zipS at hd
    split at hd <;> cases hd
    · rename_i o e1 e2
      obtain ⟨ds, xs, p1, p2, p3⟩ := h1 R' H' M' st' g hz S' j _ e1
      obtain ⟨es, ys, q1, q2, q3⟩ := h2 R' H' M' st' g hz S' j _ e2
      have l1 := stat_none p3
      have l2 : j ≤ es.length := by
        unfold stat at q3
        split at q3
        · assumption
        · cases q3
      exact ⟨xs, ys, sq_of_at p1, sq_of_at q1, by rw [p2.length]; omega, by rw [q2.length]; omega, .inl (by rw [p2.length]; omega)⟩
    · rename_i x e1 e2
      obtain ⟨ds, xs, p1, p2, p3⟩ := h1 R' H' M' st' g hz S' j _ e1
      obtain ⟨es, ys, q1, q2, q3⟩ := h2 R' H' M' st' g hz S' j _ e2
      have l1 := (List.getElem?_eq_some_iff.mp (stat_some p3)).1
      have l2 := stat_none q3
      exact ⟨xs, ys, sq_of_at p1, sq_of_at q1, by rw [p2.length]; omega, by rw [q2.length]; omega, .inr (by rw [q2.length]; omega)⟩
theorem SeqOk.grow {K : Fg} {R M M' : List Addr} {H H' : Hp} {src : Src} {b : Bool} {a : Addr} (g : Grow H M H' M') (h : SeqOk K M (M ++ R) H src b a) : SeqOk K M' (M' ++ R) H' src b a := by
  intro R2 H2 M2 st2 g2 hz S2 j o ho
  refine h R2 H2 M2 st2 (g.trans g2) (fun c hc => ?_) S2 j o ho
  rcases hz c hc with z | z
  · rcases List.mem_append.mp z with y | y
    · rcases g.new c y with q | q
      · exact .inl (List.mem_append_left _ q)
      · exact .inr q
    · exact .inl (List.mem_append_right _ y)
  · by_cases hm : c ∈ M
    · exact .inl (List.mem_append_left _ hm)
    · refine .inr ?_
      cases q : H c with
      | none => rfl
      | some u => rw [g.keep c u q hm] at z; cases z
theorem i_zip {elts : List Expr} {kk : Nat} {tpos : Pos} {x : Str} {p0 : Pos} (hx : x = "zip") (ha : PE X a (tV X p fA)) (hb : PE X b (tV X p fB)) (hg : Gl X x) (hm : X.mg x = none) (hna : starEach [a, b] X.env = (false, eval a X.env) :: starEach [b] X.env) (hnb : starEach [b] X.env = [(false, eval b X.env)]) :
    PI X (.Tuple elts kk tpos) (.Call (.Name x p0) [a, b] [] pos) (tS X p fun env st => bnd (fA env st) fun x s => bnd (fB env s) fun y s => lift ((seqW x).bind fun d => (seqW y).map fun e => zipS d e) s) := by
  subst hx
  refine PI.less (pi_zipG hg hm (pa_two ha hb hna hnb) hna (by rw [hnb]; rfl)) fun σ H Q h => ?_
  obtain ⟨R, M, env, st, o, a, e, k⟩ := h
  refine tG_seq a e k fun x b s1 H1 M1 _ g a1 r e1 k1 => ?_
  refine tG_seq a1 e1 k1 fun y bs s2 H2 M2 _ g2 a2 r2 e2 k2 => ?_
  obtain ⟨src, e3, rfl⟩ := lift_eq e2
  obtain ⟨s1', q1, q2⟩ := Option.bind_eq_some_iff.mp e3
  obtain ⟨s2', q3, rfl⟩ := Option.map_eq_some_iff.mp q2
  obtain ⟨t1, w1, xs, rfl, m1, n1⟩ := seqW_ok a2.S (g2.repW r) q1
  obtain ⟨t2, w2, ys, rfl, m2, n2⟩ := seqW_ok a2.S r2 q3
  exact ⟨t1, t2, w1, w2, xs, ys, rfl, m1, m2, k2.ext a2.S _ H2 Ext.refl (zip_ok n1 n2)⟩
theorem enm_ok {K : Fg} {M Z : List Addr} {H : Hp} {s1 : Src} {b1 : Bool} {a1 : Addr} (h1 : SeqOk K M Z H s1 b1 a1) : SrcOk K M Z H (enmS s1) (IteG K b1 a1) := by
  intro R' H' M' st' g hz S' j
  refine ⟨fun d hd => ?_, fun hd => ?_⟩
  · unfold enmS at hd
    split at hd <;> cases hd
    rename_i x e1
    obtain ⟨ds, xs, p1, p2, p3⟩ := h1 R' H' M' st' g hz S' j _ e1
    obtain ⟨u, u1, ru⟩ := p2.get (stat_some p3)
    refine ⟨⟨xs, u, sq_of_at p1, u1⟩, fun w H'' hy => ?_⟩
    obtain ⟨T, u', rfl, hT, rfl, k1⟩ := hy
    have z1 := k1 xs (sq_of_at p1)
    rw [u1] at z1; cases z1
    exact ⟨Ext.new hT, rep_newT S' hT (.cons (rep_int.mpr rfl) (.cons ru .nil))⟩
  · unfold enmS at hd
    split at hd <;> cases hd
    rename_i e1
    obtain ⟨ds, xs, p1, p2, p3⟩ := h1 R' H' M' st' g hz S' j _ e1
    exact ⟨xs, sq_of_at p1, by rw [p2.length, stat_none p3]⟩
theorem i_enm {elts : List Expr} {kk : Nat} {tpos : Pos} {x : Str} {p0 : Pos} (hx : x = "enumerate") (ha : PE X a (tV X p fA)) (hg : Gl X x) (hm : X.mg x = none) (hna : starEach [a] X.env = [(false, eval a X.env)]) :
    PI X (.Tuple elts kk tpos) (.Call (.Name x p0) [a] [] pos) (tS X p fun env st => bnd (fA env st) fun w s => lift ((seqW w).map enmS) s) := by
  subst hx
  refine PI.less (pi_enumG hg hm (pa_one ha hna) hna) fun σ H Q h => ?_
  obtain ⟨R, M, env, st, o, a, e, k⟩ := h
  refine tG_seq a e k fun x b s1 H1 M1 _ g a1 r e1 k1 => ?_
  obtain ⟨src, e3, rfl⟩ := lift_eq e1
  obtain ⟨s1', q1, rfl⟩ := Option.map_eq_some_iff.mp e3
  obtain ⟨t1, w1, xs, rfl, m1, n1⟩ := seqW_ok a1.S r q1
  exact ⟨t1, w1, xs, rfl, m1, k1.ext a1.S _ H1 Ext.refl (enm_ok n1)⟩
end
end Cw
/-! 9. pop, targets, comprehensions. -/
namespace Cw
open PySem PySem.Spec PyProof.Rows L2
section
variable {X : Cx} {p : Pl} {a b c : Expr} {pos : Pos} {fa fb fc : Env → Store → Out D} {fA fB : Env → Store → Out W}
/-- a cell's list: what a name that holds it reads, and how it is written -/
theorem cell_of {K : Fg} {xa : XA} {R M : List Addr} {σ : L2.St} {H : Hp} {env : Env} {st : Store} {i n : Nat} {w : W} (A : At K xa R σ H M env st) (e : slot env i = some (.r n)) : ∃ ad ds xs, σ[i]? = some (some (.ref ad)) ∧ M[n]? = some ad ∧ st[n]? = some (.lst ds) ∧ H ad = some (.lst xs) ∧ Reps K (M ++ R) H ds xs := by
  obtain ⟨v, h1, ad, h2, rfl⟩ := A.E i _ e
  have hn : n < st.length := by rw [A.S.len]; exact (List.getElem?_eq_some_iff.mp h2).1
  cases hc : st[n]? with
  | none => simp at hc; omega
  | some c =>
    cases c with
    | dct kv => exact (A.S.cells n _ ad hc h2).elim
    | lst ds =>
      obtain ⟨xs, h3, h4⟩ := A.S.cells n _ ad hc h2
      exact ⟨ad, ds, xs, h1, h2, rfl, h3, h4⟩
theorem cellOf_eq {env : Env} {st : Store} {i n : Nat} {ds : List D} (h : cellOf env st i = some (n, ds)) : slot env i = some (.r n) ∧ st[n]? = some (.lst ds) := by
  unfold cellOf at h
  split at h
  · rename_i m e
    split at h
    · rename_i es e2
      cases h
      exact ⟨e, e2⟩
    · cases h
  · cases h
/-- o.m(): the reading where o is a name that holds a cell -/
theorem recv {K : Fg} {ad : Addr} {H : Hp} {xs : List V} (h : H ad = some (.lst xs)) : tyV K "list" (.ref ad) H := Or.inl ⟨rfl, xs, SqL.of h⟩
theorem drop_last {A : Type} (l : List A) : l.eraseIdx (l.length - 1) = l.dropLast := by
  induction l with
  | nil => rfl
  | cons a l ih =>
    cases l with
    | nil => rfl
    | cons b l =>
      show (a :: b :: l).eraseIdx (l.length + 1) = _
      rw [List.eraseIdx_cons_succ, List.dropLast_cons₂]
      congr 1
theorem isRef_eq {env : Env} {i : Nat} (h : isRef env i = true) : ∃ n, slot env i = some (.r n) := by
  unfold isRef at h
  split at h
  · rename_i n e; exact ⟨n, e⟩
  · cases h
theorem popF_eq {i : Nat} {k : Option Int} {env : Env} {s : Store} {o : Rs D × Store} (h : popF i k env s = some o) : ∃ n ds j x, slot env i = some (.r n) ∧ s[n]? = some (.lst ds) ∧ L2.ixN ds.length (k.getD (-1)) = some j ∧ ds[j]? = some x ∧ o = (.val x, s.set n (.lst (ds.eraseIdx j))) ∧ ds.length ≤ LIM := by
  unfold popF at h
  split at h
  · rename_i n ds e0
    obtain ⟨e1, e2⟩ := cellOf_eq e0
    split at h
    · cases h
    · rename_i hlim
      split at h
      · rename_i j e3
        split at h
        · rename_i x e4
          exact ⟨n, ds, j, x, e1, e2, e3, e4, ret_eq h, by omega⟩
        · cases h
      · cases h
  · cases h
theorem if_some {A : Type} {c : Prop} [Decidable c] {m : Option A} {o : A} (h : (if c then m else none) = some o) : c ∧ m = some o := by
  by_cases hc : c
  · rw [if_pos hc] at h; exact ⟨hc, h⟩
  · rw [if_neg hc] at h; cases h
theorem reps_set {K : Fg} {R M : List Addr} {H : Hp} {n : Nat} {ad : Addr} {o : HO} {ds : List D} {xs : List V} (hm : M[n]? = some ad) (r : Reps K (M ++ R) H ds xs) : Reps K (M ++ R) (upd H ad o) ds xs :=
  r.mono (fun b u h hb => by rw [upd_ne fun z => hb (by rw [z]; exact List.mem_append_left _ (List.mem_of_getElem? hm))]; exact h) fun _ z => .inl z
theorem rep_set {K : Fg} {R M : List Addr} {H : Hp} {n : Nat} {ad : Addr} {o : HO} {ds : D} {xs : V} (hm : M[n]? = some ad) (r : Rep K (M ++ R) H ds xs) : Rep K (M ++ R) (upd H ad o) ds xs :=
  r.mono (fun b u h hb => by rw [upd_ne fun z => hb (by rw [z]; exact List.mem_append_left _ (List.mem_of_getElem? hm))]; exact h) fun _ z => .inl z
theorem n_pop0 {i : Nat} {x nm : Str} {apos p1 : Pos} (hx : x = "pop") (hN : X.N[i]? = some nm) (hv : Vis X.env.scope nm) (hd : (nm == ("__debug__" : Str)) = false) (hcd : (nm == ("__classdict__" : Str)) = false) (hline : (apos.endLine == pos.line) = true) :
    PE X (.Call (.Attribute (.Name nm p1) x apos) [] [] pos) (tE X p fun env st => if isRef env i = true then bnd (ret none st) fun k s => popF i k env s else none) := by
  subst hx
  refine PE.less (pe_bm0 PySem.F.plainAttrs_list PySem.F.slot_list_pop PySem.F.type_list_pop mt_pop (pe_var hN hv hd hcd) rfl hline) fun σ H Q h => ?_
  obtain ⟨R, M, env, st, o, a, e, k⟩ := h
  obtain ⟨_, e⟩ := if_some e
  have e : popF i none env st = some o := e
  obtain ⟨n, ds, j, y, e1, e2, e3, e4, rfl, _⟩ := popF_eq e
  obtain ⟨ad, ds', xs, h1, h2, h3, h4, h5⟩ := cell_of (w := .r n) a e1
  rw [e2] at h3; cases h3
  obtain ⟨v, v1, rv⟩ := h5.get e4
  have hj : j = ds.length - 1 := by
    have e3 : L2.ixN ds.length (-1) = some j := e3
    unfold L2.ixN at e3
    rw [if_neg (by decide)] at e3
    split at e3
    · have := Option.some.inj e3; omega
    · cases e3
  have hjx : j = xs.length - 1 := by rw [h5.length]; exact hj
  refine ⟨_, h1, recv h4, ad, xs, v, rfl, rfl, h4, by rw [← hjx]; exact v1, ?_⟩
  rw [← drop_last, ← hjx]
  exact k v _ M (.put (List.mem_of_getElem? h2)) (a.S.put h2 (h5.erase j)) (rep_set h2 rv)
theorem n_pop1 {i : Nat} {x nm : Str} {apos p1 : Pos} (hx : x = "pop") (hN : X.N[i]? = some nm) (hv : Vis X.env.scope nm) (hd : (nm == ("__debug__" : Str)) = false) (hcd : (nm == ("__classdict__" : Str)) = false) (hline : (apos.endLine == pos.line) = true)
    (ha : PE X a (tE X p fa)) (hna : starEach [a] X.env = [(false, eval a X.env)]) :
    PE X (.Call (.Attribute (.Name nm p1) x apos) [a] [] pos) (tE X p fun env st => if isRef env i = true then bnd (bnd (bnd (fa env st) asI) fun i s => ret (some i) s) fun k s => popF i k env s else none) := by
  subst hx
  refine PE.less (pe_bm PySem.F.plainAttrs_list PySem.F.slot_list_pop PySem.F.type_list_pop mt_popAt (pe_var hN hv hd hcd) (pa_one ha hna) rfl (by rw [hna]; rfl) hline hna rfl) fun σ H Q h => ?_
  obtain ⟨R, M, env, st, o, a, e, k⟩ := h
  obtain ⟨hr, e⟩ := if_some e
  obtain ⟨n, hn⟩ := isRef_eq hr
  obtain ⟨ad, ds0, xs0, h1, h2, h3, h4, h5⟩ := cell_of (w := .r n) a hn
  refine ⟨_, h1, recv h4, ?_⟩
  rw [bnd_assoc, bnd_assoc] at e
  refine tG_seq a e k fun y b s1 H1 M1 _ g a1 r e1 k1 => ?_
  have q : ∃ z, y = .int z ∧ popF i (some z) env s1 = some o := by
    cases y with
    | int z => exact ⟨z, rfl, e1⟩
    | _ => cases e1
  obtain ⟨z, rfl, e2⟩ := q
  clear e1
  obtain ⟨n', ds, j, y, e1, e6, e3, e4, rfl, hlim⟩ := popF_eq e2
  rw [hn] at e1; cases e1
  obtain ⟨ad', ds', xs, m1, m2, m3, m4, m5⟩ := cell_of (w := .r n) a1 hn
  rw [h1] at m1; cases m1
  rw [e6] at m3; cases m3
  obtain ⟨v, v1, rv⟩ := m5.get e4
  have e3 : L2.ixN ds.length z = some j := e3
  obtain ⟨i1, i2, i3, i4⟩ := ixN_seq e3
  have hlim' : ds.length ≤ 1000000 := hlim
  have b1 : -(2 ^ 63) ≤ z := by omega
  have b2 : z < 2 ^ 63 := by omega
  rw [← m5.length] at e3 i1 i2 i3 i4
  refine ⟨ad, xs, z, j, v, rfl, by rw [rep_int.mp r], m4, b1, b2, i1, v1, ?_⟩
  · exact k1 v _ M1 (.put (List.mem_of_getElem? m2)) (a1.S.put m2 (m5.erase j)) (rep_set m2 rv)
/-! ### targets -/
theorem set_tuple {K : Fg} {xa : XA} {R M : List Addr} {σ : L2.St} {H : Hp} {env : Env} {st : Store} {i : Nat} {w : W} {v : V} (A : At K xa R σ H M env st) (r : RepW K xa M (M ++ R) H w v) : At K xa R (σ.set i (some v)) H M (env.set i (some w)) st :=
  ⟨A.S, A.E.set A.len r, by rw [List.length_set, List.length_set]; exact A.len⟩
/-- a target's reading -/
def gT (K : Fg) : Tg → TG
  | .nm i => gName i
  | .tp is => gTup K is.length (is.foldr (fun i t => gCons (gName i) t) gNil)
def tgIn (vs : List Nat) : Tg → Bool
  | .nm i => vs.contains i
  | .tp is => is.all vs.contains
theorem gs_ok {K : Fg} {xa : XA} {R M : List Addr} {H : Hp} {st : Store} : ∀ {is : List Nat} {ds : List D} {xs : List V} {σ : L2.St} {env : Env} {Co : L2.St → Hp → Prop}, is.length = ds.length → At K xa R σ H M env st → Reps K (M ++ R) H ds xs →
    (∀ σ', (∀ (k : Nat), k ∉ is → σ'[k]? = σ[k]?) → σ'.length = σ.length → At K xa R σ' H M ((is.zip ds).foldl (fun e p => e.set p.1 (some (.d p.2))) env) st → Co σ' H) → (is.foldr (fun i t => gCons (gName i) t) gNil) xs σ H Co
  | [], [], xs, σ, env, Co, _, A, r, k => by
    rw [r.inv0]
    exact ⟨rfl, k σ (fun _ _ => rfl) rfl A⟩
  | i :: is, d :: ds, xs, σ, env, Co, hl, A, r, k => by
    obtain ⟨x, xr, rfl, h1, h2⟩ := r.inv
    refine ⟨x, xr, rfl, ?_⟩
    show (is.foldr (fun i t => gCons (gName i) t) gNil) xr (σ.set i (some x)) H Co
    refine gs_ok (by simpa using hl) (set_tuple (w := .d d) A h1) h2 fun σ' hk hl' A' => k σ' (fun j hj => ?_) (by rw [hl', List.length_set]) A'
    rw [hk j fun z => hj (List.mem_cons_of_mem _ z), List.getElem?_set_ne fun z => hj (by rw [z]; exact List.mem_cons_self)]
theorem gT_ok {K : Fg} {xa : XA} {R M : List Addr} {H : Hp} {st : Store} {tg : Tg} {d : D} {v : V} {σ : L2.St} {env env' : Env} {Co : L2.St → Hp → Prop} (A : At K xa R σ H M env st) (r : Rep K (M ++ R) H d v) (e : bindT env tg d = some env')
    (k : ∀ σ', (∀ vs, tgIn vs tg = true → ∀ (k : Nat), k ∉ vs → σ'[k]? = σ[k]?) → σ'.length = σ.length → At K xa R σ' H M env' st → Co σ' H) : gT K tg v σ H Co := by
  cases tg with
  | nm i =>
    have e : some (env.set i (some (.d d))) = some env' := e
    cases e
    exact k _ (fun vs hv j hj => List.getElem?_set_ne fun z => hj (by
      have q : vs.contains i = true := hv
      rw [← z]; simpa using q)) (List.length_set ..) (set_tuple (w := .d d) A r)
  | tp is =>
    cases d with
    | tup ds =>
      simp only [bindT] at e
      obtain ⟨hl, e⟩ := if_some e
      cases e
      obtain ⟨a, xs, rfl, h1, h2, h3⟩ := rep_tup.mp r
      refine ⟨a, xs, rfl, SqT.of h1, by rw [h3.length, hl], gs_ok hl A h3 fun σ' hk hl' A' => k σ' (fun vs hv j hj => hk j fun z => hj ?_) hl' A'⟩
      have q : is.all vs.contains = true := hv
      have := List.all_eq_true.mp q j z
      simpa using this
    | _ => cases e
theorem wipe_get {σ σ' : L2.St} (hl : σ'.length = σ.length) : ∀ {vs : List Nat}, (∀ k, k ∉ vs → σ'[k]? = σ[k]?) → wipe σ' vs = wipe σ vs := fun {vs} h => by
  apply List.ext_getElem?
  intro k
  have out : ∀ (τ : L2.St) (us : List Nat), k ∉ us → (wipe τ us)[k]? = τ[k]? := fun τ us hk => by
    induction us with
    | nil => rfl
    | cons u us ih =>
      show ((wipe τ us).set u none)[k]? = _
      rw [List.getElem?_set_ne fun z => hk (by rw [z]; exact List.mem_cons_self), ih fun z => hk (List.mem_cons_of_mem _ z)]
  have inn : ∀ (τ : L2.St) (us : List Nat), k ∈ us → (wipe τ us)[k]? = if k < τ.length then some none else none := fun τ us hk => by
    induction us with
    | nil => cases hk
    | cons u us ih =>
      show ((wipe τ us).set u none)[k]? = _
      by_cases e : u = k
      · subst e
        by_cases hlt : u < τ.length
        · rw [List.getElem?_set_self (by rw [wipe_length]; exact hlt), if_pos hlt]
        · rw [List.getElem?_eq_none (by rw [List.length_set, wipe_length]; omega), if_neg hlt]
      · rw [List.getElem?_set_ne e]
        rcases List.mem_cons.mp hk with z | z
        · exact absurd z.symm e
        · exact ih z
  by_cases hk : k ∈ vs
  · rw [inn σ' vs hk, inn σ vs hk, hl]
  · rw [out σ' vs hk, out σ vs hk, h k hk]
theorem wipe_idem {σ : L2.St} {vs : List Nat} : wipe (wipe σ vs) vs = wipe σ vs := by
  apply wipe_get (wipe_length ..)
  intro k hk
  induction vs with
  | nil => rfl
  | cons u us ih =>
    show ((wipe σ us).set u none)[k]? = _
    rw [List.getElem?_set_ne fun z => hk (by rw [z]; exact List.mem_cons_self), ih fun z => hk (List.mem_cons_of_mem _ z)]
theorem wipeE_length (env : Env) : ∀ vs, (wipeE env vs).length = env.length
  | [] => rfl
  | v :: vs => by
    show ((wipeE env vs).set v none).length = _
    rw [List.length_set, wipeE_length env vs]
/-! ### comprehensions -/
def Pl.blk (p : Pl) : Pl := { p with W' := fun _ _ _ _ => False }
def turnC (own : List Nat) (tg : Tg) (fc : Env → Store → Out Bool) (fe : Env → Store → Out D) (env : Env) : D → Store → Out (Option D) := fun x s => match bindT (wipeE env own) tg x with
    | none => none
    | some env' => bnd (fc env' s) fun b s => if b = true then bnd (fe env' s) fun y s => ret (some y) s else ret none s
def lcF (fI : Env → Store → Out Src) (own : List Nat) (tg : Tg) (fc : Env → Store → Out Bool) (fe : Env → Store → Out D) (env : Env) (st : Store) : Out D := bnd (fI env st) fun sr s =>
      bnd (calmO (loopC (turnC own tg fc fe env) sr (LIM + 1) 0 s)) fun ys s => if ys.length ≤ LIM then ret (.lst ys) s else none
theorem calm_eq {A : Type} {m : Out A} {B : Type} {h : A → Store → Out B} {o : Rs B × Store} (e : bnd (calmO m) h = some o) : ∃ a s, m = some (.val a, s) ∧ h a s = some o := by
  cases m with
  | none => cases e
  | some q =>
    obtain ⟨q, s⟩ := q
    cases q with
    | val a => exact ⟨a, s, rfl, e⟩
    | exc c => cases e
theorem updR {K : Fg} {R M : List Addr} {H : Hp} {st : Store} {q : Addr} {o : HO} (S : RelS K (q :: R) H M st) : RelS K (q :: R) (upd H q o) M st := by
  have keep : ∀ b u, H b = some u → b ∉ M ++ q :: R → upd H q o b = some u := fun b u h hb => by
    rw [upd_ne fun z => hb (by rw [z]; exact List.mem_append_right _ List.mem_cons_self)]; exact h
  refine ⟨S.nd, S.dis, fun b hb => ?_, S.len, fun i c b h1 h2 => ?_⟩
  · by_cases e : b = q
    · subst e; exact ⟨o, upd_same⟩
    · obtain ⟨u, h⟩ := S.trk b hb
      exact ⟨u, by rw [upd_ne e]; exact h⟩
  · have hne : b ≠ q := fun z => S.dis b (List.mem_of_getElem? h2) (by rw [z]; exact List.mem_cons_self)
    have z := S.cells i c b h1 h2
    cases c with
    | dct k => exact z.elim
    | lst ds =>
      obtain ⟨xs, e, r⟩ := z
      exact ⟨xs, by rw [upd_ne hne]; exact e, r.mono keep fun _ z => .inl z⟩
theorem reps_updR {K : Fg} {R M : List Addr} {H : Hp} {q : Addr} {o : HO} {ds : List D} {xs : List V} (r : Reps K (M ++ q :: R) H ds xs) : Reps K (M ++ q :: R) (upd H q o) ds xs :=
  r.mono (fun b u h hb => by rw [upd_ne fun z => hb (by rw [z]; exact List.mem_append_right _ List.mem_cons_self)]; exact h) fun _ z => .inl z
/-- from a place to a later one with one more address set aside -/
theorem aside_mono {M M' R : List Addr} {H H' : Hp} {q : Addr} (g : Grow H M H' M') (hq : H q = none) : ∀ a, a ∈ M' ++ q :: R → a ∈ M ++ R ∨ H a = none := fun a ha => by
  rcases List.mem_append.mp ha with z | z
  · rcases g.new a z with y | y
    · exact .inl (List.mem_append_left _ y)
    · exact .inr y
  · rcases List.mem_cons.mp z with y | y
    · subst y; exact .inr hq
    · exact .inl (List.mem_append_right _ y)
theorem f_lc {elt iter tgt : Expr} {ifs : List Expr} {scope : Scope} {own : List (Str × Nat)} {tg : Tg} {fI : Env → Store → Out Src} {fC : Env → Store → Out Bool} {fe : Env → Store → Out D} (hc : X.calm = true) (hN : X.N.Nodup)
    (hi : PI X tgt iter (tS X p fI)) (ok : BlkOk X.N X.env.scope scope own)
    (hg : ∀ (s : Shared) (H : Hp) (C : Addr) (cl : List (Str × Addr)) (fp : List Addr), PG (X.blk s H scope (compEnvC scope cl C X.env) fp) tgt (gT X.K tg)) (htg : tgIn (own.map (·.2)) tg = true)
    (ht : ∀ (s : Shared) (H : Hp) (C : Addr) (cl : List (Str × Addr)) (fp : List Addr), PTs (X.blk s H scope (compEnvC scope cl C X.env) fp) ifs (tB X p.blk fC))
    (he : ∀ (s : Shared) (H : Hp) (C : Addr) (cl : List (Str × Addr)) (fp : List Addr), PE (X.blk s H scope (compEnvC scope cl C X.env) fp) elt (tE X p.blk fe))
    (hs : ∀ x, foldedSetIterable iter X.env x = pure x) : PE X (.ListComp elt [⟨tgt, iter, ifs, 0⟩] scope pos) (tF X p (lcF fI (own.map (·.2)) tg fC fe)) := by
  refine PE.less (pe_lc hc hN hi ok hg ht he hs) fun σ H Q h => ?_
  exact lc_read htg h
where
  lc_read {own : List Nat} {tg : Tg} {fI : Env → Store → Out Src} {fC : Env → Store → Out Bool} {fe : Env → Store → Out D} {σ : L2.St} {H : Hp} {Q : VK} (htg : tgIn own tg = true) (h : tF X p (lcF fI own tg fC fe) σ H Q) : tLc (tS X p fI) (gT X.K tg) (tB X p.blk fC) (tE X p.blk fe) own σ H Q := by
    obtain ⟨R, M, env, st, o, a, e, k⟩ := h
    refine tF_seq a e k fun sr J s1 H1 M1 _ g1 a1 rJ e1 k1 => ?_
    obtain ⟨ys, s2, e2, e3⟩ := calm_eq e1
    obtain ⟨hlen, e3⟩ := if_some e3
    obtain rfl := ret_eq e3
    obtain ⟨ds', ed, k1⟩ := k1
    cases ed
    intro D hD
    have hDM : D ∉ M1 ++ R := a1.S.fresh hD
    refine ⟨fun i m H' => ∃ M' st' acc accV yr, Grow H1 M1 H' M' ∧ RelS X.K (D :: R) H' M' st' ∧ H' D = some (.lst accV) ∧ Reps X.K (M' ++ D :: R) H' acc accV ∧ loopC (turnC own tg fC fe env) sr m i st' = some (.val yr, s2) ∧ acc ++ yr = ys,
      ⟨LIM + 1, M1, s1, [], [], ys, .ext (Ext.new hD), a1.S.aside hD, upd_same, .nil, e2, rfl⟩, ?_⟩
    rintro i m H' ⟨M', st', acc, accV, yr, g, S, hacc, racc, el, ey⟩
    cases m with
    | zero => cases el
    | succ m =>
      unfold loopC at el
      have src := rJ (D :: R) H' M' st' g (aside_mono g hD) S i
      cases q : sr i st' with
      | none => rw [q] at el; cases el
      | some q1 =>
        rw [q] at el
        cases q1 with
        | none =>
          have el : ret [] st' = some (Rs.val yr, s2) := el
          have el := ret_eq el
          cases el
          rw [List.append_nil] at ey
          subst ey
          exact .inl ⟨src.2 q, k1 D accV H' M' hD g S (fun z => hDM (List.mem_append_right _ z)) hacc racc⟩
        | some x =>
          obtain ⟨hgo, hy⟩ := src.1 x q
          obtain ⟨oy, s3, e4, e5⟩ := bnd_val el
          obtain ⟨zs, s4, e6, e7⟩ := bnd_val e5
          refine .inr ⟨hgo, fun H'' => ∃ M' st' acc accV yr, Grow H1 M1 H'' M' ∧ RelS X.K (D :: R) H'' M' st' ∧ H'' D = some (.lst accV) ∧ Reps X.K (M' ++ D :: R) H'' acc accV ∧ loopC (turnC own tg fC fe env) sr m (i + 1) st' = some (.val yr, s2) ∧ acc ++ yr = ys,
            fun H'' h => ⟨m, Nat.lt_succ_self _, h⟩, fun v H'' yv => ?_⟩
          obtain ⟨ext, rx⟩ := hy v H'' yv
          have g2 : Grow H1 M1 H'' M' := g.trans (.ext ext)
          have S2 := S.ext ext
          unfold turnC at e4
          cases qb : bindT (wipeE env own) tg x with
          | none => rw [qb] at e4; cases e4
          | some env' =>
            rw [qb] at e4
            have E2 : RelE X.K p.xa (D :: R) H'' M' (wipe σ own) (wipeE env own) := RelE.wipe (fun j w hw => by
              obtain ⟨u, e, r⟩ := a1.E j w hw
              exact ⟨u, e, r.mono g2.pre (fun b o hb hz => g2.keep b o hb fun z => hz (List.mem_append_left _ z)) (aside_mono g2 hD)⟩) own
            have A2 : At X.K p.xa (D :: R) (wipe σ own) H'' M' (wipeE env own) st' := ⟨S2, E2, by rw [wipe_length, wipeE_length]; exact a1.len⟩
            refine gT_ok A2 rx qb fun σ3 hk3 hl3 A3 => ⟨?_, ?_⟩
            · rw [wipe_get hl3 (hk3 own htg), wipe_idem]
            -- the element's end: an item, or none
            have fin : ∀ (H4 : Hp) (M4 : List Addr) (st4 : Store), Grow H'' M' H4 M4 → RelS X.K (D :: R) H4 M4 st4 → st4 = s3 → H4 D = some (.lst accV) ∧ Grow H1 M1 H4 M4 ∧ Reps X.K (M4 ++ D :: R) H4 acc accV := fun H4 M4 st4 g4 S4 _ => by
              have hDM' : D ∉ M' := fun z => S.dis D z List.mem_cons_self
              exact ⟨g4.keep D _ (ext D _ hacc) hDM', g2.trans g4, g4.reps (racc.mono (fun b u hb _ => ext b u hb) fun _ z => .inl z)⟩
            have e4' : bnd (fC env' st') (fun b s => if b = true then bnd (fe env' s) fun y s => ret (some y) s else ret none s) = some (.val oy, s3) := e4
            refine tG_seq (W' := p.blk.W') (rC := rEq (Option Cw.D)) (Q := fun _ _ => True) A3 e4' (fun _ _ _ _ _ _ => trivial) fun bb bv s5 H5 M5 _ g5 A5 rb e8 _ => ?_
            have rb : bb = bv := rb
            subst rb
            cases bb with
            | false =>
              rw [if_neg Bool.false_ne_true] at e8 ⊢
              have e8 := ret_eq e8
              cases e8
              obtain ⟨f1, f2, f3⟩ := fin H5 M5 s3 g5 A5.S rfl
              have e7 := ret_eq e7
              cases e7
              exact ⟨M5, s3, acc, accV, _, f2, A5.S, f1, f3, e6, ey⟩
            | true =>
              rw [if_pos rfl] at e8 ⊢
              refine tG_seq (W' := p.blk.W') (rC := rEq (Option Cw.D)) (Q := fun _ _ => True) A5 e8 (fun _ _ _ _ _ _ => trivial) fun y yv s6 H6 M6 _ g6 A6 ry e9 _ => ?_
              have e9 := ret_eq e9
              cases e9
              obtain ⟨f1, f2, f3⟩ := fin H6 M6 s3 (g5.trans g6) A6.S rfl
              have e7 := ret_eq e7
              cases e7
              have hl2 : acc.length < LIM := by
                have := congrArg List.length ey
                rw [List.length_append] at this
                simp at this
                omega
              refine ⟨accV, f1, by rw [f3.length]; exact Nat.lt_of_lt_of_le hl2 (by decide), M6, s3, acc ++ [y], accV ++ [yv], zs, ?_, updR A6.S, upd_same, ?_, e6, by rw [List.append_assoc]; exact ey⟩
              · refine ⟨f2.pre, fun b u hb hm => ?_, f2.new⟩
                rw [upd_ne fun z => by rw [z, hD] at hb; cases hb]
                exact f2.keep b u hb hm
              · exact reps_updR (f3.append (.cons ry .nil))
theorem lcF_lst {fI : Env → Store → Out Src} {own : List Nat} {tg : Tg} {fC : Env → Store → Out Bool} {fe : Env → Store → Out D} : ∀ env st d s, lcF fI own tg fC fe env st = some (.val d, s) → ∃ ds, d = .lst ds := fun env st d s h => by
  obtain ⟨sr, s1, _, e1⟩ := bnd_val h
  obtain ⟨ys, s2, _, e3⟩ := calm_eq e1
  obtain ⟨_, e3⟩ := if_some e3
  have e3 := ret_eq e3
  cases e3
  exact ⟨_, rfl⟩
end
end Cw
/-! 10. Statements. -/
namespace Cw
open PySem PySem.Spec PyProof.Rows L2
def PostS (K : Fg) (xa : XA) (adr : Nat → Addr) (W' : WX) (R : List Addr) (H : Hp) (M : List Addr) (Dn : Ends) : Fl × Env × Store → Prop
  | (.next, env, s) => ∀ σ' H' M', Grow H M H' M' → At K xa R σ' H' M' env s → Dn.nx σ' H'
  | (.ret w, _, s) => ∀ v H' M', Grow H M H' M' → RelS K R H' M' s → RepW K none M' (M' ++ R) H' w v → Dn.rt v H'
  | (.exc c, env, s) => ∀ σ' H' M', Grow H M H' M' → At K xa R σ' H' M' env s → W' (.ref (adr c)) none σ' H'
def tSt (X : Cx) (p : Pl) (f : Env → Store → OutS) : TS := fun Dn σ H => ∃ R M env st o, At X.K p.xa R σ H M env st ∧ f env st = some o ∧ PostS X.K p.xa p.adr p.W' R H M Dn o
theorem PS.less {X : Cx} {e : Stmt} {t t' : TS} (h : PS X e t) (w : ∀ D σ H, t' D σ H → t D σ H) : PS X e t' := ⟨fun pins s σ H D I q => h.run pins s σ H D I (w D σ H q)⟩
theorem PSs.less {X : Cx} {e : List Stmt} {t t' : TS} (h : PSs X e t) (w : ∀ D σ H, t' D σ H → t D σ H) : PSs X e t' := ⟨fun pins s σ H D I q => h.run pins s σ H D I (w D σ H q)⟩
section
variable {K : Fg} {xa : XA} {adr : Nat → Addr} {W' : WX} {R : List Addr} {σ : L2.St} {H H1 : Hp} {M M1 : List Addr} {env : Env} {st s : Store} {A B : Type} {rA : RepT A B} {Dn : Ends}
theorem PostS.grow {o : Fl × Env × Store} (k : PostS K xa adr W' R H M Dn o) (g : Grow H M H1 M1) : PostS K xa adr W' R H1 M1 Dn o := by
  obtain ⟨f, env, s⟩ := o
  cases f with
  | next => exact fun σ' H' M' g' a => k σ' H' M' (g.trans g') a
  | ret w => exact fun v H' M' g' S r => k v H' M' (g.trans g') S r
  | exc c => exact fun σ' H' M' g' a => k σ' H' M' (g.trans g') a
theorem tS_then {f : Env → Store → Out A} {h : A → Store → OutS} {o : Fl × Env × Store} {Co : B → Hp → Prop} (a : At K xa R σ H M env st) (e : thenS (f env st) env h = some o) (k : PostS K xa adr W' R H M Dn o)
    (c : ∀ x b s1 H1 M1, f env st = some (.val x, s1) → Grow H M H1 M1 → At K xa R σ H1 M1 env s1 → rA M1 (M1 ++ R) H1 x b → h x s1 = some o → PostS K xa adr W' R H1 M1 Dn o → Co b H1) : tG K xa adr W' rA f σ H Co := by
  cases q : f env st with
  | none => rw [q] at e; cases e
  | some p =>
    obtain ⟨p, s1⟩ := p
    cases p with
    | exc n =>
      rw [q] at e
      simp only [thenS, Option.some.injEq] at e
      subst e
      exact ⟨R, M, env, st, _, a, q, fun H' M' g S => k σ H' M' g (a.grow g S)⟩
    | val x =>
      rw [q] at e
      exact ⟨R, M, env, st, _, a, q, fun b H' M' g S r => c x b s1 H' M' q g (a.grow g S) r e (k.grow g)⟩
theorem next_eq {o : Fl × Env × Store} (h : nextS env st = some o) : o = (.next, env, st) := (Option.some.inj h).symm
end
section
variable {X : Cx} {p : Pl} {a b c : Expr} {pos : Pos} {fa fb fc : Env → Store → Out D} {fA fB : Env → Store → Out W}
/-! ### blocks -/
theorem ss_nil : PSs X [] (tSt X p fun env st => nextS env st) := by
  refine PSs.less pss_nil fun Dn σ H h => ?_
  obtain ⟨R, M, env, st, o, a, e, k⟩ := h
  obtain rfl := next_eq e
  exact k σ H M .refl a
theorem ss_cons {s : Stmt} {ss : List Stmt} {f h : Env → Store → OutS} (h1 : PS X s (tSt X p f)) (h2 : PSs X ss (tSt X p h)) : PSs X (s :: ss) (tSt X p fun env st => seqS (f env st) h) := by
  refine PSs.less (pss_cons h1 h2) fun Dn σ H q => ?_
  obtain ⟨R, M, env, st, o, a, e, k⟩ := q
  cases q1 : f env st with
  | none => simp only [q1, seqS] at e; cases e
  | some w =>
    obtain ⟨fl, env1, s1⟩ := w
    cases fl with
    | next =>
      simp only [q1, seqS] at e
      exact ⟨R, M, env, st, _, a, q1, fun σ' H' M' g A => ⟨R, M', env1, s1, o, A, e, k.grow g⟩⟩
    | ret w =>
      simp only [q1, seqS, Option.some.injEq] at e
      subst e
      exact ⟨R, M, env, st, _, a, q1, k⟩
    | exc n =>
      simp only [q1, seqS, Option.some.injEq] at e
      subst e
      exact ⟨R, M, env, st, _, a, q1, k⟩
/-! ### names stored -/
theorem s_set {i : Nat} {x : Str} {pos' : Pos} (hN : X.N.Nodup) (hi : X.N[i]? = some x) (hx : Loc X.env.scope x) (ha : PE X a (tE X p fa)) (hs : swapsWith a (some (.Name x pos')) pos.line X.env = pure false) (hf : X.fn x = true ∨ X.env.scope.names.lookup x = some .local) :
    PS X (.Assign [.Name x pos'] a pos) (tSt X p fun env st => thenS (fa env st) env fun x s => nextS (env.set i (some (.d x))) s) := by
  refine PS.less (ps_set hN hi hx ha hs hf) fun Dn σ H h => ?_
  obtain ⟨R, M, env, st, o, a, e, k⟩ := h
  refine tS_then a e k fun y b s1 H1 M1 _ g a1 r e1 k1 => ?_
  obtain rfl := next_eq e1
  exact k1 _ H1 M1 .refl (set_tuple (w := .d y) a1 r)
theorem s_setV {i : Nat} {x : Str} {pos' : Pos} (hN : X.N.Nodup) (hi : X.N[i]? = some x) (hx : Loc X.env.scope x) (ha : PE X a (tVn X p fA)) (hs : swapsWith a (some (.Name x pos')) pos.line X.env = pure false) (hf : X.fn x = true ∨ X.env.scope.names.lookup x = some .local) :
    PS X (.Assign [.Name x pos'] a pos) (tSt X p fun env st => thenS (fA env st) env fun w s => nextS (env.set i (some w)) s) := by
  refine PS.less (ps_set hN hi hx ha hs hf) fun Dn σ H h => ?_
  obtain ⟨R, M, env, st, o, a, e, k⟩ := h
  refine tS_then a e k fun y b s1 H1 M1 _ g a1 r e1 k1 => ?_
  obtain rfl := next_eq e1
  refine k1 _ H1 M1 .refl (set_tuple (w := y) a1 ?_)
  cases y with
  | d x => exact r
  | r n => exact r
  | rt n => exact r
  | exc c => obtain ⟨_, h, _⟩ := r; cases h
/-- a new list: as data, or as a cell -/
def setD (i : Nat) (f : Env → Store → Out D) (env : Env) (st : Store) : OutS := thenS (f env st) env fun x s => nextS (env.set i (some (.d x))) s
def setF (i : Nat) (f : Env → Store → Out D) (env : Env) (st : Store) : OutS := thenS (f env st) env fun x s => match x with
    | .lst ds => nextS (env.set i (some (.r s.length))) (s ++ [.lst ds])
    | _ => none
theorem read_setD {i : Nat} {f : Env → Store → Out D} {Dn : Ends} {σ : L2.St} {H : Hp} (hl : ∀ env st d s, f env st = some (.val d, s) → ∃ ds, d = .lst ds) (h : tSt X p (setD i f) Dn σ H) : tF X p f σ H fun x H1 => Dn.nx (σ.set i (some x)) H1 := by
  obtain ⟨R, M, env, st, o, a, e, k⟩ := h
  unfold setD at e
  cases q : f env st with
  | none => rw [q] at e; cases e
  | some w =>
    obtain ⟨w, s1⟩ := w
    cases w with
    | exc n =>
      rw [q] at e
      simp only [thenS, Option.some.injEq] at e
      subst e
      exact ⟨R, M, env, st, _, a, q, fun H' M' g S => k σ H' M' g (a.grow g S)⟩
    | val d =>
      rw [q] at e
      obtain ⟨ds, rfl⟩ := hl _ _ _ _ q
      obtain rfl := next_eq e
      refine ⟨R, M, env, st, _, a, q, ds, rfl, fun u xs H' M' hu g S hn hl r => k _ H' M' g (set_tuple (w := .d (.lst ds)) (a.grow g S.back) ?_)⟩
      refine rep_lst.mpr ⟨u, xs, rfl, hl, fun z => ?_, reps_less (fun b hb => ?_) r⟩
      · rcases List.mem_append.mp z with y | y
        · exact S.dis u y List.mem_cons_self
        · exact hn y
      · rcases List.mem_append.mp hb with y | y
        · exact List.mem_append_left _ y
        · exact List.mem_append_right _ (List.mem_cons_of_mem _ y)
theorem read_setF {i : Nat} {f : Env → Store → Out D} {Dn : Ends} {σ : L2.St} {H : Hp} (h : tSt X p (setF i f) Dn σ H) : tF X p f σ H fun x H1 => Dn.nx (σ.set i (some x)) H1 := by
  obtain ⟨R, M, env, st, o, a, e, k⟩ := h
  unfold setF at e
  cases q : f env st with
  | none => rw [q] at e; cases e
  | some w =>
    obtain ⟨w, s1⟩ := w
    cases w with
    | exc n =>
      rw [q] at e
      simp only [thenS, Option.some.injEq] at e
      subst e
      exact ⟨R, M, env, st, _, a, q, fun H' M' g S => k σ H' M' g (a.grow g S)⟩
    | val d =>
      rw [q] at e
      cases d with
      | lst ds =>
        obtain rfl := next_eq e
        refine ⟨R, M, env, st, _, a, q, ds, rfl, fun u xs H' M' hu g S hn hl r => ?_⟩
        have g2 : Grow H M H' (M' ++ [u]) := ⟨by obtain ⟨t, et⟩ := g.pre; exact ⟨t ++ [u], by rw [et, List.append_assoc]⟩, g.keep, fun b hb => by
          rcases List.mem_append.mp hb with z | z
          · exact g.new b z
          · have z' : b = u := by simpa using z
            subst z'; exact .inr hu⟩
        have S2 : RelS X.K R H' (M' ++ [u]) (s1 ++ [.lst ds]) := S.cell ⟨xs, hl, r⟩ hn
        refine k _ H' (M' ++ [u]) g2 (set_tuple (w := .r s1.length) (a.grow g2 S2) ⟨u, ?_, rfl⟩)
        rw [S.len, List.getElem?_append_right (Nat.le_refl _)]; simp
      | _ => cases e
theorem s_setD {i : Nat} {x : Str} {pos' : Pos} (hN : X.N.Nodup) (hi : X.N[i]? = some x) (hx : Loc X.env.scope x) (ha : PE X a (tF X p fa)) (hl : ∀ env st d s, fa env st = some (.val d, s) → ∃ ds, d = .lst ds) (hs : swapsWith a (some (.Name x pos')) pos.line X.env = pure false) (hf : X.fn x = true ∨ X.env.scope.names.lookup x = some .local) :
    PS X (.Assign [.Name x pos'] a pos) (tSt X p (setD i fa)) := PS.less (ps_set hN hi hx ha hs hf) fun Dn σ H h => read_setD hl h
theorem s_setF {i : Nat} {x : Str} {pos' : Pos} (hN : X.N.Nodup) (hi : X.N[i]? = some x) (hx : Loc X.env.scope x) (ha : PE X a (tF X p fa)) (hs : swapsWith a (some (.Name x pos')) pos.line X.env = pure false) (hf : X.fn x = true ∨ X.env.scope.names.lookup x = some .local) :
    PS X (.Assign [.Name x pos'] a pos) (tSt X p (setF i fa)) := PS.less (ps_set hN hi hx ha hs hf) fun Dn σ H h => read_setF h
/-- name = [.. for ..] -/
theorem s_setLc {elt iter tgt : Expr} {ifs : List Expr} {scope : Scope} {own : List (Str × Nat)} {tg : Tg} {fI : Env → Store → Out Src} {fC : Env → Store → Out Bool} {fe : Env → Store → Out D} {i : Nat} {y : Str} {py spos : Pos} {cell : Bool} (hc : X.calm = true) (hN : X.N.Nodup) (hy : X.N[i]? = some y) (hyl : X.env.scope.names.lookup y = some .local)
    (hsw : swapsWith (.ListComp elt [⟨tgt, iter, ifs, 0⟩] scope pos) (some (.Name y py)) spos.line X.env = pure true)
    (hi : PI X tgt iter (tS X p fI)) (ok : BlkOk X.N X.env.scope scope own)
    (hg : ∀ (s : Shared) (H : Hp) (C : Addr) (cl : List (Str × Addr)) (fp : List Addr), PG (X.blk s H scope (compEnvC scope cl C X.env) fp) tgt (gT X.K tg)) (htg : tgIn (own.map (·.2)) tg = true)
    (ht : ∀ (s : Shared) (H : Hp) (C : Addr) (cl : List (Str × Addr)) (fp : List Addr), PTs (X.blk s H scope (compEnvC scope cl C X.env) fp) ifs (tB X p.blk fC))
    (he : ∀ (s : Shared) (H : Hp) (C : Addr) (cl : List (Str × Addr)) (fp : List Addr), PE (X.blk s H scope (compEnvC scope cl C X.env) fp) elt (tE X p.blk fe))
    (hs : ∀ x, foldedSetIterable iter X.env x = pure x) : PS X (.Assign [.Name y py] (.ListComp elt [⟨tgt, iter, ifs, 0⟩] scope pos) spos) (tSt X p (if cell = true then setF i (lcF fI (own.map (·.2)) tg fC fe) else setD i (lcF fI (own.map (·.2)) tg fC fe))) := by
  refine PS.less (ps_setLc (i := i) hc hN hy hyl hsw hi ok hg ht he hs) fun Dn σ H h => ?_
  refine f_lc.lc_read htg ?_
  cases cell with
  | true => exact read_setF h
  | false => exact read_setD lcF_lst h
/-! ### tuples unpacked -/
theorem sw_none {vs : Expr} {ts : List Expr} {k : Nat} {tp : Pos} (h : ∀ es k p, vs ≠ .Tuple es k p) : swappedStores [.Tuple ts k tp] vs X.env = pure none := by
  cases vs <;> first | rfl | exact absurd rfl (h _ _ _)
theorem s_unp {is : List Nat} {ts : List Expr} {k0 : Nat} {tp : Pos} (hc : X.calm = true) (ha : PE X a (tE X p fa)) (hg : PG X (.Tuple ts k0 tp) (gT X.K (.tp is))) (hs : swapsWithSole [.Tuple ts k0 tp] a pos.line X.env = pure false) (hw : swappedStores [.Tuple ts k0 tp] a X.env = pure none) :
    PS X (.Assign [.Tuple ts k0 tp] a pos) (tSt X p fun env st => thenS (fa env st) env fun x s => match bindT env (.tp is) x with
    | some env' => nextS env' s
    | none => none) := by
  refine PS.less (ps_asg ha hg hs hw rfl) fun Dn σ H h => ?_
  obtain ⟨R, M, env, st, o, a, e, k⟩ := h
  refine tS_then a e k fun y b s1 H1 M1 _ g a1 r e1 k1 => ?_
  cases q : bindT env (.tp is) y with
  | none => rw [q] at e1; cases e1
  | some env' =>
    rw [q] at e1
    obtain rfl := next_eq e1
    exact gT_ok a1 r q fun σ' _ _ A => k1 σ' H1 M1 .refl A
theorem gr_ok {K : Fg} {xa : XA} {R M : List Addr} {H : Hp} {st : Store} : ∀ {is ns : List Nat} {as : List Addr} {σ : L2.St} {env : Env} {Co : L2.St → Hp → Prop}, is.length = ns.length → At K xa R σ H M env st → ns.map (M[·]?) = as.map some →
    (∀ σ', At K xa R σ' H M ((is.zip ns).foldl (fun e p => e.set p.1 (some (.r p.2))) env) st → Co σ' H) → (is.foldr (fun i t => gCons (gName i) t) gNil) (as.map V.ref) σ H Co
  | [], [], as, σ, env, Co, _, A, r, k => by
    have : as = [] := by simpa using r
    subst this
    exact ⟨rfl, k σ A⟩
  | i :: is, n :: ns, as, σ, env, Co, hl, A, r, k => by
    cases as with
    | nil => simp at r
    | cons b as =>
      simp only [List.map_cons, List.cons.injEq] at r
      refine ⟨.ref b, as.map V.ref, rfl, ?_⟩
      show (is.foldr (fun i t => gCons (gName i) t) gNil) (as.map V.ref) (σ.set i (some (.ref b))) H Co
      exact gr_ok (by simpa using hl) (set_tuple (w := .r n) A ⟨b, r.1, rfl⟩) r.2 k
theorem s_unpV {is : List Nat} {ts : List Expr} {k0 : Nat} {tp : Pos} (hc : X.calm = true) (ha : PE X a (tVn X p fA)) (hg : PG X (.Tuple ts k0 tp) (gT X.K (.tp is))) (hs : swapsWithSole [.Tuple ts k0 tp] a pos.line X.env = pure false) (hw : swappedStores [.Tuple ts k0 tp] a X.env = pure none) :
    PS X (.Assign [.Tuple ts k0 tp] a pos) (tSt X p fun env st => thenS (fA env st) env fun w s => match bindW env is w with
    | some env' => nextS env' s
    | none => none) := by
  refine PS.less (ps_asg ha hg hs hw rfl) fun Dn σ H h => ?_
  obtain ⟨R, M, env, st, o, a, e, k⟩ := h
  refine tS_then a e k fun y b s1 H1 M1 _ g a1 r e1 k1 => ?_
  cases q : bindW env is y with
  | none => rw [q] at e1; cases e1
  | some env' =>
    rw [q] at e1
    obtain rfl := next_eq e1
    cases y with
    | d x => exact gT_ok a1 r q fun σ' _ _ A => k1 σ' H1 M1 .refl A
    | rt ns =>
      simp only [bindW] at q
      obtain ⟨hl, q⟩ := if_some q
      cases q
      obtain ⟨ad, as, rfl, h1, h2, h3⟩ := r
      refine ⟨ad, as.map V.ref, rfl, SqT.of h1, ?_, gr_ok hl a1 h3 fun σ' A => k1 σ' H1 M1 .refl A⟩
      have := congrArg List.length h3
      simp only [List.length_map] at this ⊢
      omega
    | r n => cases q
    | exc n => cases q
theorem s_par {i j : Nat} {x y : Str} {px py pt : Pos} {kt k2 : Nat} {pt2 : Pos} (hc : X.calm = true) (hN : X.N.Nodup) (hi : X.N[i]? = some x) (hj : X.N[j]? = some y) (hij : i ≠ j)
    (hx : X.env.scope.names.lookup x = some .local) (hy : X.env.scope.names.lookup y = some .local) (ha : PE X a (tE X p fa)) (hb : PE X b (tE X p fb)) (hna : starEach [a, b] X.env = (false, eval a X.env) :: starEach [b] X.env) (hnb : starEach [b] X.env = [(false, eval b X.env)])
    (hw : swappedStores [.Tuple [.Name x px, .Name y py] kt pt] (.Tuple [a, b] k2 pt2) X.env = pure (some [x, y])) :
    PS X (.Assign [.Tuple [.Name x px, .Name y py] kt pt] (.Tuple [a, b] k2 pt2) pos) (tSt X p fun env st => thenS (fa env st) env fun x s => thenS (fb env s) env fun y s => nextS ((env.set i (some (.d x))).set j (some (.d y))) s) := by
  refine PS.less (ps_par hc hN hi hj hij hx hy (pa_two ha hb hna hnb) hw rfl) fun Dn σ H h => ?_
  obtain ⟨R, M, env, st, o, a, e, k⟩ := h
  refine tS_then a e k fun y b s1 H1 M1 _ g a1 r e1 k1 => ?_
  refine tS_then a1 e1 k1 fun z c s2 H2 M2 _ g2 a2 r2 e2 k2 => ?_
  obtain rfl := next_eq e2
  exact ⟨b, c, rfl, k2 _ H2 M2 .refl (set_tuple (w := .d z) (set_tuple (w := .d y) a2 (g2.rep r)) r2)⟩
/-! ### stores into a cell -/
theorem s_put {i : Nat} {nm : Str} {p1 tpos : Pos} (hN : X.N[i]? = some nm) (hv : Vis X.env.scope nm) (hd : (nm == ("__debug__" : Str)) = false) (hcd : (nm == ("__classdict__" : Str)) = false)
    (hi : PE X b (tE X p fb)) (ha : PE X a (tE X p fa)) (hs : swapsWithSole [.Subscript (.Name nm p1) b tpos] a pos.line X.env = pure false) (hw : swappedStores [.Subscript (.Name nm p1) b tpos] a X.env = pure none)
    (has : ∀ v, assign (.Subscript (.Name nm p1) b tpos) X.env v = (do
      let ov ← holding [v] (eval (.Name nm p1) X.env)
      let iv ← holding [v, ov] (eval b X.env)
      standAt tpos
      holding [v, ov, iv] (setItem ov iv v)
      release [v, ov, iv] [])) :
    PS X (.Assign [.Subscript (.Name nm p1) b tpos] a pos) (tSt X p fun env st => if isRef env i = true then thenS (fa env st) env fun x s => thenS (bnd (fb env s) asI) env fun k s => match cellOf env s i with
    | some (n, ds) => match L2.ixN ds.length k with
      | some j => nextS env (s.set n (.lst (ds.set j x)))
      | none => none
    | none => none else none) := by
  refine PS.less (ps_asg ha (pg_sub (pe_var hN hv hd hcd) hi set_list has) hs hw rfl) fun Dn σ H h => ?_
  obtain ⟨R, M, env, st, o, a, e, k⟩ := h
  obtain ⟨hr, e⟩ := if_some e
  obtain ⟨n, hn⟩ := isRef_eq hr
  refine tS_then a e k fun y b s1 H1 M1 _ g a1 r e1 k1 => ?_
  obtain ⟨ad, ds0, xs0, h1, h2, h3, h4, h5⟩ := cell_of (w := .r n) a1 hn
  refine ⟨_, h1, ?_⟩
  have q : ∀ {m : Out D} {h : Int → Store → OutS} {o : Fl × Env × Store}, thenS (bnd m asI) env h = some o → thenS m env (fun d s => match d with
    | .int i => h i s
    | _ => none) = some o := fun {m h o} e => by
    cases m with
    | none => cases e
    | some w => obtain ⟨w, s⟩ := w; cases w with
      | exc n => exact e
      | val d => cases d <;> first | exact e | cases e
  refine tS_then a1 (q e1) k1 fun z c s2 H2 M2 _ g2 a2 r2 e2 k2 => ?_
  cases z with
  | int z =>
    cases qc : cellOf env s2 i with
    | none => simp only [qc] at e2; cases e2
    | some w =>
      obtain ⟨n', ds⟩ := w
      simp only [qc] at e2
      obtain ⟨c1, c2⟩ := cellOf_eq qc
      rw [hn] at c1; cases c1
      obtain ⟨ad', ds', xs, m1, m2, m3, m4, m5⟩ := cell_of (w := .r n) a2 hn
      rw [h1] at m1; cases m1
      rw [c2] at m3; cases m3
      cases qj : L2.ixN ds.length z with
      | none => simp only [qj] at e2; cases e2
      | some j =>
        simp only [qj] at e2
        obtain rfl := next_eq e2
        have r3 := g2.rep r
        refine ⟨ad, xs, z, j, rfl, rep_int.mp r2, m4, by rw [m5.length]; exact qj, ?_⟩
        exact k2 σ _ M2 (.put (List.mem_of_getElem? m2)) (a2.grow (.put (List.mem_of_getElem? m2)) (a2.S.put m2 (m5.set j r3)))
  | _ => cases e2
theorem s_app {i : Nat} {x nm : Str} {p1 apos cpos : Pos} (hx : x = "append") (hN : X.N[i]? = some nm) (hv : Vis X.env.scope nm) (hd : (nm == ("__debug__" : Str)) = false) (hcd : (nm == ("__classdict__" : Str)) = false) (hline : (apos.endLine == cpos.line) = true)
    (ha : PE X a (tE X p fa)) (hna : starEach [a] X.env = [(false, eval a X.env)]) :
    PS X (.Expr (.Call (.Attribute (.Name nm p1) x apos) [a] [] cpos) pos) (tSt X p fun env st => if isRef env i = true then thenS (fa env st) env fun x s => match cellOf env s i with
    | some (n, ds) => if ds.length < LIM then nextS env (s.set n (.lst (ds ++ [x]))) else none
    | none => none else none) := by
  subst hx
  refine PS.less (ps_expr (pe_bm PySem.F.plainAttrs_list PySem.F.slot_list_append PySem.F.type_list_append mt_append (pe_var hN hv hd hcd) (pa_one ha hna) rfl (by rw [hna]; rfl) hline hna rfl) rfl) fun Dn σ H h => ?_
  obtain ⟨R, M, env, st, o, a, e, k⟩ := h
  obtain ⟨hr, e⟩ := if_some e
  obtain ⟨n, hn⟩ := isRef_eq hr
  obtain ⟨ad, ds0, xs0, h1, h2, h3, h4, h5⟩ := cell_of (w := .r n) a hn
  refine ⟨_, h1, recv h4, ?_⟩
  refine tS_then a e k fun y b s1 H1 M1 _ g a1 r e1 k1 => ?_
  cases qc : cellOf env s1 i with
  | none => simp only [qc] at e1; cases e1
  | some w =>
    obtain ⟨n', ds⟩ := w
    simp only [qc] at e1
    obtain ⟨hl, e1⟩ := if_some e1
    obtain rfl := next_eq e1
    obtain ⟨c1, c2⟩ := cellOf_eq qc
    rw [hn] at c1; cases c1
    obtain ⟨ad', ds', xs, m1, m2, m3, m4, m5⟩ := cell_of (w := .r n) a1 hn
    rw [h1] at m1; cases m1
    rw [c2] at m3; cases m3
    refine ⟨ad, xs, b, rfl, rfl, m4, by rw [m5.length]; exact Nat.lt_of_lt_of_le hl (by decide), ?_⟩
    exact k1 σ _ M1 (.put (List.mem_of_getElem? m2)) (a1.grow (.put (List.mem_of_getElem? m2)) (a1.S.put m2 (m5.append (.cons r .nil))))
theorem s_ext {i : Nat} {x nm : Str} {p1 apos cpos : Pos} (hx : x = "extend") (hN : X.N[i]? = some nm) (hv : Vis X.env.scope nm) (hd : (nm == ("__debug__" : Str)) = false) (hcd : (nm == ("__classdict__" : Str)) = false) (hline : (apos.endLine == cpos.line) = true)
    (ha : PE X a (tE X p fa)) (hna : starEach [a] X.env = [(false, eval a X.env)]) :
    PS X (.Expr (.Call (.Attribute (.Name nm p1) x apos) [a] [] cpos) pos) (tSt X p fun env st => if isRef env i = true then thenS (fa env st) env fun x s => match cellOf env s i, x with
    | some (n, ds), .lst es => if ds.length + es.length ≤ LIM then nextS env (s.set n (.lst (ds ++ es))) else none
    | _, _ => none else none) := by
  subst hx
  refine PS.less (ps_expr (pe_bm PySem.F.plainAttrs_list PySem.F.slot_list_extend PySem.F.type_list_extend mt_extend (pe_var hN hv hd hcd) (pa_one ha hna) rfl (by rw [hna]; rfl) hline hna rfl) rfl) fun Dn σ H h => ?_
  obtain ⟨R, M, env, st, o, a, e, k⟩ := h
  obtain ⟨hr, e⟩ := if_some e
  obtain ⟨n, hn⟩ := isRef_eq hr
  obtain ⟨ad, ds0, xs0, h1, h2, h3, h4, h5⟩ := cell_of (w := .r n) a hn
  refine ⟨_, h1, recv h4, ?_⟩
  refine tS_then a e k fun y b s1 H1 M1 _ g a1 r e1 k1 => ?_
  cases qc : cellOf env s1 i with
  | none => simp only [qc] at e1; cases e1
  | some w =>
    obtain ⟨n', ds⟩ := w
    cases y with
    | lst es =>
      simp only [qc] at e1
      obtain ⟨hl, e1⟩ := if_some e1
      obtain rfl := next_eq e1
      obtain ⟨c1, c2⟩ := cellOf_eq qc
      rw [hn] at c1; cases c1
      obtain ⟨ad', ds', xs, m1, m2, m3, m4, m5⟩ := cell_of (w := .r n) a1 hn
      rw [h1] at m1; cases m1
      rw [c2] at m3; cases m3
      obtain ⟨u, ys, rfl, q1, q2, q3⟩ := rep_lst.mp r
      refine ⟨ad, u, xs, ys, rfl, rfl, m4, q1, by rw [m5.length, q3.length]; exact lim_line hl, ?_⟩
      exact k1 σ _ M1 (.put (List.mem_of_getElem? m2)) (a1.grow (.put (List.mem_of_getElem? m2)) (a1.S.put m2 (m5.append q3)))
    | _ => simp only [qc] at e1; cases e1
theorem s_ins {i : Nat} {x nm : Str} {p1 apos cpos : Pos} (hx : x = "insert") (hN : X.N[i]? = some nm) (hv : Vis X.env.scope nm) (hd : (nm == ("__debug__" : Str)) = false) (hcd : (nm == ("__classdict__" : Str)) = false) (hline : (apos.endLine == cpos.line) = true)
    (ha : PE X a (tE X p fa)) (hb : PE X b (tE X p fb)) (hna : starEach [a, b] X.env = (false, eval a X.env) :: starEach [b] X.env) (hnb : starEach [b] X.env = [(false, eval b X.env)]) :
    PS X (.Expr (.Call (.Attribute (.Name nm p1) x apos) [a, b] [] cpos) pos) (tSt X p fun env st => if isRef env i = true then thenS (bnd (fa env st) asI) env fun k s => thenS (fb env s) env fun x s => match cellOf env s i with
    | some (n, ds) => if 0 ≤ k ∧ k ≤ LIM ∧ ds.length < LIM then nextS env (s.set n (.lst (ds.take k.toNat ++ x :: ds.drop k.toNat))) else none
    | none => none else none) := by
  subst hx
  refine PS.less (ps_expr (pe_bm PySem.F.plainAttrs_list PySem.F.slot_list_insert PySem.F.type_list_insert mt_insert (pe_var hN hv hd hcd) (pa_two ha hb hna hnb) rfl (by rw [hna, hnb]; rfl) hline hna (by rw [hnb]; rfl)) rfl) fun Dn σ H h => ?_
  obtain ⟨R, M, env, st, o, a, e, k⟩ := h
  obtain ⟨hr, e⟩ := if_some e
  obtain ⟨n, hn⟩ := isRef_eq hr
  obtain ⟨ad, ds0, xs0, h1, h2, h3, h4, h5⟩ := cell_of (w := .r n) a hn
  refine ⟨_, h1, recv h4, ?_⟩
  have q : ∀ {m : Out D} {h : Int → Store → OutS} {o : Fl × Env × Store}, thenS (bnd m asI) env h = some o → thenS m env (fun d s => match d with
    | .int i => h i s
    | _ => none) = some o := fun {m h o} e => by
    cases m with
    | none => cases e
    | some w => obtain ⟨w, s⟩ := w; cases w with
      | exc n => exact e
      | val d => cases d <;> first | exact e | cases e
  refine tS_then a (q e) k fun y b s1 H1 M1 _ g a1 r e1 k1 => ?_
  cases y with
  | int z =>
    refine tS_then a1 e1 k1 fun y c s2 H2 M2 _ g2 a2 r2 e2 k2 => ?_
    cases qc : cellOf env s2 i with
    | none => simp only [qc] at e2; cases e2
    | some w =>
      obtain ⟨n', ds⟩ := w
      simp only [qc] at e2
      obtain ⟨hl, e2⟩ := if_some e2
      obtain rfl := next_eq e2
      obtain ⟨c1, c2⟩ := cellOf_eq qc
      rw [hn] at c1; cases c1
      obtain ⟨ad', ds', xs, m1, m2, m3, m4, m5⟩ := cell_of (w := .r n) a2 hn
      rw [h1] at m1; cases m1
      rw [c2] at m3; cases m3
      have hlim : (LIM : Int) = 1000000 := rfl
      refine ⟨ad, xs, z, c, rfl, by rw [rep_int.mp r], m4, by rw [m5.length]; exact Nat.lt_of_lt_of_le hl.2.2 (by decide), hl.1, by omega, ?_⟩
      have := (m5.take z.toNat).append ((Reps.cons r2 .nil).append (m5.drop z.toNat))
      rw [List.append_assoc]
      exact k2 σ _ M2 (.put (List.mem_of_getElem? m2)) (a2.grow (.put (List.mem_of_getElem? m2)) (a2.S.put m2 this))
  | _ => cases e1
theorem s_expr (ha : PE X a (tE X p fa)) (hs : swapsWith a none pos.line X.env = pure false) : PS X (.Expr a pos) (tSt X p fun env st => thenS (fa env st) env fun _ s => nextS env s) := by
  refine PS.less (ps_expr ha hs) fun Dn σ H h => ?_
  obtain ⟨R, M, env, st, o, a, e, k⟩ := h
  refine tS_then a e k fun y b s1 H1 M1 _ g a1 r e1 k1 => ?_
  obtain rfl := next_eq e1
  exact k1 σ H1 M1 .refl a1
/-! ### if, for, while -/
theorem s_ite {t u : List Stmt} {ft fu : Env → Store → OutS} (hc : PT X c (tT X p fc)) (ht : PSs X t (tSt X p ft)) (hu : PSs X u (tSt X p fu)) : PS X (.If c t u pos) (tSt X p fun env st => thenS (bnd (fc env st) asB) env fun b s => if b = true then ft env s else fu env s) := by
  refine PS.less (ps_if hc ht hu) fun Dn σ H h => ?_
  obtain ⟨R, M, env, st, o, a, e, k⟩ := h
  refine tS_then a e k fun y b s1 H1 M1 _ g a1 r e1 k1 => ?_
  have r : y = b := r
  subst r
  cases y with
  | true => exact ⟨R, M1, env, s1, o, a1, e1, k1⟩
  | false => exact ⟨R, M1, env, s1, o, a1, e1, k1⟩
theorem s_for {tgt iter : Expr} {body : List Stmt} {tg : Tg} {fI : Env → Store → Out Src} {fb : Env → Store → OutS} (hp : PassesOwn (model X.prog X.w) X.A X.env X.xe) (hc : X.calm = true) (hi : PI X tgt iter (tS X p fI)) (hg : PG X tgt (gT X.K tg)) (hb : PSs X body (tSt X p fb))
    (hs : ∀ x, foldedSetIterable iter X.env x = pure x) : PS X (.For tgt iter body [] pos) (tSt X p fun env st => thenS (fI env st) env fun sr s => loopF tg sr fb (LIM + 1) 0 env s) := by
  refine PS.less (ps_for hp hc hi hg hb hs) fun Dn σ H h => ?_
  obtain ⟨R, M, env, st, o, a, e, k⟩ := h
  refine tS_then a e k fun sr J s1 H1 M1 _ g1 a1 rJ e1 k1 => ?_
  refine ⟨fun i m σ' H' => ∃ M' env' st', Grow H1 M1 H' M' ∧ At X.K p.xa R σ' H' M' env' st' ∧ loopF tg sr fb m i env' st' = some o, ⟨LIM + 1, M1, env, s1, .refl, a1, e1⟩, ?_⟩
  rintro i m σ' H' ⟨M', env', st', g, A, el⟩
  cases m with
  | zero => cases el
  | succ m =>
    unfold loopF at el
    have src := rJ R H' M' st' g (fun b hb => by
      rcases List.mem_append.mp hb with z | z
      · rcases g.new b z with y | y
        · exact .inl (List.mem_append_left _ y)
        · exact .inr y
      · exact .inl (List.mem_append_right _ z)) A.S i
    cases q : sr i st' with
    | none => rw [q] at el; cases el
    | some q1 =>
      rw [q] at el
      cases q1 with
      | none =>
        obtain rfl := next_eq el
        exact .inl ⟨src.2 q, k1 σ' H' M' g A⟩
      | some x =>
        obtain ⟨hgo, hy⟩ := src.1 x q
        refine .inr ⟨hgo, fun σ2 H2 => ∃ M2 env2 st2, Grow H1 M1 H2 M2 ∧ At X.K p.xa R σ2 H2 M2 env2 st2 ∧ loopF tg sr fb m (i + 1) env2 st2 = some o, fun σ2 H2 h => ⟨m, Nat.lt_succ_self _, h⟩, fun v H'' yv => ?_⟩
        obtain ⟨ext, rx⟩ := hy v H'' yv
        have A2 := A.grow (.ext ext) (A.S.ext ext)
        have g2 := g.trans (Grow.ext (M := M') ext)
        cases qb : bindT env' tg x with
        | none => simp only [qb] at el; cases el
        | some env1 =>
          simp only [qb] at el
          refine gT_ok A2 rx qb fun σ3 _ _ A3 => ?_
          cases q2 : fb env1 st' with
          | none => simp only [q2, seqS] at el; cases el
          | some w =>
            obtain ⟨fl, env2, s2⟩ := w
            cases fl with
            | next =>
              simp only [q2, seqS] at el
              exact ⟨R, M', env1, st', _, A3, q2, fun σ4 H4 M4 g4 A4 => ⟨M4, env2, s2, g2.trans g4, A4, el⟩⟩
            | ret w =>
              simp only [q2, seqS, Option.some.injEq] at el
              subst el
              exact ⟨R, M', env1, st', _, A3, q2, k1.grow g2⟩
            | exc n =>
              simp only [q2, seqS, Option.some.injEq] at el
              subst el
              exact ⟨R, M', env1, st', _, A3, q2, k1.grow g2⟩
theorem s_whl {body : List Stmt} {n : Nat} {fb : Env → Store → OutS} (hp : PassesOwn (model X.prog X.w) X.A X.env X.xe) (hc : PT X c (tT X p fc)) (hb : PSs X body (tSt X p fb)) : PS X (.While c body [] pos) (tSt X p fun env st => loopW (fun env st => bnd (fc env st) asB) fb n env st) := by
  refine PS.less (ps_while hp hc hb) fun Dn σ H h => ?_
  obtain ⟨R, M, env, st, o, a, e, k⟩ := h
  refine ⟨fun m σ' H' => ∃ M' env' st', Grow H M H' M' ∧ At X.K p.xa R σ' H' M' env' st' ∧ loopW (fun env st => bnd (fc env st) asB) fb m env' st' = some o, ⟨n, M, env, st, .refl, a, e⟩, ?_⟩
  rintro m σ' H' ⟨M', env', st', g, A, el⟩
  cases m with
  | zero => cases el
  | succ m =>
    unfold loopW at el
    refine tS_then A el (k.grow g) fun y b s1 H1 M1 _ g1 a1 r e1 k1 => ?_
    have r : y = b := r
    subst r
    cases y with
    | false =>
      rw [if_neg Bool.false_ne_true] at e1 ⊢
      obtain rfl := next_eq e1
      exact k1 σ' H1 M1 .refl a1
    | true =>
      rw [if_pos rfl] at e1 ⊢
      refine ⟨fun σ2 H2 => ∃ M2 env2 st2, Grow H M H2 M2 ∧ At X.K p.xa R σ2 H2 M2 env2 st2 ∧ loopW (fun env st => bnd (fc env st) asB) fb m env2 st2 = some o, fun σ2 H2 h => ⟨m, Nat.lt_succ_self _, h⟩, ?_⟩
      cases q2 : fb env' s1 with
      | none => simp only [q2, seqS] at e1; cases e1
      | some w =>
        obtain ⟨fl, env2, s2⟩ := w
        cases fl with
        | next =>
          simp only [q2, seqS] at e1
          exact ⟨R, M1, env', s1, _, a1, q2, fun σ4 H4 M4 g4 A4 => ⟨M4, env2, s2, (g.trans g1).trans g4, A4, e1⟩⟩
        | ret w =>
          simp only [q2, seqS, Option.some.injEq] at e1
          subst e1
          exact ⟨R, M1, env', s1, _, a1, q2, k1⟩
        | exc n =>
          simp only [q2, seqS, Option.some.injEq] at e1
          subst e1
          exact ⟨R, M1, env', s1, _, a1, q2, k1⟩
/-! ### return, raise -/
theorem s_ret (ha : PE X a (tE X p fa)) : PS X (.Return (some a) pos) (tSt X p fun env st => thenS (fa env st) env fun x s => some (.ret (.d x), env, s)) := by
  refine PS.less (ps_ret ha) fun Dn σ H h => ?_
  obtain ⟨R, M, env, st, o, a, e, k⟩ := h
  refine tS_then a e k fun y b s1 H1 M1 _ g a1 r e1 k1 => ?_
  obtain rfl := (Option.some.inj e1).symm
  exact k1 b H1 M1 .refl a1.S r
theorem s_retV (ha : PE X a (tVn X p fA)) : PS X (.Return (some a) pos) (tSt X p fun env st => thenS (fA env st) env fun w s => some (.ret w, env, s)) := by
  refine PS.less (ps_ret ha) fun Dn σ H h => ?_
  obtain ⟨R, M, env, st, o, a, e, k⟩ := h
  refine tS_then a e k fun y b s1 H1 M1 _ g a1 r e1 k1 => ?_
  obtain rfl := (Option.some.inj e1).symm
  exact k1 b H1 M1 .refl a1.S r
/-- a tuple of cells -/
def refsF (is : List Nat) (env : Env) (st : Store) : Out (List Nat) := lift (refsOf env is) st
abbrev rRefs : RepT (List Nat) (List V) := fun M _ _ ns vs => ∃ as : List Addr, vs = as.map V.ref ∧ ns.map (M[·]?) = as.map some
abbrev tRefs (X : Cx) (p : Pl) (f : Env → Store → Out (List Nat)) : TA := tG X.K p.xa p.adr p.W' rRefs f
theorem refs_nil : PA X [] (tRefs X p (refsF [])) := by
  refine PA.less pa_nil fun σ H Q h => ?_
  obtain ⟨R, M, env, st, o, a, e, k⟩ := h
  obtain rfl := ret_eq (show ret [] st = some o from e)
  exact k.ext a.S [] H Ext.refl ⟨[], rfl, rfl⟩
theorem refs_cons {i : Nat} {is : List Nat} {x : Str} {p1 : Pos} {es : List Expr} (hN : X.N[i]? = some x) (hv : Vis X.env.scope x) (hd : (x == ("__debug__" : Str)) = false) (hcd : (x == ("__classdict__" : Str)) = false) (h : PA X es (tRefs X p (refsF is))) :
    PA X (.Name x p1 :: es) (tRefs X p (refsF (i :: is))) := by
  refine PA.less (pa_cons (pe_var hN hv hd hcd) h rfl) fun σ H Q h => ?_
  obtain ⟨R, M, env, st, o, a, e, k⟩ := h
  obtain ⟨ns, e0, rfl⟩ := lift_eq (show lift (refsOf env (i :: is)) st = some o from e)
  clear e
  unfold refsOf at e0
  rw [List.mapM_cons] at e0
  obtain ⟨n, e1, e0⟩ := Option.bind_eq_some_iff.mp e0
  obtain ⟨ns', e2, e0⟩ := Option.bind_eq_some_iff.mp e0
  cases e0
  have e3 : slot env i = some (.r n) := by
    split at e1 <;> cases e1
    assumption
  obtain ⟨v, h1, ad, h2, rfl⟩ := a.E i _ e3
  refine ⟨_, h1, R, M, env, st, (.val ns', st), a, ?_, fun vs H' M' g S r => ?_⟩
  · show lift (refsOf env is) st = _
    unfold refsOf
    rw [e2]; rfl
  · obtain ⟨as, rfl, hm⟩ := r
    obtain ⟨t, et⟩ := g.pre
    exact k _ H' M' g S ⟨ad :: as, rfl, by simp only [List.map_cons]; rw [hm, pre_get et h2]⟩
theorem refs_len {env : Env} {is : List Nat} {ns : List Nat} (q : refsOf env is = some ns) : ns.length = is.length := by
  unfold refsOf at q
  induction is generalizing ns with
  | nil => simp only [List.mapM_nil] at q; cases q; rfl
  | cons i is ih =>
    rw [List.mapM_cons] at q
    obtain ⟨n, e1, q⟩ := Option.bind_eq_some_iff.mp q
    obtain ⟨ns', e2, q⟩ := Option.bind_eq_some_iff.mp q
    cases q
    simp only [List.length_cons]
    rw [ih e2]
theorem s_retT {is : List Nat} {es : List Expr} {k0 : Nat} {tp : Pos} (h : PA X es (tRefs X p (refsF is))) (hl : is.length ≤ LIM) : PS X (.Return (some (.Tuple es k0 tp)) pos) (tSt X p fun env st => match refsOf env is with
    | some ns => some (.ret (.rt ns), env, st)
    | none => none) := by
  refine PS.less (ps_ret (pe_tup h)) fun Dn σ H h => ?_
  obtain ⟨R, M, env, st, o, a, e, k⟩ := h
  cases q : refsOf env is with
  | none => simp only [q] at e; cases e
  | some ns =>
    simp only [q, Option.some.injEq] at e
    subst e
    refine ⟨R, M, env, st, (.val ns, st), a, by show lift (refsOf env is) st = _; rw [q]; rfl, fun vs H' M' g S r => ?_⟩
    obtain ⟨as, rfl, hm⟩ := r
    have hlen : as.length ≤ LIM := by
      have h1 := congrArg List.length hm
      have h2 := refs_len q
      simp only [List.length_map] at h1
      omega
    refine ⟨by rw [List.length_map]; exact lim_line hlen, fun u hu => ?_⟩
    exact k _ _ M' (g.trans (.ext (Ext.new hu))) (S.ext (Ext.new hu)) ⟨u, as, rfl, upd_same, S.fresh hu, hm⟩
theorem s_raise {e : Expr} {n : Nat} (hc : X.calm = true) (tk : Takes X p.W') (he : PMk X e (fun _ H Q => Q (.ref (p.adr n)) none H)) : PS X (.Raise (some e) none pos) (tSt X p fun env st => some (.exc n, env, st)) := by
  refine PS.less (ps_raise hc tk he) fun Dn σ H h => ?_
  obtain ⟨R, M, env, st, o, a, e, k⟩ := h
  obtain rfl := (Option.some.inj e).symm
  exact k σ H M .refl a
end
end Cw
/-! 11. The checker: does a compact text say what a model's text says? -/
namespace Cw
open PySem PySem.Spec PyProof.Rows L2
structure Tb where
  defs : List (Str × Nat)
  gi : List (Str × Int)
  gs : List (Str × Str)
  bl : List Str
  cls : List Str
structure Sx where
  N : List Str
  sc : Scope
  fn : Str → Bool
  top : Bool
  calm : Bool
def visB (sc : Scope) (x : Str) : Bool := match sc.names.lookup x with
  | some .local => true
  | some .cell => true
  | some .free => true
  | _ => false
def locB (sc : Scope) (x : Str) : Bool := match sc.names.lookup x with
  | some .local => true
  | some .cell => true
  | _ => false
def lclB (sc : Scope) (x : Str) : Bool := match sc.names.lookup x with
  | some .local => true
  | _ => false
def glB (sc : Scope) (x : Str) : Bool := match sc.names.lookup x with
  | some .globalImplicit => true
  | _ => false
def okN (x : Str) : Bool := !(x == ("__debug__" : Str)) && !(x == ("__classdict__" : Str))
def ixB (S : Sx) (i : Nat) (x : Str) : Bool := match S.N[i]? with
  | some y => decide (y = x)
  | none => false
def nmB (S : Sx) (i : Nat) (x : Str) : Bool := ixB S i x && visB S.sc x && okN x
def tgB (S : Sx) (i : Nat) (x : Str) : Bool := ixB S i x && locB S.sc x && (S.fn x || lclB S.sc x)
def blB (T : Tb) (S : Sx) (nm x : Str) : Bool := decide (x = nm) && glB S.sc x && T.bl.any fun y => decide (y = x)
theorem blB_ok {T : Tb} {S : Sx} {nm x : Str} (h : blB T S nm x = true) : x = nm ∧ S.sc.names.lookup x = some .globalImplicit ∧ x ∈ T.bl := by
  simp only [blB, Bool.and_eq_true, decide_eq_true_eq, List.any_eq_true] at h
  obtain ⟨⟨h1, h2⟩, y, h3, rfl⟩ := h
  refine ⟨h1, ?_, h3⟩
  unfold glB at h2
  split at h2 <;> first | assumption | cases h2
theorem glB_ok {sc : Scope} {x : Str} (h : glB sc x = true) : sc.names.lookup x = some .globalImplicit := by
  unfold glB at h
  split at h <;> first | assumption | cases h
theorem lclB_ok {sc : Scope} {x : Str} (h : lclB sc x = true) : sc.names.lookup x = some .local := by
  unfold lclB at h
  split at h <;> first | assumption | cases h
theorem visB_ok {sc : Scope} {x : Str} (h : visB sc x = true) : Vis sc x := by
  unfold visB at h
  split at h <;> first | exact .inl (by assumption) | exact .inr (.inl (by assumption)) | exact .inr (.inr (by assumption)) | cases h
theorem locB_ok {sc : Scope} {x : Str} (h : locB sc x = true) : Loc sc x := by
  unfold locB at h
  split at h <;> first | exact .inl (by assumption) | exact .inr (by assumption) | cases h
theorem okN_ok {x : Str} (h : okN x = true) : (x == ("__debug__" : Str)) = false ∧ (x == ("__classdict__" : Str)) = false := by
  unfold okN at h
  simpa using h
theorem ixB_ok {S : Sx} {i : Nat} {x : Str} (h : ixB S i x = true) : S.N[i]? = some x := by
  unfold ixB at h
  split at h
  · rename_i y e
    rw [e, of_decide_eq_true h]
  · cases h
/-! what a text is not -/
def nst : Expr → Bool
  | .Starred .. => false
  | _ => true
def nse : Expr → Bool
  | .Set .. => false
  | _ => true
def nsl : Expr → Bool
  | .Slice .. => false
  | _ => true
def nlc : Expr → Bool
  | .ListComp .. => false
  | .SetComp .. => false
  | .DictComp .. => false
  | _ => true
def ntu : Expr → Bool
  | .Tuple .. => false
  | _ => true
theorem nst_ok {a : Expr} {es : List Expr} {env : PySem.Env} (h : nst a = true) : starEach (a :: es) env = (false, PySem.eval a env) :: starEach es env := by
  cases a <;> first | rfl | cases h
theorem nse_ok {a : Expr} {op : CmpOp} (h : nse a = true) : behindInMarks op a = false := by
  cases a <;> first | rfl | cases h
theorem nsi_ok {a : Expr} {env : PySem.Env} (h : nse a = true) (x : Value) : foldedSetIterable a env x = pure x := by
  cases a <;> first | rfl | cases h
theorem nsl_ok {a : Expr} (h : nsl a = true) : PlainIx a := by
  intro o i
  cases a <;> first | rfl | cases h
theorem nlc_ok {a : Expr} {t : Option Expr} {l : Nat} {env : PySem.Env} (h : nlc a = true) : swapsWith a t l env = pure false := by
  cases a <;> first | rfl | cases h
theorem stt_ok {a : Expr} {ts : List Expr} {k : Nat} {tp : Pos} {l : Nat} {env : PySem.Env} : swapsWithSole [.Tuple ts k tp] a l env = pure false := by
  cases a <;> rfl
theorem sts_ok {a o i : Expr} {tp : Pos} {l : Nat} {env : PySem.Env} : swapsWithSole [.Subscript o i tp] a l env = pure false := by
  cases a <;> rfl
theorem swt_ok {a : Expr} {ts : List Expr} {k : Nat} {tp : Pos} {env : PySem.Env} (h : ntu a = true) : swappedStores [.Tuple ts k tp] a env = pure none := by
  cases a <;> first | rfl | cases h
theorem sws_ok {a o i : Expr} {tp : Pos} {env : PySem.Env} : swappedStores [.Subscript o i tp] a env = pure none := by
  cases a <;> rfl
theorem ass_ok {nm : Str} {p1 tpos : Pos} {b : Expr} {env : PySem.Env} (h : nsl b = true) (v : Value) : assign (.Subscript (.Name nm p1) b tpos) env v = (do
      let ov ← holding [v] (PySem.eval (.Name nm p1) env)
      let iv ← holding [v, ov] (PySem.eval b env)
      standAt tpos
      holding [v, ov, iv] (setItem ov iv v)
      release [v, ov, iv] []) := by
  cases b <;> first | rfl | cases h
/-- a comprehension's list goes by itself into a name -/
def swB (S : Sx) (a : Expr) (x : Str) (px : Pos) : Bool := match a with
  | .ListComp _ _ s ps => lclB S.sc x && (px.line == ps.line) && !(s.names.any fun (n, k) => n == x && (k == .local || k == .cell))
  | _ => false
theorem sw_ok {S : Sx} {a : Expr} {x : Str} {px : Pos} {l : Nat} {env : PySem.Env} (hs : env.scope = S.sc) (hk : S.sc.kind = .function) (h : swB S a x px = true) : swapsWith a (some (.Name x px)) l env = pure true := by
  cases a <;> first | cases h | skip
  rename_i elt gs s ps
  simp only [swB, Bool.and_eq_true] at h
  have e1 : (env.blockKind == ScopeKind.function) = true := by
    unfold Env.blockKind
    rw [hs, hk]; rfl
  have e2 : (env.kindOf x == some NameKind.local) = true := by
    unfold Env.kindOf
    rw [hs, lclB_ok h.1.1]; rfl
  show (do return env.blockKind == .function && env.kindOf x == some .local && px.line == ps.line && !(s.names.any fun (n, k) => n == x && (k == .local || k == .cell)) : Sem Bool) = _
  rw [e1, e2, h.1.2, h.2]
  rfl
theorem sw_no {S : Sx} {a : Expr} {x : Str} {px : Pos} {l : Nat} {env : PySem.Env} (hs : env.scope = S.sc) (hk : S.sc.kind = .function) (ha : (match a with
    | .ListComp .. => true
    | _ => false) = true) (h : swB S a x px = false) : swapsWith a (some (.Name x px)) l env = pure false := by
  cases a <;> first | (cases ha; done) | skip
  rename_i elt gs s ps
  have e1 : (env.blockKind == ScopeKind.function) = true := by
    unfold Env.blockKind
    rw [hs, hk]; rfl
  have e2 : (env.kindOf x == some NameKind.local) = lclB S.sc x := by
    unfold Env.kindOf lclB
    rw [hs]
    split
    · rename_i e; rw [e]; rfl
    · rename_i e
      rw [beq_eq_false_iff_ne]
      exact e
  show (do return env.blockKind == .function && env.kindOf x == some .local && px.line == ps.line && !(s.names.any fun (n, k) => n == x && (k == .local || k == .cell)) : Sem Bool) = _
  rw [e1, e2, Bool.true_and]
  exact congrArg _ h
/-- two names from two values -/
def parB (S : Sx) (x y : Str) (px py : Pos) (a b : Expr) : Bool := nst a && nst b && lclB S.sc x && lclB S.sc y && (py.line == px.line) && decide (x ≠ y) && !([a, b].all (foldedForSure 8)) && !([a, b].all (constantsAlone 8))
theorem par_ok {S : Sx} {x y : Str} {px py pt pt2 : Pos} {a b : Expr} {kt k2 : Nat} {env : PySem.Env} (hs : env.scope = S.sc) (hk : S.sc.kind = .function) (h : parB S x y px py a b = true) :
    swappedStores [.Tuple [.Name x px, .Name y py] kt pt] (.Tuple [a, b] k2 pt2) env = pure (some [x, y]) := by
  simp only [parB, Bool.and_eq_true, decide_eq_true_eq, Bool.not_eq_true'] at h
  obtain ⟨⟨⟨⟨⟨⟨⟨h1, h2⟩, h3⟩, h4⟩, h5⟩, h6⟩, h7⟩, h8⟩ := h
  have e1 : (env.blockKind != ScopeKind.function) = false := by
    unfold Env.blockKind
    rw [hs, hk]; rfl
  have e2 : (env.kindOf x == some NameKind.local) = true := by
    unfold Env.kindOf
    rw [hs, lclB_ok h3]; rfl
  have e3 : (env.kindOf y == some NameKind.local) = true := by
    unfold Env.kindOf
    rw [hs, lclB_ok h4]; rfl
  have e5 : (px.line == px.line) = true := by simp
  have e6 : ([x, y].eraseDups.length != 2) = false := by
    have : (y == x) = false := by
      rw [beq_eq_false_iff_ne]; exact fun z => h6 z.symm
    simp [List.eraseDups_cons, this]
  unfold swappedStores
  simp only [List.length_cons, List.length_nil, e1, List.filterMap_cons, List.head?_cons, Option.map_some, Option.getD_some, Expr.pos, e2, e3, h5, e5, List.filterMap_nil, Bool.and_self, if_true, h7, h8]
  simp [e6]
  rintro (z | z)
  · exfalso
    cases a <;> first | (cases z; done) | (cases h1; done)
  · exfalso
    cases b <;> first | (cases z; done) | (cases h2; done)
/-! ### the checker -/
def bfN : Bf → Str
  | .len => "len" | .tup => "tuple" | .lst => "list" | .sum => "sum" | .any => "any" | .all => "all" | .int => "int" | .maxd => "max"
def opB : Op2 → Operator → Bool
  | .add, .Add => true | .sub, .Sub => true | .mul, .Mult => true | .md, .Mod => true | .fd, .FloorDiv => true | .pw, .Pow => true
  | _, _ => false
def cpB : Cp → CmpOp → Bool
  | .eq, .Eq => true | .ne, .NotEq => true | .lt, .Lt => true | .le, .LtE => true | .gt, .Gt => true | .ge, .GtE => true | .isin, .In => true | .notin, .NotIn => true
  | _, _ => false
def ckTs (S : Sx) : List Nat → List Expr → Bool
  | [], [] => true
  | i :: is, .Name x _ :: es => tgB S i x && ckTs S is es
  | _, _ => false
def ckT (S : Sx) : Tg → Expr → Bool
  | .nm i, .Name x _ => tgB S i x
  | .tp is, .Tuple es _ _ => ckTs S is es
  | _, _ => false
def isTp : Expr → Bool
  | .Tuple .. => true
  | _ => false
def ownN (S : Sx) : List Nat → List (Str × Nat)
  | [] => []
  | i :: is => match S.N[i]? with
    | some x => (x, i) :: ownN S is
    | none => ("", i) :: ownN S is
theorem ownN_snd {S : Sx} : ∀ {is : List Nat}, (ownN S is).map (·.2) = is
  | [] => rfl
  | i :: is => by
    unfold ownN
    split <;> simp [ownN_snd (is := is)]
def Sx.blk (S : Sx) (scope : Scope) : Sx := { S with sc := relS scope S.sc, fn := fun x => scope.names.lookup x == some .cell, top := false }
mutual
def ckE (T : Tb) : CE → Sx → Expr → Bool
  | .var i, S, e => match e with
    | .Name x _ => nmB S i x
    | _ => false
  | .gint x i, S, e => match e with
    | .Name y _ => decide (y = x) && glB S.sc y && okN y && T.gi.any fun q => decide (q = (x, i))
    | _ => false
  | .gstr x s, S, e => match e with
    | .Name y _ => decide (y = x) && glB S.sc y && okN y && T.gs.any fun q => decide (q = (x, s))
    | _ => false
  | .cint i, _, e => match e with
    | .Constant (.int j) _ _ => decide (j = i)
    | _ => false
  | .cbl b, _, e => match e with
    | .Constant (.bool j) _ _ => decide (j = b)
    | _ => false
  | .cnon, _, e => match e with
    | .Constant .none _ _ => true
    | _ => false
  | .cstr s, _, e => match e with
    | .Constant (.str j) _ _ => decide (j = s)
    | _ => false
  | .tup es, S, e => match e with
    | .Tuple l _ _ => ckEs T es S l && decide (l.length ≤ 1000)
    | _ => false
  | .lst es, S, e => match e with
    | .List l _ => ckEs T es S l && decide (l.length ≤ 1000)
    | _ => false
  | .bin o a b, S, e => match e with
    | .BinOp l op r _ => opB o op && ckE T a S l && ckE T b S r
    | _ => false
  | .neg a, S, e => match e with
    | .UnaryOp .USub x _ => ckE T a S x
    | _ => false
  | .cmp o a b, S, e => match e with
    | .Compare l [op] [r] _ => cpB o op && ckE T a S l && ckE T b S r && nse r
    | _ => false
  | .isN a, S, e => match e with
    | .Compare l [.Is] [.Constant .none _ _] _ => ckE T a S l
    | _ => false
  | .notN a, S, e => match e with
    | .Compare l [.IsNot] [.Constant .none _ _] _ => ckE T a S l
    | _ => false
  | .notB a b, S, e => match e with
    | .Compare l [.IsNot] [.Constant (.bool c) _ _] _ => decide (c = b) && ckE T a S l
    | _ => false
  | .chain o p a b c, S, e => match e with
    | .Compare l [op, op'] [m, r] _ => cpB o op && cpB p op' && ckE T a S l && ckE T b S m && ckE T c S r && nse r
    | _ => false
  | .and es, S, e => match e with
    | .BoolOp .And l _ => ckB T es S l
    | _ => false
  | .or es, S, e => match e with
    | .BoolOp .Or l _ => ckB T es S l
    | _ => false
  | .not a, S, e => match e with
    | .UnaryOp .Not x _ => ckE T a S x
    | _ => false
  | .ife c a b, S, e => match e with
    | .IfExp t x y _ => ckE T c S t && ckE T a S x && ckE T b S y
    | _ => false
  | .idx a b, S, e => match e with
    | .Subscript l r _ => nsl r && ckA T a S l && ckE T b S r
    | _ => false
  | .sl a lo hi, S, e => match e with
    | .Subscript l (.Slice u v none _) _ => ckE T a S l && ckO T lo S u && ckO T hi S v
    | _ => false
  | .rev a, S, e => match e with
    | .Subscript l (.Slice none none (some (.UnaryOp .USub (.Constant (.int j) _ _) _)) _) _ => decide (j = 1) && ckE T a S l
    | _ => false
  | .fn f a, S, e => match e with
    | .Call (.Name x _) [b] [] _ => decide (f ≠ .maxd) && blB T S (bfN f) x && nst b && S.calm && ckA T a S b
    | .Call (.Name x _) [b] [⟨some dn, .Constant (.int j) _ _, _⟩] _ => decide (f = .maxd) && decide (dn = "default") && decide (j = 0) && blB T S "max" x && nst b && S.calm && ckA T a S b
    | _ => false
  | .fn2 f a b, S, e => match e with
    | .Call (.Name x _) [u, v] [] _ => blB T S (match f with
      | .max => "max"
      | .min => "min") x && nst u && nst v && S.calm && ckE T a S u && ckE T b S v
    | _ => false
  | .join z a, S, e => match e with
    | .Call (.Attribute (.Constant (.str y) _ _) x ap) [b] [] pos => decide (y = z) && decide (x = "join") && (ap.endLine == pos.line) && nst b && ckE T a S b
    | _ => false
  | .isi a t, S, e => match e with
    | .Call (.Name x _) [b, .Name y _] [] _ => blB T S "isinstance" x && blB T S (Str.ofString (tyName t)) y && nst b && ckE T a S b
    | _ => false
  | .isE _ _, _, _ => false
  | .isEs _ _, _, _ => false
  | .call f as, S, e => match e with
    | .Call (.Name x _) l [] _ => S.calm && okN x && glB S.sc x && (match T.defs[f]? with
      | some (y, n) => decide (y = x) && decide (l.length = n)
      | none => false) && decide (l ≠ []) && ckAs T as S l
    | _ => false
  | .lc elt tg src cnd own, S, e => match e with
    | .ListComp x [⟨t, it, ifs, k⟩] scope _ => decide (k = 0) && S.calm && nse it && blkC S.N S.sc scope (ownN S own) && ckT (S.blk scope) tg t && tgIn own tg && ckI T src S t it && ckC T cnd (S.blk scope) ifs && ckE T elt (S.blk scope) x
    | _ => false
  | .cat a b, S, e => match e with
    | .BinOp l .Add r _ => ckA T a S l && ckA T b S r
    | _ => false
  | .pop i .no, S, e => match e with
    | .Call (.Attribute (.Name x _) m ap) [] [] pos => decide (m = "pop") && nmB S i x && (ap.endLine == pos.line)
    | _ => false
  | .pop i (.yes c), S, e => match e with
    | .Call (.Attribute (.Name x _) m ap) [y] [] pos => decide (m = "pop") && nmB S i x && (ap.endLine == pos.line) && nst y && ckE T c S y
    | _ => false
def ckEs (T : Tb) : CEs → Sx → List Expr → Bool
  | .nil, _, l => match l with
    | [] => true
    | _ => false
  | .cons c cs, S, l => match l with
    | x :: xs => nst x && ckE T c S x && ckEs T cs S xs
    | _ => false
def ckB (T : Tb) : CEs → Sx → List Expr → Bool
  | .nil, _, _ => false
  | .cons c .nil, S, l => match l with
    | [x] => ckE T c S x
    | _ => false
  | .cons c (.cons c' cs), S, l => match l with
    | x :: y :: xs => ckE T c S x && ckB T (.cons c' cs) S (y :: xs)
    | _ => false
def ckO (T : Tb) : CO → Sx → Option Expr → Bool
  | .no, _, o => match o with
    | none => true
    | _ => false
  | .yes c, S, o => match o with
    | some x => ckE T c S x
    | _ => false
def ckC (T : Tb) : CO → Sx → List Expr → Bool
  | .no, _, o => match o with
    | [] => true
    | _ => false
  | .yes c, S, o => match o with
    | [x] => ckE T c S x
    | _ => false
def ckA (T : Tb) : CA → Sx → Expr → Bool
  | .e a, S, e => ckE T a S e
  | .r i, S, e => match e with
    | .Name x _ => nmB S i x
    | _ => false
def ckAs (T : Tb) : CAs → Sx → List Expr → Bool
  | .nil, _, l => match l with
    | [] => true
    | _ => false
  | .cons c cs, S, l => match l with
    | x :: xs => nst x && ckA T c S x && ckAs T cs S xs
    | _ => false
def ckI (T : Tb) : CI → Sx → Expr → Expr → Bool
  | .of a, S, _, e => ckA T a S e
  | .rng1 a, S, _, e => match e with
    | .Call (.Name x _) [b] [] _ => blB T S "range" x && nst b && ckE T a S b
    | _ => false
  | .rng2 a b, S, _, e => match e with
    | .Call (.Name x _) [u, v] [] _ => blB T S "range" x && nst u && nst v && ckE T a S u && ckE T b S v
    | _ => false
  | .zip a b, S, t, e => match e with
    | .Call (.Name x _) [u, v] [] _ => isTp t && blB T S "zip" x && nst u && nst v && ckA T a S u && ckA T b S v
    | _ => false
  | .enm a, S, t, e => match e with
    | .Call (.Name x _) [b] [] _ => isTp t && blB T S "enumerate" x && nst b && ckA T a S b
    | _ => false
end
end Cw
/-! 12. What the checker lets pass holds: expressions. -/
namespace Cw
open PySem PySem.Spec PyProof.Rows L2
structure Lk (T : Tb) (S : Sx) (g : Den) (X : Cx) (p : Pl) : Prop where
  nn : X.N = S.N
  nd : S.N.Nodup
  sc : X.env.scope = S.sc
  kd : S.sc.kind = .function
  fn : X.fn = S.fn
  cm : S.calm = true → X.calm = true
  un : X.A.units + 64 < cLine
  bl : ∀ x ∈ T.bl, X.mg x = none
  gi : ∀ x i, (x, i) ∈ T.gi → ∃ t, X.mg x = some (.int i t)
  gs : ∀ x i, (x, i) ∈ T.gs → ∃ t, X.mg x = some (.str i t)
  df : S.calm = true → ∀ (f : Nat) (x : Str) (n : Nat), T.defs[f]? = some (x, n) → ∃ (k : Nat) (a : Addr) (fd : FuncData) (ps : List Str), FnOk X.prog X.w X.K X.mg X.base (L2.CX X.prog X.w) k a fd ps (spD X.K p.adr n (g f)) ∧ Room k X.A ∧ X.mg x = some (.ref a) ∧ PySem.W.keepIn X.K (.ref a) = true ∧ Binds X.K fd ps [] ∧ ps.length = n
  tk : Takes X p.W'
  tp : S.top = true → PassesOwn (model X.prog X.w) X.A X.env X.xe
section
variable {T : Tb} {S : Sx} {g : Den} {X : Cx} {p : Pl}
theorem Lk.nm (L : Lk T S g X p) {i : Nat} {x : Str} (h : nmB S i x = true) : X.N[i]? = some x ∧ Vis X.env.scope x ∧ (x == ("__debug__" : Str)) = false ∧ (x == ("__classdict__" : Str)) = false := by
  simp only [nmB, Bool.and_eq_true] at h
  rw [L.nn, L.sc]
  exact ⟨ixB_ok h.1.1, visB_ok h.1.2, okN_ok h.2⟩
theorem Lk.tg (L : Lk T S g X p) {i : Nat} {x : Str} (h : tgB S i x = true) : X.N.Nodup ∧ X.N[i]? = some x ∧ Loc X.env.scope x ∧ (X.fn x = true ∨ X.env.scope.names.lookup x = some .local) := by
  simp only [tgB, Bool.and_eq_true, Bool.or_eq_true] at h
  rw [L.nn, L.sc, L.fn]
  exact ⟨L.nd, ixB_ok h.1.1, locB_ok h.1.2, h.2.imp id lclB_ok⟩
theorem Lk.gl (L : Lk T S g X p) {nm x : Str} (h : blB T S nm x = true) : x = nm ∧ Gl X x ∧ X.mg x = none := by
  obtain ⟨h1, h2, h3⟩ := blB_ok h
  refine ⟨h1, ?_, L.bl x h3⟩
  show X.env.scope.names.lookup x = _
  rw [L.sc]; exact h2
theorem Lk.glo (L : Lk T S g X p) {x : Str} (h : glB S.sc x = true) : Gl X x := by
  show X.env.scope.names.lookup x = _
  rw [L.sc]; exact glB_ok h
theorem Lk.blk (L : Lk T S g X p) {scope : Scope} (hk : scope.kind = .function) (s : Shared) (H : Hp) (C : Addr) (cl : List (Str × Addr)) (fp : List Addr) : Lk T (S.blk scope) g (X.blk s H scope (compEnvC scope cl C X.env) fp) p.blk := by
  refine ⟨L.nn, L.nd, ?_, hk, rfl, L.cm, L.un, L.bl, L.gi, L.gs, L.df, ?_, fun z => by cases z⟩
  · show relS scope X.env.scope = relS scope S.sc
    rw [L.sc]
  · intro u s' h
    obtain ⟨a, B, sI, pins, σ, H, cls, d, e, I, nb, up, sky, na, os, ag, w⟩ := h
    exact w
/-! targets -/
theorem okTs (L : Lk T S g X p) : ∀ {is : List Nat} {es : List Expr}, ckTs S is es = true → PGs X es (is.foldr (fun i t => gCons (gName i) t) gNil) ∧ (assignEach es X.env).length = is.length ∧ (assignEach es X.env).findIdx? (·.1) = none
  | [], [], _ => ⟨pgs_nil, rfl, rfl⟩
  | i :: is, .Name x pp :: es, h => by
    simp only [ckTs, Bool.and_eq_true] at h
    obtain ⟨h1, h2, h3, h4⟩ := L.tg h.1
    obtain ⟨q1, q2, q3⟩ := okTs L h.2
    refine ⟨pgs_cons (pg_name h1 h2 h3 h4) q1 rfl, ?_, ?_⟩
    · show (assignEach es X.env).length + 1 = is.length + 1
      rw [q2]
    · show List.findIdx? (·.1) ((false, _) :: assignEach es X.env) = none
      rw [List.findIdx?_cons, q3]; rfl
theorem okT (L : Lk T S g X p) (hc : X.calm = true) {tg : Tg} {e : Expr} (h : ckT S tg e = true) : PG X e (gT X.K tg) := by
  cases tg with
  | nm i =>
    cases e <;> first | (cases h; done) | skip
    obtain ⟨h1, h2, h3, h4⟩ := L.tg h
    exact pg_name h1 h2 h3 h4
  | tp is =>
    cases e <;> first | (cases h; done) | skip
    obtain ⟨q1, q2, q3⟩ := okTs L h
    exact pg_tup hc q1 q2 q3
/-! results that are lists -/
def isF : CE → Bool
  | .lst _ => true
  | .lc .. => true
  | .cat .. => true
  | .fn .lst _ => true
  | .bin .add _ _ => true
  | .bin .mul _ _ => true
  | _ => false
theorem evEs_len {env : Env} : ∀ {es : CEs} {l : List Expr} {st : Store} {ds : List D} {s : Store}, ckEs T es S l = true → evEs g es env st = some (.val ds, s) → ds.length = l.length
  | .nil, l, st, ds, s, hl, h => by
    cases l <;> first | (cases hl; done) | skip
    simp only [evEs, ret, Option.some.injEq, Prod.mk.injEq, Rs.val.injEq] at h
    rw [← h.1]; rfl
  | .cons c cs, l, st, ds, s, hl, h => by
    cases l with
    | nil => cases hl
    | cons x xs =>
      simp only [ckEs, Bool.and_eq_true] at hl
      simp only [evEs] at h
      obtain ⟨y, s1, h1, h2⟩ := bnd_val h
      obtain ⟨ys, s2, h3, h4⟩ := bnd_val h2
      simp only [ret, Option.some.injEq, Prod.mk.injEq, Rs.val.injEq] at h4
      rw [← h4.1, List.length_cons, List.length_cons, evEs_len hl.2 h3]
theorem evAs_len {env : Env} : ∀ {es : CAs} {l : List Expr} {st : Store} {ds : List W} {s : Store}, ckAs T es S l = true → evAs g es env st = some (.val ds, s) → ds.length = l.length
  | .nil, l, st, ds, s, hl, h => by
    cases l <;> first | (cases hl; done) | skip
    simp only [evAs, ret, Option.some.injEq, Prod.mk.injEq, Rs.val.injEq] at h
    rw [← h.1]; rfl
  | .cons c cs, l, st, ds, s, hl, h => by
    cases l with
    | nil => cases hl
    | cons x xs =>
      simp only [ckAs, Bool.and_eq_true] at hl
      simp only [evAs] at h
      obtain ⟨y, s1, h1, h2⟩ := bnd_val h
      obtain ⟨ys, s2, h3, h4⟩ := bnd_val h2
      simp only [ret, Option.some.injEq, Prod.mk.injEq, Rs.val.injEq] at h4
      rw [← h4.1, List.length_cons, List.length_cons, evAs_len hl.2 h3]
theorem small_lim {n : Nat} (h : n ≤ 1000) : n ≤ LIM := Nat.le_trans h (by decide)
/-- the three promises of an expression -/
structure EOk (X : Cx) (p : Pl) (e : Expr) (b : Bool) (f : Env → Store → Out D) : Prop where
  v : PE X e (tE X p f)
  t : PT X e (tT X p f)
  l : b = true → PE X e (tF X p f)
theorem EOk.val {e : Expr} {b : Bool} {f : Env → Store → Out D} (h : PE X e (tE X p f)) (he : ∀ whole, isTrue e X.env whole = (do let v ← whole; standAt e.pos; holding [v] (truthy v))) (hb : b = true → PE X e (tF X p f)) : EOk X p e b f := ⟨h, t_val h he, hb⟩
theorem no_f {P : Prop} : false = true → P := fun z => by cases z
end
end Cw
/-! 13. What the checker lets pass holds: expressions, the induction. -/
namespace Cw
open PySem PySem.Spec PyProof.Rows L2
section
variable {X : Cx} {p : Pl} {a b c : Expr} {pos : Pos} {fa fb fc : Env → Store → Out D}
theorem ok_bin {o : Op2} {op : Operator} (ho : opB o op = true) (ha : PE X a (tE X p fa)) (hb : PE X b (tE X p fb)) :
    PE X (.BinOp a op b pos) (tE X p fun env st => bnd (fa env st) fun x s => bnd (fb env s) fun y s => lift (op2 o x y) s) := by
  cases o <;> cases op <;> first | (cases ho; done) | skip
  · exact n_bin op_addA sem_add ha hb
  · exact n_bin op_sub sem_sub ha hb
  · exact n_bin op_mulA sem_mul ha hb
  · exact n_bin op_mod sem_md ha hb
  · exact n_bin op_fdivW sem_fd ha hb
  · exact n_bin op_pow sem_pw ha hb
theorem ok_cmp {o : Cp} {op : CmpOp} (hu : X.A.units + 64 < cLine) (ho : cpB o op = true) (ha : PE X a (tE X p fa)) (hb : PE X b (tE X p fb)) (hn : behindInMarks op b = false) :
    EOk X p (.Compare a [op] [b] pos) false fun env st => bnd (fa env st) fun x s => bnd (fb env s) fun y s => lift ((cmpD o x y).map .bl) s := by
  cases o <;> cases op <;> first | (cases ho; done) | skip
  · exact ⟨n_cmpR (op_eqD hu) sem_eq ha hb hn, t_cmpR (op_eqD hu) sem_eq ha hb hn, no_f⟩
  · exact ⟨n_cmpR (op_neD hu) sem_ne ha hb hn, t_cmpR (op_neD hu) sem_ne ha hb hn, no_f⟩
  · exact ⟨n_cmpR op_lt sem_int ha hb hn, t_cmpR op_lt sem_int ha hb hn, no_f⟩
  · exact ⟨n_cmpR op_le sem_int ha hb hn, t_cmpR op_le sem_int ha hb hn, no_f⟩
  · exact ⟨n_cmpR op_gt sem_int ha hb hn, t_cmpR op_gt sem_int ha hb hn, no_f⟩
  · exact ⟨n_cmpR op_ge sem_int ha hb hn, t_cmpR op_ge sem_int ha hb hn, no_f⟩
  · exact ⟨n_cmpR op_inA sem_in ha hb hn, t_cmpR op_inA sem_in ha hb hn, no_f⟩
  · exact ⟨n_cmpR op_notinA sem_notin ha hb hn, t_cmpR op_notinA sem_notin ha hb hn, no_f⟩
/-- how a comparison reads -/
def CpOk (X : Cx) (o : Cp) (op : CmpOp) : Prop := ∃ r, OpR X (compareOp op) r ∧ SemR X.K (fun x y => (cmpD o x y).map .bl) r
theorem cp_ok {o : Cp} {op : CmpOp} (hu : X.A.units + 64 < cLine) (ho : cpB o op = true) : CpOk X o op := by
  cases o <;> cases op <;> first | (cases ho; done) | skip
  · exact ⟨_, op_eqD hu, sem_eq⟩
  · exact ⟨_, op_neD hu, sem_ne⟩
  · exact ⟨_, op_lt, sem_int⟩
  · exact ⟨_, op_le, sem_int⟩
  · exact ⟨_, op_gt, sem_int⟩
  · exact ⟨_, op_ge, sem_int⟩
  · exact ⟨_, op_inA, sem_in⟩
  · exact ⟨_, op_notinA, sem_notin⟩
theorem ok_chain {o o' : Cp} {op op' : CmpOp} (hu : X.A.units + 64 < cLine) (ho : cpB o op = true) (ho' : cpB o' op' = true) (ha : PE X a (tE X p fa)) (hb : PE X b (tE X p fb)) (hc : PE X c (tE X p fc)) (hn : behindInMarks op' c = false) :
    EOk X p (.Compare a [op, op'] [b, c] pos) false (chainF (cmpD o) (cmpD o') fa fb fc) := by
  obtain ⟨r, h1, h2⟩ := cp_ok hu ho
  obtain ⟨r', h1', h2'⟩ := cp_ok hu ho'
  have hm : lastMarks [op, op'] [b, c] = false := hn
  exact ⟨n_chain h1 h1' h2 h2' ha hb hc hm, t_chain h1 h1' h2 h2' ha hb hc hm, no_f⟩
theorem ok_isN {k : Nat} {p1 : Pos} (ha : PE X a (tE X p fa)) : EOk X p (.Compare a [.Is] [.Constant .none k p1] pos) false fun env st => bnd (fa env st) fun x s => ret (.bl (match x with
    | .non => true
    | _ => false)) s := ⟨n_cmpR op_isN sem_isN ha n_non rfl, t_cmpR op_isN sem_isN ha n_non rfl, no_f⟩
theorem ok_notN {k : Nat} {p1 : Pos} (ha : PE X a (tE X p fa)) : EOk X p (.Compare a [.IsNot] [.Constant .none k p1] pos) false fun env st => bnd (fa env st) fun x s => ret (.bl (match x with
    | .non => false
    | _ => true)) s := ⟨n_cmpR op_notN sem_notN ha n_non rfl, t_cmpR op_notN sem_notN ha n_non rfl, no_f⟩
theorem ok_notB {k : Nat} {p1 : Pos} {v : Bool} (ha : PE X a (tE X p fa)) : EOk X p (.Compare a [.IsNot] [.Constant (.bool v) k p1] pos) false fun env st => bnd (bnd (fa env st) asB) fun c s => ret (.bl (!decide (c = v))) s := by
  have q : (fun env st => bnd (fa env st) fun x s => bnd (ret (D.bl v) s) fun y s => lift (match x, y with
    | .bl c, .bl b => some (D.bl (!decide (c = b)))
    | _, _ => none) s) = fun env st => bnd (bnd (fa env st) asB) fun c s => ret (.bl (!decide (c = v))) s := by
    funext env st
    rw [bnd_assoc]
    congr 1
    funext x s
    cases x <;> rfl
  rw [← q]
  exact ⟨n_cmpR op_notBl sem_notB ha n_bl rfl, t_cmpR op_notBl sem_notB ha n_bl rfl, no_f⟩
end
variable {T : Tb} {g : Den}
theorem one_star {b : Expr} {env : PySem.Env} (h : nst b = true) : starEach [b] env = [(false, PySem.eval b env)] := nst_ok h
theorem lc_eq {elt : CE} {tg : Tg} {src : CI} {cnd : CO} {own : List Nat} : evE g (.lc elt tg src cnd own) = lcF (evI g src) own tg (evC g cnd) (evE g elt) := by
  funext env st
  rw [evE]
  rfl
theorem lst_is {f : Env → Store → Out (List D)} (env : Env) (st : Store) (d : D) (s : Store) (h : (bnd (f env st) fun ds s => ret (D.lst ds) s) = some (.val d, s)) : ∃ ds, d = .lst ds := by
  obtain ⟨ds, s1, h1, h2⟩ := bnd_val h
  simp only [ret, Option.some.injEq, Prod.mk.injEq, Rs.val.injEq] at h2
  exact ⟨ds, h2.1.symm⟩
theorem lift_val {A : Type} {o : Option A} {s s' : Store} {d : A} (h : lift o s = some (.val d, s')) : o = some d := by
  cases o with
  | none => cases h
  | some x =>
    simp only [lift, Option.some.injEq, Prod.mk.injEq, Rs.val.injEq] at h
    rw [h.1]
theorem cat_is {fA fB : Env → Store → Out W} (env : Env) (st : Store) (d : D) (s : Store) (h : (bnd (fA env st) fun x s => bnd (fB env s) fun y s => lift ((now s x).bind fun d => (now s y).bind fun e => match d, e with
    | .lst _, .lst _ => addD d e
    | _, _ => none) s) = some (.val d, s)) : ∃ ds, d = .lst ds := by
  obtain ⟨x, s1, h1, h2⟩ := bnd_val h
  obtain ⟨y, s2, h3, h4⟩ := bnd_val h2
  have h5 := lift_val h4
  obtain ⟨u, h6, h7⟩ := Option.bind_eq_some_iff.mp h5
  obtain ⟨v, h8, h9⟩ := Option.bind_eq_some_iff.mp h7
  cases u <;> cases v <;> simp only [addD] at h9 <;> try cases h9
  split at h9 <;> cases h9
  exact ⟨_, rfl⟩
theorem lstOf_is {fA : Env → Store → Out W} (env : Env) (st : Store) (d : D) (s : Store) (h : (bnd (fA env st) fun x s => lift ((now s x).bind (bfD .lst)) s) = some (.val d, s)) : ∃ ds, d = .lst ds := by
  obtain ⟨x, s1, h1, h2⟩ := bnd_val h
  have h5 := lift_val h2
  obtain ⟨u, h6, h7⟩ := Option.bind_eq_some_iff.mp h5
  cases u <;> simp only [bfD] at h7 <;> cases h7 <;> exact ⟨_, rfl⟩
theorem tT_if {X : Cx} {p : Pl} {fa fb fc : Env → Store → Out D} {σ : L2.St} {H : Hp} {Q : Bool → Hp → Prop} (h : tT X p (fun env st => bnd (bnd (fc env st) asB) fun x s => if x = true then fa env s else fb env s) σ H Q) :
    tT X p fc σ H fun b H1 => if b = true then tT X p fa σ H1 Q else tT X p fb σ H1 Q := by
  obtain ⟨R, M, env, st, o, a, e, k⟩ := h
  try dsimp only at e
  rw [bnd_assoc] at e
  refine tG_seq a e k fun x b s1 H1 M1 _ g a1 r e1 k1 => ?_
  have r : x = b := r
  subst r
  cases x with
  | true =>
    rw [if_pos rfl] at e1 ⊢
    exact tG_one a1 e1 k1
  | false =>
    rw [if_neg Bool.false_ne_true] at e1 ⊢
    exact tG_one a1 e1 k1
theorem ok_ife {X : Cx} {p : Pl} {a b c : Expr} {pos : Pos} {ba bb bc : Bool} {fa fb fc : Env → Store → Out D} (hc : EOk X p c bc fc) (ha : EOk X p a ba fa) (hb : EOk X p b bb fb) : EOk X p (.IfExp c a b pos) false fun env st => bnd (bnd (fc env st) asB) fun x s => if x = true then fa env s else fb env s := by
  refine ⟨n_ife hc.t ha.v hb.v, ⟨fun pins s σ H Q I h => ?_⟩, no_f⟩
  refine PyProof.Rows.isTrue_IfExp (wpAny_mono (hc.t.run pins s σ H _ I (tT_if h)) (fun d s1 q => ?_) fun _ _ z => z)
  obtain ⟨H1, I1, q1⟩ := q
  cases d with
  | true => exact ha.t.run pins s1 σ H1 Q I1 q1
  | false => exact hb.t.run pins s1 σ H1 Q I1 q1
/-- a built-in of one argument -/
theorem ok_fn {S : Sx} {X : Cx} {p : Pl} (L : Lk T S g X p) {f : Bf} {x : Str} {p0 pos : Pos} {b : Expr} {fA : Env → Store → Out W} (hf : f ≠ .maxd) (hb : blB T S (bfN f) x = true) (hn : nst b = true) (hc : S.calm = true) (ha : PE X b (tV X p fA)) :
    EOk X p (.Call (.Name x p0) [b] [] pos) (isF (.fn f (.r 0))) fun env st => bnd (fA env st) fun x s => lift ((now s x).bind (bfD f)) s := by
  obtain ⟨h1, h2, h3⟩ := L.gl hb
  have h4 := one_star (env := X.env) hn
  cases f with
  | len => exact .val (n_len h1 ha h2 h3 h4) (fun _ => rfl) no_f
  | tup => exact .val (n_tupOf h1 ha h2 h3 h4) (fun _ => rfl) no_f
  | lst => exact .val (n_frz (f_lstOf h1 ha h2 h3 h4) lstOf_is) (fun _ => rfl) fun _ => f_lstOf h1 ha h2 h3 h4
  | sum => exact .val (n_sum h1 (L.cm hc) ha h2 h3 h4) (fun _ => rfl) no_f
  | any => exact .val (n_any h1 (L.cm hc) ha h2 h3 h4) (fun _ => rfl) no_f
  | all => exact .val (n_all h1 (L.cm hc) ha h2 h3 h4) (fun _ => rfl) no_f
  | int => exact .val (n_intOf h1 ha h2 h3 h4) (fun _ => rfl) no_f
  | maxd => exact absurd rfl hf
theorem isF_fn {f : Bf} {a a' : CA} : isF (.fn f a) = isF (.fn f a') := by cases f <;> rfl
theorem ckAs_star {S : Sx} {cs : CAs} {x : Expr} {xs : List Expr} (h : ckAs T cs S (x :: xs) = true) : nst x = true ∧ ∀ y ∈ xs, nst y = true := by
  have all : ∀ (cs : CAs) (l : List Expr), ckAs T cs S l = true → ∀ y ∈ l, nst y = true := by
    intro cs l
    induction l generalizing cs with
    | nil => intro _ y hy; cases hy
    | cons z zs ih =>
      intro h y hy
      cases cs with
      | nil => simp only [ckAs] at h; cases h
      | cons c cs =>
        simp only [ckAs, Bool.and_eq_true] at h
        rcases List.mem_cons.mp hy with rfl | hy
        · exact h.1.1
        · exact ih cs h.2 y hy
  exact ⟨all _ _ h x List.mem_cons_self, fun y hy => all _ _ h y (List.mem_cons_of_mem _ hy)⟩
theorem backTo_any {pos : Pos} {env : PySem.Env} {l : List Expr} (h : ∀ y ∈ l, nst y = true) : (backTo pos (starEach l env)).any (·.1) = false := by
  unfold backTo
  induction l with
  | nil => rfl
  | cons y ys ih =>
    rw [nst_ok (h y List.mem_cons_self), List.map_cons, List.any_cons, ih fun z hz => h z (List.mem_cons_of_mem _ hz)]
    rfl
mutual
theorem okE : ∀ (c : CE) {S : Sx} {X : Cx} {p : Pl}, Lk T S g X p → ∀ {e : Expr}, ckE T c S e = true → EOk X p e (isF c) (evE g c)
  | .var i, S, X, p, L, e, h => by
    simp only [ckE] at h
    split at h <;> first | (cases h; done) | skip
    obtain ⟨h1, h2, h3, h4⟩ := L.nm h
    exact .val (n_var h1 h2 h3 h4) (fun _ => rfl) no_f
  | .gint x i, S, X, p, L, e, h => by
    simp only [ckE] at h
    split at h <;> first | (cases h; done) | skip
    simp only [Bool.and_eq_true, decide_eq_true_eq, List.any_eq_true] at h
    obtain ⟨⟨⟨rfl, h2⟩, h3⟩, q, h4, rfl⟩ := h
    obtain ⟨t, ht⟩ := L.gi _ _ h4
    exact .val (n_gint (L.glo h2) ht (okN_ok h3).1) (fun _ => rfl) no_f
  | .gstr x i, S, X, p, L, e, h => by
    simp only [ckE] at h
    split at h <;> first | (cases h; done) | skip
    simp only [Bool.and_eq_true, decide_eq_true_eq, List.any_eq_true] at h
    obtain ⟨⟨⟨rfl, h2⟩, h3⟩, q, h4, rfl⟩ := h
    obtain ⟨t, ht⟩ := L.gs _ _ h4
    exact .val (n_gstr (L.glo h2) ht (okN_ok h3).1) (fun _ => rfl) no_f
  | .cint i, S, X, p, L, e, h => by
    simp only [ckE] at h
    split at h <;> first | (cases h; done) | skip
    obtain rfl := of_decide_eq_true h
    exact .val n_int (fun _ => rfl) no_f
  | .cbl i, S, X, p, L, e, h => by
    simp only [ckE] at h
    split at h <;> first | (cases h; done) | skip
    obtain rfl := of_decide_eq_true h
    exact .val n_bl (fun _ => rfl) no_f
  | .cnon, S, X, p, L, e, h => by
    simp only [ckE] at h
    split at h <;> first | (cases h; done) | skip
    exact .val n_non (fun _ => rfl) no_f
  | .cstr i, S, X, p, L, e, h => by
    simp only [ckE] at h
    split at h <;> first | (cases h; done) | skip
    obtain rfl := of_decide_eq_true h
    exact .val n_str (fun _ => rfl) no_f
  | .tup es, S, X, p, L, e, h => by
    simp only [ckE] at h
    split at h <;> first | (cases h; done) | skip
    simp only [Bool.and_eq_true, decide_eq_true_eq] at h
    refine .val (n_tup (okEs es L h.1) fun env st ds s q => ?_) (fun _ => rfl) no_f
    rw [evEs_len h.1 q]
    exact small_lim h.2
  | .lst es, S, X, p, L, e, h => by
    simp only [ckE] at h
    split at h <;> first | (cases h; done) | skip
    simp only [Bool.and_eq_true, decide_eq_true_eq] at h
    have q := f_lst (pos := by assumption) (okEs es L h.1) fun env st ds s q => by
      rw [evEs_len h.1 q]
      exact small_lim h.2
    exact .val (n_frz q lst_is) (fun _ => rfl) fun _ => q
  | .bin o a b, S, X, p, L, e, h => by
    simp only [ckE] at h
    split at h <;> first | (cases h; done) | skip
    simp only [Bool.and_eq_true] at h
    obtain ⟨⟨h1, h2⟩, h3⟩ := h
    have ha := (okE a L h2).v
    have hb := (okE b L h3).v
    refine .val (ok_bin h1 ha hb) (fun _ => rfl) fun z => ?_
    rename_i op _ _
    cases o <;> first | (cases z; done) | skip
    · cases op <;> first | (cases h1; done) | skip
      exact f_add ha hb
    · cases op <;> first | (cases h1; done) | skip
      exact f_mul ha hb
  | .neg a, S, X, p, L, e, h => by
    simp only [ckE] at h
    split at h <;> first | (cases h; done) | skip
    exact .val (n_neg (okE a L h).v) (fun _ => rfl) no_f
  | .cmp o a b, S, X, p, L, e, h => by
    simp only [ckE] at h
    split at h <;> first | (cases h; done) | skip
    simp only [Bool.and_eq_true] at h
    obtain ⟨⟨⟨h1, h2⟩, h3⟩, h4⟩ := h
    exact ok_cmp L.un h1 (okE a L h2).v (okE b L h3).v (nse_ok h4)
  | .isN a, S, X, p, L, e, h => by
    simp only [ckE] at h
    split at h <;> first | (cases h; done) | skip
    exact ok_isN (okE a L h).v
  | .notN a, S, X, p, L, e, h => by
    simp only [ckE] at h
    split at h <;> first | (cases h; done) | skip
    exact ok_notN (okE a L h).v
  | .notB a b, S, X, p, L, e, h => by
    simp only [ckE] at h
    split at h <;> first | (cases h; done) | skip
    simp only [Bool.and_eq_true, decide_eq_true_eq] at h
    obtain ⟨rfl, h⟩ := h
    exact ok_notB (okE a L h).v
  | .chain o o' a b c, S, X, p, L, e, h => by
    simp only [ckE] at h
    split at h <;> first | (cases h; done) | skip
    simp only [Bool.and_eq_true] at h
    obtain ⟨⟨⟨⟨⟨h1, h2⟩, h3⟩, h4⟩, h5⟩, h6⟩ := h
    exact ok_chain L.un h1 h2 (okE a L h3).v (okE b L h4).v (okE c L h5).v (nse_ok h6)
  | .and es, S, X, p, L, e, h => by
    simp only [ckE] at h
    split at h <;> first | (cases h; done) | skip
    have q := okAnd es L h
    exact ⟨(q _).1, (q _).2.pt, no_f⟩
  | .or es, S, X, p, L, e, h => by
    simp only [ckE] at h
    split at h <;> first | (cases h; done) | skip
    have q := okOr es L h
    exact ⟨(q _).1, (q _).2.pt, no_f⟩
  | .not a, S, X, p, L, e, h => by
    simp only [ckE] at h
    split at h <;> first | (cases h; done) | skip
    have q := (okE a L h).t
    exact ⟨n_not (okE a L h).v, t_not q, no_f⟩
  | .ife c a b, S, X, p, L, e, h => by
    simp only [ckE] at h
    split at h <;> first | (cases h; done) | skip
    simp only [Bool.and_eq_true] at h
    obtain ⟨⟨h1, h2⟩, h3⟩ := h
    exact ok_ife (okE c L h1) (okE a L h2) (okE b L h3)
  | .idx a b, S, X, p, L, e, h => by
    simp only [ckE] at h
    split at h <;> first | (cases h; done) | skip
    simp only [Bool.and_eq_true] at h
    obtain ⟨⟨h1, h2⟩, h3⟩ := h
    exact .val (n_idx (okA a L h2).1 (okE b L h3).v (nsl_ok h1)) (fun _ => rfl) no_f
  | .sl a lo hi, S, X, p, L, e, h => by
    simp only [ckE] at h
    split at h <;> first | (cases h; done) | skip
    simp only [Bool.and_eq_true] at h
    obtain ⟨⟨h1, h2⟩, h3⟩ := h
    exact .val (n_sl (okE a L h1).v (okO lo L h2) (okO hi L h3)) (fun _ => rfl) no_f
  | .rev a, S, X, p, L, e, h => by
    simp only [ckE] at h
    split at h <;> first | (cases h; done) | skip
    simp only [Bool.and_eq_true, decide_eq_true_eq] at h
    obtain ⟨rfl, h⟩ := h
    exact .val (n_rev (okE a L h).v) (fun _ => rfl) no_f
  | .fn f a, S, X, p, L, e, h => by
    simp only [ckE] at h
    split at h <;> first | (cases h; done) | skip
    · simp only [Bool.and_eq_true, decide_eq_true_eq] at h
      obtain ⟨⟨⟨⟨h1, h2⟩, h3⟩, h4⟩, h5⟩ := h
      rw [isF_fn (a' := .r 0)]
      exact ok_fn L h1 h2 h3 h4 (okA a L h5).1
    · simp only [Bool.and_eq_true, decide_eq_true_eq] at h
      obtain ⟨⟨⟨⟨⟨⟨rfl, rfl⟩, rfl⟩, h2⟩, h3⟩, h4⟩, h5⟩ := h
      obtain ⟨q1, q2, q3⟩ := L.gl h2
      exact .val (n_maxd q1 rfl (L.cm h4) L.un (okA a L h5).1 q2 q3 (one_star h3)) (fun _ => rfl) no_f
  | .fn2 f a b, S, X, p, L, e, h => by
    simp only [ckE] at h
    split at h <;> first | (cases h; done) | skip
    simp only [Bool.and_eq_true] at h
    obtain ⟨⟨⟨⟨⟨h1, h2⟩, h3⟩, h4⟩, h5⟩, h6⟩ := h
    obtain ⟨q1, q2, q3⟩ := L.gl h1
    cases f with
    | max => exact .val (n_max2 q1 (L.cm h4) (okE a L h5).v (okE b L h6).v q2 q3 (nst_ok h2) (one_star h3)) (fun _ => rfl) no_f
    | min => exact .val (n_min2 q1 (L.cm h4) (okE a L h5).v (okE b L h6).v q2 q3 (nst_ok h2) (one_star h3)) (fun _ => rfl) no_f
  | .join z a, S, X, p, L, e, h => by
    simp only [ckE] at h
    split at h <;> first | (cases h; done) | skip
    simp only [Bool.and_eq_true, decide_eq_true_eq] at h
    obtain ⟨⟨⟨⟨rfl, h2⟩, h3⟩, h4⟩, h5⟩ := h
    exact .val (n_join h2 (okE a L h5).v h3 (one_star h4)) (fun _ => rfl) no_f
  | .isi a t, S, X, p, L, e, h => by
    simp only [ckE] at h
    split at h <;> first | (cases h; done) | skip
    simp only [Bool.and_eq_true] at h
    obtain ⟨⟨⟨h1, h2⟩, h3⟩, h4⟩ := h
    obtain ⟨q1, q2, q3⟩ := L.gl h1
    obtain ⟨r1, r2, r3⟩ := L.gl h2
    exact .val (n_isi q1 r1 (okE a L h4).v q2 q3 r2 r3 (nst_ok h3)) (fun _ => rfl) no_f
  | .isE _ _, S, X, p, L, e, h => by simp only [ckE] at h; cases h
  | .isEs _ _, S, X, p, L, e, h => by simp only [ckE] at h; cases h
  | .call f as, S, X, p, L, e, h => by
    simp only [ckE] at h
    split at h <;> first | (cases h; done) | skip
    exact .val (n_call (okCall as L h)) (fun _ => rfl) no_f
  | .lc elt tg src cnd own, S, X, p, L, e, h => by
    simp only [ckE] at h
    split at h <;> first | (cases h; done) | skip
    simp only [Bool.and_eq_true, decide_eq_true_eq] at h
    obtain ⟨⟨⟨⟨⟨⟨⟨⟨rfl, h1⟩, h2⟩, h3⟩, h4⟩, h5⟩, h6⟩, h7⟩, h8⟩ := h
    have hb := blkOk_by h3
    have hown := ownN_snd (S := S) (is := own)
    have q := f_lc (pos := by assumption) (tg := tg) (L.cm h1) (by rw [L.nn]; exact L.nd) (okI src L h6) (by rw [L.nn, L.sc]; exact hb)
      (fun s H C cl fp => okT (L.blk hb.kind s H C cl fp) (L.cm h1) h4) (by rw [hown]; exact h5)
      (fun s H C cl fp => okC cnd (L.blk hb.kind s H C cl fp) h7) (fun s H C cl fp => (okE elt (L.blk hb.kind s H C cl fp) h8).v) (nsi_ok h2)
    rw [hown] at q
    rw [lc_eq]
    exact .val (n_frz q lcF_lst) (fun _ => rfl) fun _ => q
  | .cat a b, S, X, p, L, e, h => by
    simp only [ckE] at h
    split at h <;> first | (cases h; done) | skip
    simp only [Bool.and_eq_true] at h
    have q := n_cat (pos := by assumption) (okA a L h.1).1 (okA b L h.2).1
    exact .val (n_frz q cat_is) (fun _ => rfl) fun _ => q
  | .pop i .no, S, X, p, L, e, h => by
    simp only [ckE] at h
    split at h <;> first | (cases h; done) | skip
    simp only [Bool.and_eq_true, decide_eq_true_eq] at h
    obtain ⟨⟨h1, h2⟩, h3⟩ := h
    obtain ⟨q1, q2, q3, q4⟩ := L.nm h2
    exact .val (n_pop0 h1 q1 q2 q3 q4 h3) (fun _ => rfl) no_f
  | .pop i (.yes c), S, X, p, L, e, h => by
    simp only [ckE] at h
    split at h <;> first | (cases h; done) | skip
    simp only [Bool.and_eq_true, decide_eq_true_eq] at h
    obtain ⟨⟨⟨⟨h1, h2⟩, h3⟩, h4⟩, h5⟩ := h
    obtain ⟨q1, q2, q3, q4⟩ := L.nm h2
    exact .val (n_pop1 h1 q1 q2 q3 q4 h3 (okE c L h5).v (one_star h4)) (fun _ => rfl) no_f
theorem okCall : ∀ (as : CAs) {S : Sx} {X : Cx} {p : Pl}, Lk T S g X p → ∀ {f : Nat} {x : Str} {l : List Expr} {p0 pos : Pos}, (S.calm && okN x && glB S.sc x && (match T.defs[f]? with
      | some (y, n) => decide (y = x) && decide (l.length = n)
      | none => false) && decide (l ≠ []) && ckAs T as S l) = true → PE X (.Call (.Name x p0) l [] pos) (tVn X p fun env st => bnd (evAs g as env st) fun ws s => g f ws s)
  | as, S, X, p, L, f, x, l, p0, pos, h => by
    simp only [Bool.and_eq_true, decide_eq_true_eq] at h
    obtain ⟨⟨⟨⟨⟨h1, h2⟩, h3⟩, h4⟩, h5⟩, h6⟩ := h
    split at h4 <;> first | (cases h4; done) | skip
    rename_i y n hd
    simp only [Bool.and_eq_true, decide_eq_true_eq] at h4
    obtain ⟨rfl, h4⟩ := h4
    obtain ⟨k, a, fd, ps, q1, q2, q3, q4, q5, q6⟩ := L.df h1 f _ n hd
    cases l with
    | nil => exact absurd rfl h5
    | cons e es =>
      refine n_callW q1 q2 (L.glo h3) q3 q4 q5 L.tk (okAs as L h6) q6 h4 (fun env st ws s q => by rw [evAs_len h6 q, h4]) (okN_ok h2).1 (nst_ok (ckAs_star h6).1) (backTo_any (ckAs_star h6).2)
theorem okEs : ∀ (cs : CEs) {S : Sx} {X : Cx} {p : Pl}, Lk T S g X p → ∀ {l : List Expr}, ckEs T cs S l = true → PA X l (tDs X p (evEs g cs))
  | .nil, S, X, p, L, l, h => by
    simp only [ckEs] at h
    split at h <;> first | (cases h; done) | skip
    exact n_nil
  | .cons c cs, S, X, p, L, l, h => by
    simp only [ckEs] at h
    split at h <;> first | (cases h; done) | skip
    simp only [Bool.and_eq_true] at h
    obtain ⟨⟨h1, h2⟩, h3⟩ := h
    exact n_cons (okE c L h2).v (okEs cs L h3) (nst_ok h1)
theorem okAnd : ∀ (cs : CEs) {S : Sx} {X : Cx} {p : Pl}, Lk T S g X p → ∀ {l : List Expr}, ckB T cs S l = true → ∀ pos, PE X (.BoolOp .And l pos) (tE X p (evAnd g cs)) ∧ PW X (.BoolOp .And l pos) (tT X p (evAnd g cs))
  | .nil, S, X, p, L, l, h, pos => by simp only [ckB] at h; cases h
  | .cons c .nil, S, X, p, L, l, h, pos => by
    simp only [ckB] at h
    split at h <;> first | (cases h; done) | skip
    have q := okE c L h
    exact ⟨n_and1 q.v, w_and1 q.t⟩
  | .cons c (.cons c' cs), S, X, p, L, l, h, pos => by
    simp only [ckB] at h
    split at h <;> first | (cases h; done) | skip
    simp only [Bool.and_eq_true] at h
    have q := okE c L h.1
    have r := okAnd (.cons c' cs) L h.2 pos
    exact ⟨n_and q.v r.1, w_and q.t r.2⟩
theorem okOr : ∀ (cs : CEs) {S : Sx} {X : Cx} {p : Pl}, Lk T S g X p → ∀ {l : List Expr}, ckB T cs S l = true → ∀ pos, PE X (.BoolOp .Or l pos) (tE X p (evOr g cs)) ∧ PW X (.BoolOp .Or l pos) (tT X p (evOr g cs))
  | .nil, S, X, p, L, l, h, pos => by simp only [ckB] at h; cases h
  | .cons c .nil, S, X, p, L, l, h, pos => by
    simp only [ckB] at h
    split at h <;> first | (cases h; done) | skip
    have q := okE c L h
    exact ⟨n_and1 q.v, w_or1 q.t⟩
  | .cons c (.cons c' cs), S, X, p, L, l, h, pos => by
    simp only [ckB] at h
    split at h <;> first | (cases h; done) | skip
    simp only [Bool.and_eq_true] at h
    have q := okE c L h.1
    have r := okOr (.cons c' cs) L h.2 pos
    exact ⟨n_or q.v r.1, w_or q.t r.2⟩
theorem okO : ∀ (o : CO) {S : Sx} {X : Cx} {p : Pl}, Lk T S g X p → ∀ {l : Option Expr}, ckO T o S l = true → PO X l (tO X p (evO g o))
  | .no, S, X, p, L, l, h => by
    simp only [ckO] at h
    split at h <;> first | (cases h; done) | skip
    exact o_no
  | .yes c, S, X, p, L, l, h => by
    simp only [ckO] at h
    split at h <;> first | (cases h; done) | skip
    exact o_yes (okE c L h).v
theorem okC : ∀ (o : CO) {S : Sx} {X : Cx} {p : Pl}, Lk T S g X p → ∀ {l : List Expr}, ckC T o S l = true → PTs X l (tB X p (evC g o))
  | .no, S, X, p, L, l, h => by
    simp only [ckC] at h
    split at h <;> first | (cases h; done) | skip
    refine ⟨fun pins s σ H Q I q => pts_nil.run pins s σ H Q I ?_⟩
    obtain ⟨R, M, env, st, o, a, e, k⟩ := q
    obtain rfl := ret_eq (show ret true st = some o from e)
    exact k.ext a.S _ H Ext.refl rfl
  | .yes c, S, X, p, L, l, h => by
    simp only [ckC] at h
    split at h <;> first | (cases h; done) | skip
    exact pts_one (okE c L h).t
theorem okA : ∀ (a : CA) {S : Sx} {X : Cx} {p : Pl}, Lk T S g X p → ∀ {e : Expr}, ckA T a S e = true → PE X e (tV X p (evA g a)) ∧ PE X e (tVn X p (evA g a))
  | .e a, S, X, p, L, e, h => by
    simp only [ckA] at h
    have q := (okE a L h).v
    exact ⟨n_opd q, n_opdN q⟩
  | .r i, S, X, p, L, e, h => by
    simp only [ckA] at h
    split at h <;> first | (cases h; done) | skip
    obtain ⟨h1, h2, h3, h4⟩ := L.nm h
    exact ⟨n_varW h1 h2 h3 h4, n_varN h1 h2 h3 h4⟩
theorem okAs : ∀ (as : CAs) {S : Sx} {X : Cx} {p : Pl}, Lk T S g X p → ∀ {l : List Expr}, ckAs T as S l = true → PA X l (tWs X p (evAs g as))
  | .nil, S, X, p, L, l, h => by
    simp only [ckAs] at h
    split at h <;> first | (cases h; done) | skip
    exact as_nil
  | .cons c cs, S, X, p, L, l, h => by
    simp only [ckAs] at h
    split at h <;> first | (cases h; done) | skip
    simp only [Bool.and_eq_true] at h
    obtain ⟨⟨h1, h2⟩, h3⟩ := h
    exact as_cons (okA c L h2).2 (okAs cs L h3) (nst_ok h1)
theorem okI : ∀ (i : CI) {S : Sx} {X : Cx} {p : Pl}, Lk T S g X p → ∀ {t e : Expr}, ckI T i S t e = true → PI X t e (tS X p (evI g i))
  | .of a, S, X, p, L, t, e, h => by
    simp only [ckI] at h
    exact i_of (okA a L h).1
  | .rng1 a, S, X, p, L, t, e, h => by
    simp only [ckI] at h
    split at h <;> first | (cases h; done) | skip
    simp only [Bool.and_eq_true] at h
    obtain ⟨⟨h1, h2⟩, h3⟩ := h
    obtain ⟨q1, q2, q3⟩ := L.gl h1
    exact i_rng1 q1 (okE a L h3).v q2 q3 (one_star h2)
  | .rng2 a b, S, X, p, L, t, e, h => by
    simp only [ckI] at h
    split at h <;> first | (cases h; done) | skip
    simp only [Bool.and_eq_true] at h
    obtain ⟨⟨⟨⟨h1, h2⟩, h3⟩, h4⟩, h5⟩ := h
    obtain ⟨q1, q2, q3⟩ := L.gl h1
    exact i_rng2 q1 (okE a L h4).v (okE b L h5).v q2 q3 (nst_ok h2) (one_star h3)
  | .zip a b, S, X, p, L, t, e, h => by
    simp only [ckI] at h
    split at h <;> first | (cases h; done) | skip
    simp only [Bool.and_eq_true] at h
    obtain ⟨⟨⟨⟨⟨h0, h1⟩, h2⟩, h3⟩, h4⟩, h5⟩ := h
    obtain ⟨q1, q2, q3⟩ := L.gl h1
    cases t <;> first | (cases h0; done) | skip
    exact i_zip q1 (okA a L h4).1 (okA b L h5).1 q2 q3 (nst_ok h2) (one_star h3)
  | .enm a, S, X, p, L, t, e, h => by
    simp only [ckI] at h
    split at h <;> first | (cases h; done) | skip
    simp only [Bool.and_eq_true] at h
    obtain ⟨⟨⟨h0, h1⟩, h2⟩, h3⟩ := h
    obtain ⟨q1, q2, q3⟩ := L.gl h1
    cases t <;> first | (cases h0; done) | skip
    exact i_enm q1 (okA a L h3).1 q2 q3 (one_star h2)
end
end Cw
/-! 14. Statements: the checker, and what it lets pass holds. -/
namespace Cw
open PySem PySem.Spec PyProof.Rows L2
def callB (T : Tb) (S : Sx) (f : Nat) (as : CAs) (x : Str) (l : List Expr) : Bool := S.calm && okN x && glB S.sc x && (match T.defs[f]? with
      | some (y, n) => decide (y = x) && decide (l.length = n)
      | none => false) && decide (l ≠ []) && ckAs T as S l
/-- names that stand in a tuple -/
def ckNs (S : Sx) : List Nat → List Expr → Bool
  | [], [] => true
  | i :: is, .Name x _ :: es => nmB S i x && ckNs S is es
  | _, _ => false
/-- a value that a name takes: as it is, or the list of a comprehension -/
def setB (T : Tb) (S : Sx) (cell : Bool) (c : CE) (i : Nat) (x : Str) (px : Pos) (a : Expr) : Bool := tgB S i x && ckE T c S a &&
  (match c with
    | .lc .. => true
    | _ => nlc a && (!cell || isF c))
mutual
def ckS (T : Tb) : CS → Sx → Stmt → Bool
  | .set i c, S, s => match s with
    | .Assign [.Name x px] a _ => setB T S false c i x px a
    | _ => false
  | .setF i c, S, s => match s with
    | .Assign [.Name x px] a _ => setB T S true c i x px a
    | _ => false
  | .setW i j, S, s => match s with
    | .Assign [.Name x _] (.Name y _) _ => tgB S i x && nmB S j y
    | _ => false
  | .setC i f as, S, s => match s with
    | .Assign [.Name x _] (.Call (.Name y _) l [] _) _ => tgB S i x && callB T S f as y l
    | _ => false
  | .setD _, _, _ => false
  | .unp is c, S, s => match s with
    | .Assign [.Tuple ts k tp] a _ => S.calm && ckT S (.tp is) (.Tuple ts k tp) && ntu a && ckE T c S a
    | _ => false
  | .unpC is f as, S, s => match s with
    | .Assign [.Tuple ts k tp] (.Call (.Name y _) l [] _) _ => S.calm && ckT S (.tp is) (.Tuple ts k tp) && callB T S f as y l
    | _ => false
  | .par i j c d, S, s => match s with
    | .Assign [.Tuple [.Name x px, .Name y py] _ _] (.Tuple [a, b] _ _) _ => S.calm && ixB S i x && ixB S j y && decide (i ≠ j) && parB S x y px py a b && ckE T c S a && ckE T d S b
    | _ => false
  | .put i c d, S, s => match s with
    | .Assign [.Subscript (.Name x _) b _] a _ => nmB S i x && nsl b && ckE T c S b && ckE T d S a
    | _ => false
  | .app i c, S, s => match s with
    | .Expr (.Call (.Attribute (.Name x _) m ap) [a] [] cpos) _ => decide (m = "append") && nmB S i x && (ap.endLine == cpos.line) && nst a && ckE T c S a
    | _ => false
  | .ext i c, S, s => match s with
    | .Expr (.Call (.Attribute (.Name x _) m ap) [a] [] cpos) _ => decide (m = "extend") && nmB S i x && (ap.endLine == cpos.line) && nst a && ckE T c S a
    | _ => false
  | .ins i c d, S, s => match s with
    | .Expr (.Call (.Attribute (.Name x _) m ap) [a, b] [] cpos) _ => decide (m = "insert") && nmB S i x && (ap.endLine == cpos.line) && nst a && nst b && ckE T c S a && ckE T d S b
    | _ => false
  | .appT _ _ _, _, _ => false
  | .insT _ _ _ _, _, _ => false
  | .expr c, S, s => match s with
    | .Expr a _ => nlc a && ckE T c S a
    | _ => false
  | .ite c t u, S, s => match s with
    | .If a b d _ => ckE T c S a && ckSs T t S b && ckSs T u S d
    | _ => false
  | .for_ tg src body, S, s => match s with
    | .For t it b [] _ => S.top && S.calm && nse it && ckT S tg t && ckI T src S t it && ckSs T body S b
    | _ => false
  | .whl _ c body, S, s => match s with
    | .While a b [] _ => S.top && ckE T c S a && ckSs T body S b
    | _ => false
  | .ret c, S, s => match s with
    | .Return (some a) _ => ckE T c S a
    | _ => false
  | .retW i, S, s => match s with
    | .Return (some (.Name x _)) _ => nmB S i x
    | _ => false
  | .retT is, S, s => match s with
    | .Return (some (.Tuple es _ _)) _ => ckNs S is es && decide (is.length ≤ 1000)
    | _ => false
  | .raise c, S, s => match s with
    | .Raise (some (.Call (.Name x _) [.Constant (.str _) _ _] [] _)) none _ => S.top && S.calm && okN x && glB S.sc x && (match T.cls[c]? with
      | some y => decide (y = x)
      | none => false)
    | _ => false
  | .try_ _ _ _ _, _, _ => false
def ckSs (T : Tb) : CSs → Sx → List Stmt → Bool
  | .nil, _, l => match l with
    | [] => true
    | _ => false
  | .cons c cs, S, l => match l with
    | x :: xs => ckS T c S x && ckSs T cs S xs
    | _ => false
end
/-- what a def's text may rest on beyond its expressions -/
structure Lx (T : Tb) (S : Sx) (X : Cx) (p : Pl) : Prop where
  ex : S.top = true → ∀ (c : Nat) (x : Str), T.cls[c]? = some x → Gl X x → (x == ("__debug__" : Str)) = false → ∀ (m : Str) (j : Nat) (p1 p2 pos : Pos), PMk X (.Call (.Name x p1) [.Constant (.str m) j p2] [] pos) (fun _ H Q => Q (.ref (p.adr c)) none H)
variable {T : Tb} {g : Den} {S : Sx} {X : Cx} {p : Pl}
theorem ok_setLc (L : Lk T S g X p) {elt : CE} {tg : Tg} {src : CI} {cnd : CO} {own : List Nat} {i : Nat} {x : Str} {px spos : Pos} {a : Expr} {cell : Bool} (ht : tgB S i x = true) (h : ckE T (.lc elt tg src cnd own) S a = true) (hs : swB S a x px = true) :
    PS X (.Assign [.Name x px] a spos) (tSt X p (if cell = true then setF i (evE g (.lc elt tg src cnd own)) else setD i (evE g (.lc elt tg src cnd own)))) := by
  simp only [ckE] at h
  split at h <;> first | (cases h; done) | skip
  rename_i x1 t1 it1 ifs1 k1 sc1 pos1
  simp only [Bool.and_eq_true, decide_eq_true_eq] at h
  obtain ⟨⟨⟨⟨⟨⟨⟨⟨rfl, h1⟩, h2⟩, h3⟩, h4⟩, h5⟩, h6⟩, h7⟩, h8⟩ := h
  have hb := blkOk_by h3
  have hown := ownN_snd (S := S) (is := own)
  have hsw := sw_ok (l := spos.line) L.sc L.kd hs
  have hl : X.env.scope.names.lookup x = some .local := by
    rw [L.sc]
    simp only [swB, Bool.and_eq_true] at hs
    exact lclB_ok hs.1.1
  have q := s_setLc (cell := cell) (tg := tg) (L.cm h1) (by rw [L.nn]; exact L.nd) (L.tg ht).2.1 hl hsw (okI src L h6) (by rw [L.nn, L.sc]; exact hb)
      (fun s H C cl fp => okT (L.blk hb.kind s H C cl fp) (L.cm h1) h4) (by rw [hown]; exact h5)
      (fun s H C cl fp => okC cnd (L.blk hb.kind s H C cl fp) h7) (fun s H C cl fp => (okE elt (L.blk hb.kind s H C cl fp) h8).v) (nsi_ok h2)
  rw [hown] at q
  rw [lc_eq]
  exact q
theorem ok_set (L : Lk T S g X p) {cell : Bool} {c : CE} {i : Nat} {x : Str} {px spos : Pos} {a : Expr} (h : setB T S cell c i x px a = true) :
    PS X (.Assign [.Name x px] a spos) (tSt X p (if cell = true then setF i (evE g c) else setD i (evE g c))) := by
  simp only [setB, Bool.and_eq_true] at h
  obtain ⟨⟨h1, h2⟩, h3⟩ := h
  obtain ⟨q1, q2, q3, q4⟩ := L.tg h1
  have q := okE c L h2
  have gen : (nlc a && (!cell || isF c)) = true → PS X (.Assign [.Name x px] a spos) (tSt X p (if cell = true then setF i (evE g c) else setD i (evE g c))) := fun h3 => by
    simp only [Bool.and_eq_true, Bool.or_eq_true, Bool.not_eq_true'] at h3
    cases cell with
    | false => exact s_set q1 q2 q3 q.v (nlc_ok h3.1) q4
    | true =>
      rcases h3.2 with z | z
      · cases z
      · exact s_setF q1 q2 q3 (q.l z) (nlc_ok h3.1) q4
  cases c with
  | lc elt tg src cnd own =>
    cases hsw : swB S a x px with
    | true => exact ok_setLc L h1 h2 hsw
    | false =>
      have hno := sw_no (l := spos.line) L.sc L.kd (by
        simp only [ckE] at h2
        split at h2 <;> first | (cases h2; done) | rfl) hsw
      cases cell with
      | false => exact s_set q1 q2 q3 q.v hno q4
      | true => exact s_setF q1 q2 q3 (q.l rfl) hno q4
  | _ => exact gen h3
theorem okNs (L : Lk T S g X p) : ∀ {is : List Nat} {es : List Expr}, ckNs S is es = true → PA X es (tRefs X p (refsF is))
  | [], [], _ => refs_nil
  | i :: is, .Name x pp :: es, h => by
    simp only [ckNs, Bool.and_eq_true] at h
    obtain ⟨h1, h2, h3, h4⟩ := L.nm h.1
    exact refs_cons h1 h2 h3 h4 (okNs L h.2)
theorem tSt_eq {f h : Env → Store → OutS} {s : Stmt} (q : PS X s (tSt X p f)) (e : ∀ env st, f env st = h env st) : PS X s (tSt X p h) := by
  have : f = h := by funext env st; exact e env st
  rw [← this]; exact q
mutual
theorem okS : ∀ (c : CS) {S : Sx} {X : Cx} {p : Pl}, Lk T S g X p → Lx T S X p → ∀ {s : Stmt}, ckS T c S s = true → PS X s (tSt X p (exS g c))
  | .set i c, S, X, p, L, U, s, h => by
    simp only [ckS] at h
    split at h <;> first | (cases h; done) | skip
    exact tSt_eq (ok_set L h) fun env st => by first | (rw [exS]; done) | (rw [exS]; rfl)
  | .setF i c, S, X, p, L, U, s, h => by
    simp only [ckS] at h
    split at h <;> first | (cases h; done) | skip
    exact tSt_eq (ok_set L h) fun env st => by first | (rw [exS]; done) | (rw [exS]; rfl)
  | .setW i j, S, X, p, L, U, s, h => by
    simp only [ckS] at h
    split at h <;> first | (cases h; done) | skip
    simp only [Bool.and_eq_true] at h
    obtain ⟨q1, q2, q3, q4⟩ := L.tg h.1
    obtain ⟨r1, r2, r3, r4⟩ := L.nm h.2
    exact tSt_eq (s_setV q1 q2 q3 (n_varN r1 r2 r3 r4) (nlc_ok rfl) q4) fun env st => by
      rw [exS]
      cases slotA env j <;> rfl
  | .setC i f as, S, X, p, L, U, s, h => by
    simp only [ckS] at h
    split at h <;> first | (cases h; done) | skip
    simp only [Bool.and_eq_true] at h
    obtain ⟨q1, q2, q3, q4⟩ := L.tg h.1
    exact tSt_eq (s_setV q1 q2 q3 (okCall as L h.2) (nlc_ok rfl) q4) fun env st => by first | (rw [exS]; done) | (rw [exS]; rfl)
  | .setD _, S, X, p, L, U, s, h => by simp only [ckS] at h; cases h
  | .unp is c, S, X, p, L, U, s, h => by
    simp only [ckS] at h
    split at h <;> first | (cases h; done) | skip
    simp only [Bool.and_eq_true] at h
    obtain ⟨⟨⟨h1, h2⟩, h3⟩, h4⟩ := h
    exact tSt_eq (s_unp (L.cm h1) (okE c L h4).v (okT L (L.cm h1) h2) stt_ok (swt_ok h3)) fun env st => by first | (rw [exS]; done) | (rw [exS]; rfl)
  | .unpC is f as, S, X, p, L, U, s, h => by
    simp only [ckS] at h
    split at h <;> first | (cases h; done) | skip
    simp only [Bool.and_eq_true] at h
    obtain ⟨⟨h1, h2⟩, h3⟩ := h
    exact tSt_eq (s_unpV (L.cm h1) (okCall as L h3) (okT L (L.cm h1) h2) stt_ok (swt_ok rfl)) fun env st => by first | (rw [exS]; done) | (rw [exS]; rfl)
  | .par i j c d, S, X, p, L, U, s, h => by
    simp only [ckS] at h
    split at h <;> first | (cases h; done) | skip
    simp only [Bool.and_eq_true, decide_eq_true_eq] at h
    obtain ⟨⟨⟨⟨⟨⟨h1, h2⟩, h3⟩, h4⟩, h5⟩, h6⟩, h7⟩ := h
    have h5' := h5
    simp only [parB, Bool.and_eq_true] at h5'
    obtain ⟨⟨⟨⟨⟨⟨⟨n1, n2⟩, n3⟩, n4⟩, _⟩, _⟩, _⟩, _⟩ := h5'
    exact tSt_eq (s_par (L.cm h1) (by rw [L.nn]; exact L.nd) (by rw [L.nn]; exact ixB_ok h2) (by rw [L.nn]; exact ixB_ok h3) h4 (by rw [L.sc]; exact lclB_ok n3) (by rw [L.sc]; exact lclB_ok n4) (okE c L h6).v (okE d L h7).v (nst_ok n1) (one_star n2) (par_ok L.sc L.kd h5)) fun env st => by first | (rw [exS]; done) | (rw [exS]; rfl)
  | .put i c d, S, X, p, L, U, s, h => by
    simp only [ckS] at h
    split at h <;> first | (cases h; done) | skip
    simp only [Bool.and_eq_true] at h
    obtain ⟨⟨⟨h1, h2⟩, h3⟩, h4⟩ := h
    obtain ⟨r1, r2, r3, r4⟩ := L.nm h1
    exact tSt_eq (s_put r1 r2 r3 r4 (okE c L h3).v (okE d L h4).v sts_ok sws_ok (ass_ok h2)) fun env st => by first | (rw [exS]; done) | (rw [exS]; rfl)
  | .app i c, S, X, p, L, U, s, h => by
    simp only [ckS] at h
    split at h <;> first | (cases h; done) | skip
    simp only [Bool.and_eq_true, decide_eq_true_eq] at h
    obtain ⟨⟨⟨⟨h1, h2⟩, h3⟩, h4⟩, h5⟩ := h
    obtain ⟨r1, r2, r3, r4⟩ := L.nm h2
    exact tSt_eq (s_app h1 r1 r2 r3 r4 h3 (okE c L h5).v (one_star h4)) fun env st => by first | (rw [exS]; done) | (rw [exS]; rfl)
  | .ext i c, S, X, p, L, U, s, h => by
    simp only [ckS] at h
    split at h <;> first | (cases h; done) | skip
    simp only [Bool.and_eq_true, decide_eq_true_eq] at h
    obtain ⟨⟨⟨⟨h1, h2⟩, h3⟩, h4⟩, h5⟩ := h
    obtain ⟨r1, r2, r3, r4⟩ := L.nm h2
    exact tSt_eq (s_ext h1 r1 r2 r3 r4 h3 (okE c L h5).v (one_star h4)) fun env st => by first | (rw [exS]; done) | (rw [exS]; rfl)
  | .ins i c d, S, X, p, L, U, s, h => by
    simp only [ckS] at h
    split at h <;> first | (cases h; done) | skip
    simp only [Bool.and_eq_true, decide_eq_true_eq] at h
    obtain ⟨⟨⟨⟨⟨⟨h1, h2⟩, h3⟩, h4⟩, h5⟩, h6⟩, h7⟩ := h
    obtain ⟨r1, r2, r3, r4⟩ := L.nm h2
    exact tSt_eq (s_ins h1 r1 r2 r3 r4 h3 (okE c L h6).v (okE d L h7).v (nst_ok h4) (one_star h5)) fun env st => by first | (rw [exS]; done) | (rw [exS]; rfl)
  | .appT _ _ _, S, X, p, L, U, s, h => by simp only [ckS] at h; cases h
  | .insT _ _ _ _, S, X, p, L, U, s, h => by simp only [ckS] at h; cases h
  | .expr c, S, X, p, L, U, s, h => by
    simp only [ckS] at h
    split at h <;> first | (cases h; done) | skip
    simp only [Bool.and_eq_true] at h
    exact tSt_eq (s_expr (okE c L h.2).v (nlc_ok h.1)) fun env st => by first | (rw [exS]; done) | (rw [exS]; rfl)
  | .ite c t u, S, X, p, L, U, s, h => by
    simp only [ckS] at h
    split at h <;> first | (cases h; done) | skip
    simp only [Bool.and_eq_true] at h
    obtain ⟨⟨h1, h2⟩, h3⟩ := h
    exact tSt_eq (s_ite (okE c L h1).t (okSs t L U h2) (okSs u L U h3)) fun env st => by first | (rw [exS]; done) | (rw [exS]; rfl)
  | .for_ tg src body, S, X, p, L, U, s, h => by
    simp only [ckS] at h
    split at h <;> first | (cases h; done) | skip
    simp only [Bool.and_eq_true] at h
    obtain ⟨⟨⟨⟨⟨h1, h2⟩, h3⟩, h4⟩, h5⟩, h6⟩ := h
    exact tSt_eq (s_for (tg := tg) (L.tp h1) (L.cm h2) (okI src L h5) (okT L (L.cm h2) h4) (okSs body L U h6) (nsi_ok h3)) fun env st => by first | (rw [exS]; done) | (rw [exS]; rfl)
  | .whl n c body, S, X, p, L, U, s, h => by
    simp only [ckS] at h
    split at h <;> first | (cases h; done) | skip
    simp only [Bool.and_eq_true] at h
    obtain ⟨⟨h1, h2⟩, h3⟩ := h
    exact tSt_eq (s_whl (n := n) (L.tp h1) (okE c L h2).t (okSs body L U h3)) fun env st => by first | (rw [exS]; done) | (rw [exS]; rfl)
  | .ret c, S, X, p, L, U, s, h => by
    simp only [ckS] at h
    split at h <;> first | (cases h; done) | skip
    exact tSt_eq (s_ret (okE c L h).v) fun env st => by first | (rw [exS]; done) | (rw [exS]; rfl)
  | .retW i, S, X, p, L, U, s, h => by
    simp only [ckS] at h
    split at h <;> first | (cases h; done) | skip
    obtain ⟨r1, r2, r3, r4⟩ := L.nm h
    exact tSt_eq (s_retV (n_varN r1 r2 r3 r4)) fun env st => by
      rw [exS]
      cases slotA env i <;> rfl
  | .retT is, S, X, p, L, U, s, h => by
    simp only [ckS] at h
    split at h <;> first | (cases h; done) | skip
    simp only [Bool.and_eq_true, decide_eq_true_eq] at h
    exact tSt_eq (s_retT (okNs L h.1) (small_lim h.2)) fun env st => by first | (rw [exS]; done) | (rw [exS]; rfl)
  | .raise c, S, X, p, L, U, s, h => by
    simp only [ckS] at h
    split at h <;> first | (cases h; done) | skip
    simp only [Bool.and_eq_true] at h
    obtain ⟨⟨⟨⟨h1, h2⟩, h3⟩, h4⟩, h5⟩ := h
    split at h5 <;> first | (cases h5; done) | skip
    rename_i y hy
    obtain rfl := of_decide_eq_true h5
    exact tSt_eq (s_raise (L.cm h2) L.tk (U.ex h1 c _ hy (L.glo h4) (okN_ok h3).1 _ _ _ _ _)) fun env st => by first | (rw [exS]; done) | (rw [exS]; rfl)
  | .try_ _ _ _ _, S, X, p, L, U, s, h => by simp only [ckS] at h; cases h
theorem okSs : ∀ (cs : CSs) {S : Sx} {X : Cx} {p : Pl}, Lk T S g X p → Lx T S X p → ∀ {l : List Stmt}, ckSs T cs S l = true → PSs X l (tSt X p (exSs g cs))
  | .nil, S, X, p, L, U, l, h => by
    simp only [ckSs] at h
    split at h <;> first | (cases h; done) | skip
    exact ss_nil
  | .cons c cs, S, X, p, L, U, l, h => by
    simp only [ckSs] at h
    split at h <;> first | (cases h; done) | skip
    simp only [Bool.and_eq_true] at h
    exact ss_cons (okS c L U h.1) (okSs cs L U h.2)
end
end Cw
/-! 15. Defs: what runD says is what the def does; all defs together, by the depth of calls. -/
namespace Cw
open PySem PySem.Spec PyProof.Rows L2
/-- of the cells behind M those that are handed out -/
theorem RelS.pick {K : Fg} {R : List Addr} {H : Hp} {M t : List Addr} {st : Store} (S : RelS K R H (M ++ t) st) {ks : List Nat} {as : List Addr} {cs : List Cell} (hk : ∀ k ∈ ks, M.length ≤ k) (hn : ks.Nodup) (ha : ks.map ((M ++ t)[·]?) = as.map some) (hc : ks.mapM (fun k => st[k]?) = some cs) :
    RelS K R H (M ++ as) (st.take M.length ++ cs) ∧ as.length = ks.length ∧ cs.length = ks.length := by
  have hl := S.len
  rw [List.length_append] at hl
  have inj : ∀ {i j : Nat} {a : Addr}, (M ++ t)[i]? = some a → (M ++ t)[j]? = some a → i = j := fun {i j a} h1 h2 => by
    exact (List.getElem?_inj (List.getElem?_eq_some_iff.mp h1).1 S.nd).mp (h1.trans h2.symm)
  -- what each handed one is
  have each : ∀ (ks : List Nat) (as : List Addr) (cs : List Cell), ks.map ((M ++ t)[·]?) = as.map some → ks.mapM (fun k => st[k]?) = some cs → as.length = ks.length ∧ cs.length = ks.length ∧ (∀ (i : Nat) (c : Cell) (a : Addr), cs[i]? = some c → as[i]? = some a → ∃ k, ks[i]? = some k ∧ st[k]? = some c ∧ (M ++ t)[k]? = some a) := by
    intro ks
    induction ks with
    | nil =>
      intro as cs h1 h2
      cases as with
      | nil => simp only [List.mapM_nil] at h2; cases h2; exact ⟨rfl, rfl, fun i c a h => by simp at h⟩
      | cons a as => simp at h1
    | cons k ks ih =>
      intro as cs h1 h2
      cases as with
      | nil => simp at h1
      | cons a as =>
        rw [List.mapM_cons] at h2
        obtain ⟨c, e1, h2⟩ := Option.bind_eq_some_iff.mp h2
        obtain ⟨cs', e2, h2⟩ := Option.bind_eq_some_iff.mp h2
        cases h2
        simp only [List.map_cons, List.cons.injEq] at h1
        obtain ⟨q1, q2, q3⟩ := ih as cs' h1.2 e2
        refine ⟨by simp [q1], by simp [q2], fun i c' a' h3 h4 => ?_⟩
        cases i with
        | zero =>
          simp at h3 h4
          subst h3; subst h4
          exact ⟨k, rfl, e1, h1.1⟩
        | succ i =>
          simp at h3 h4
          obtain ⟨k', z1, z2⟩ := q3 i c' a' h3 h4
          exact ⟨k', by simpa using z1, z2⟩
  obtain ⟨q1, q2, q3⟩ := each ks as cs ha hc
  -- handed ones lie behind M
  have mem : ∀ a ∈ as, ∃ k ∈ ks, (M ++ t)[k]? = some a := fun a h => by
    have h' : some a ∈ as.map some := List.mem_map.mpr ⟨a, h, rfl⟩
    rw [← ha] at h'
    obtain ⟨k, hk1, hk2⟩ := List.mem_map.mp h'
    exact ⟨k, hk1, hk2⟩
  have inT : ∀ a ∈ as, a ∈ t := fun a h => by
    obtain ⟨k, h1, h2⟩ := mem a h
    rw [List.getElem?_append_right (hk k h1)] at h2
    exact List.mem_of_getElem? h2
  have ndA : as.Nodup := by
    clear q3 q2 q1 hc each inT mem hk
    induction ks generalizing as with
    | nil => cases as <;> first | exact List.nodup_nil | simp at ha
    | cons k ks ih =>
      cases as with
      | nil => simp at ha
      | cons a as =>
        simp only [List.map_cons, List.cons.injEq] at ha
        rw [List.nodup_cons] at hn ⊢
        refine ⟨fun z => ?_, ih hn.2 ha.2⟩
        have z' : some a ∈ as.map some := List.mem_map.mpr ⟨a, z, rfl⟩
        rw [← ha.2] at z'
        obtain ⟨k', z1, z2⟩ := List.mem_map.mp z'
        rw [inj ha.1 z2] at hn
        exact hn.1 z1
  have hnd := List.nodup_append.mp S.nd
  have sub : ∀ b, b ∈ (M ++ as) ++ R → b ∈ (M ++ t) ++ R := fun b hb => by
    rcases List.mem_append.mp hb with z | z
    · rcases List.mem_append.mp z with y | y
      · exact List.mem_append_left _ (List.mem_append_left _ y)
      · exact List.mem_append_left _ (List.mem_append_right _ (inT b y))
    · exact List.mem_append_right _ z
  refine ⟨⟨List.nodup_append.mpr ⟨hnd.1, ndA, fun a h1 b h2 => hnd.2.2 a h1 b (inT b h2)⟩, fun a h => ?_, S.trk, ?_, fun i c a h1 h2 => ?_⟩, q1, q2⟩
  · rcases List.mem_append.mp h with y | y
    · exact S.dis a (List.mem_append_left _ y)
    · exact S.dis a (List.mem_append_right _ (inT a y))
  · rw [List.length_append, List.length_append, List.length_take, q1, q2]
    omega
  · have hlt : (st.take M.length).length = M.length := by rw [List.length_take]; omega
    by_cases hi : i < M.length
    · rw [List.getElem?_append_left (by rw [hlt]; exact hi), List.getElem?_take_of_lt hi] at h1
      rw [List.getElem?_append_left hi] at h2
      exact (S.cells i c a h1 (by rw [List.getElem?_append_left hi]; exact h2)).less sub
    · rw [List.getElem?_append_right (by rw [hlt]; omega), hlt] at h1
      rw [List.getElem?_append_right (by omega)] at h2
      obtain ⟨k, z1, z2, z3⟩ := q3 _ c a h1 h2
      exact (S.cells k c a z2 z3).less sub
/-- what spD asks behind the call -/
def Aft (K : Fg) (adr : Nat → Addr) (R : List Addr) (H : Hp) (M : List Addr) (Q : VK) (E : XK) : Rs W × Store → Prop
  | (.val w, s) => ∀ v H' M', Grow H M H' M' → RelS K R H' M' s → RepW K none M' (M' ++ R) H' w v → Q v H'
  | (.exc c, s) => ∀ H' M', Grow H M H' M' → RelS K R H' M' s → E (.ref (adr c)) none H'
theorem Grow.sub {H H' : Hp} {M t as : List Addr} (g : Grow H M H' (M ++ t)) (h : ∀ a ∈ as, a ∈ t) : Grow H M H' (M ++ as) := ⟨⟨as, rfl⟩, g.keep, fun a ha => by
  rcases List.mem_append.mp ha with z | z
  · exact .inl z
  · exact g.new a (List.mem_append_right _ (h a z))⟩
/-- a body's end becomes a def's answer -/
theorem leave_ok {K : Fg} {adr : Nat → Addr} {R M : List Addr} {H : Hp} {st : Store} {Q : VK} {E : XK} {r : OutS} {o : Rs W × Store} {o' : Fl × Env × Store} (hS : RelS K R H M st) (er : r = some o') (el : leave st.length r = some o) (k : Aft K adr R H M Q E o) :
    PostS K none adr (fun c d _ H => E c d H) R H M { nx := fun _ H' => Q .non H', rt := Q } o' := by
  subst er
  have hlen := hS.len
  obtain ⟨f, env, s⟩ := o'
  cases f with
  | next =>
    simp only [leave, Option.some.injEq] at el
    subst el
    intro σ' H' M' g a
    obtain ⟨t, rfl⟩ := g.pre
    rw [hlen] at k
    exact k .non H' M g.shrink a.S.drop (show Rep K (M ++ R) H' .non .non from rep_non.mpr rfl)
  | exc c =>
    simp only [leave, Option.some.injEq] at el
    subst el
    intro σ' H' M' g a
    obtain ⟨t, rfl⟩ := g.pre
    rw [hlen] at k
    exact k H' M g.shrink a.S.drop
  | ret w =>
    intro v H' M' g S r
    obtain ⟨t, rfl⟩ := g.pre
    cases w with
    | exc c => simp only [leave] at el; cases el
    | d x =>
      simp only [leave, Option.some.injEq] at el
      subst el
      rw [hlen] at k
      refine k v H' M g.shrink S.drop (rep_less (fun b hb => ?_) r)
      rcases List.mem_append.mp hb with z | z
      · exact List.mem_append_left _ (List.mem_append_left _ z)
      · exact List.mem_append_right _ z
    | r n =>
      obtain ⟨a, ha, rfl⟩ := r
      simp only [leave] at el
      by_cases hn : n < st.length
      · rw [if_pos hn] at el
        cases el
        rw [hlen] at hn
        rw [hlen] at k
        exact k _ H' M g.shrink S.drop ⟨a, by rw [List.getElem?_append_left hn] at ha; exact ha, rfl⟩
      · rw [if_neg hn] at el
        split at el
        · rename_i c hc
          cases el
          obtain ⟨q1, q2, q3⟩ := S.pick (ks := [n]) (as := [a]) (cs := [c]) (fun k hk => by
            have : k = n := by simpa using hk
            omega) (by simp) (by simp [ha]) (by simp [hc])
          rw [hlen] at k
          have hat : a ∈ t := by
            rw [List.getElem?_append_right (by omega)] at ha
            exact List.mem_of_getElem? ha
          exact k _ H' (M ++ [a]) (g.sub fun b hb => by
            have : b = a := by simpa using hb
            rw [this]; exact hat) q1 ⟨a, by simp, rfl⟩
        · cases el
    | rt ks =>
      obtain ⟨b, as, rfl, h1, h2, h3⟩ := r
      simp only [leave] at el
      split at el
      · rename_i hc
        simp only [Bool.and_eq_true, List.all_eq_true, decide_eq_true_eq] at hc
        split at el
        · rename_i cs hcs
          cases el
          obtain ⟨q1, q2, q3⟩ := S.pick (fun k hk => by have := hc.1 k hk; omega) hc.2 h3 hcs
          rw [hlen] at k
          have inT : ∀ a ∈ as, a ∈ t := fun a h => by
            have h' : some a ∈ as.map some := List.mem_map.mpr ⟨a, h, rfl⟩
            rw [← h3] at h'
            obtain ⟨j, hk1, hk2⟩ := List.mem_map.mp h'
            rw [List.getElem?_append_right (by have := hc.1 j hk1; omega)] at hk2
            exact List.mem_of_getElem? hk2
          refine k _ H' (M ++ as) (g.sub inT) q1 ⟨b, as, rfl, h1, fun z => h2 ?_, ?_⟩
          · rcases List.mem_append.mp z with y | y
            · rcases List.mem_append.mp y with x | x
              · exact List.mem_append_left _ (List.mem_append_left _ x)
              · exact List.mem_append_left _ (List.mem_append_right _ (inT _ x))
            · exact List.mem_append_right _ y
          · apply List.ext_getElem?
            intro i
            rw [List.getElem?_map, List.getElem?_map, List.getElem?_map]
            by_cases hi : i < ks.length
            · rw [List.getElem?_range hi]
              simp only [Option.map_some]
              rw [List.getElem?_append_right (by omega)]
              rw [show M.length + i - M.length = i by omega]
              rw [List.getElem?_eq_getElem (by omega)]
              rfl
            · rw [List.getElem?_eq_none (by simpa using hi), List.getElem?_eq_none (by omega)]
              rfl
        · cases el
      · cases el
/-! ### one def -/
theorem repWs_len {K : Fg} {M Z : List Addr} {H : Hp} {ws : List W} {vs : List V} (h : RepWs K M Z H ws vs) : vs.length = ws.length := h.length
theorem start_ok {K : Fg} {R M : List Addr} {H : Hp} {ws : List W} {vs : List V} {N : List Str} (r : RepWs K M (M ++ R) H ws vs) (hl : vs.length ≤ N.length) : RelE K none R H M (start N vs) (startE N.length ws) ∧ (start N vs).length = (startE N.length ws).length := by
  have e : vs.length = ws.length := r.length
  refine ⟨fun i w h => ?_, ?_⟩
  · have get : ∀ {ws : List W} {vs : List V} {i : Nat} {w : W}, RepWs K M (M ++ R) H ws vs → ws[i]? = some w → ∃ v, vs[i]? = some v ∧ RepW K none M (M ++ R) H w v := by
      intro ws
      induction ws with
      | nil => intro vs i w _ h; simp at h
      | cons u ws ih =>
        intro vs i w r h
        obtain ⟨x, rr, rfl, h1, h2⟩ := r
        cases i with
        | zero => simp at h; subst h; exact ⟨x, rfl, h1⟩
        | succ i => obtain ⟨v, z1, z2⟩ := ih h2 (by simpa using h); exact ⟨v, by simpa using z1, z2⟩
    unfold slot startE at h
    by_cases hi : i < ws.length
    · rw [List.getElem?_append_left (by simpa using hi), List.getElem?_map] at h
      cases q : ws[i]? with
      | none => rw [q] at h; simp at h
      | some u =>
        rw [q] at h
        simp at h
        subst h
        obtain ⟨v, z1, z2⟩ := get r q
        refine ⟨v, ?_, z2⟩
        show (vs.map some ++ _)[i]? = _
        rw [List.getElem?_append_left (by rw [List.length_map, e]; exact hi), List.getElem?_map, z1]
        rfl
    · rw [List.getElem?_append_right (by simpa using Nat.le_of_not_lt hi)] at h
      rw [List.getElem?_replicate] at h
      split at h <;> simp at h
  · show (vs.map some ++ List.replicate (N.length - vs.length) none).length = _
    unfold startE
    simp only [List.length_append, List.length_map, List.length_replicate, e]
variable {P : Program} {w : World} {K : PySem.W.Frag} {mg : Str → Option Value} {base : Heap}
/-- the def's text by the table -/
structure Rec where
  nm : Str
  st : Stmt
  N : List Str
  np : Nat
  d : Def
def Rec.ps (r : Rec) : List Str := r.N.take r.np
def Rec.sx (r : Rec) : Sx := ⟨r.N, defScope r.st, fun _ => true, true, true⟩
def scB (N P : List Str) (sc : Scope) : Bool := (match sc.kind with
  | .function => true
  | _ => false) && !sc.isCoroutine && !sc.isGenerator && decide N.Nodup && decide (N.take P.length = P) && (P.all fun x => locB sc x) && sc.names.all fun y => match y.2 with
  | .free => false
  | _ => true
theorem scB_ok {N P : List Str} {sc : Scope} (h : scB N P sc = true) : FnScope N P sc := by
  simp only [scB, Bool.and_eq_true, Bool.not_eq_true', decide_eq_true_eq, List.all_eq_true] at h
  obtain ⟨⟨⟨⟨⟨⟨h1, h2⟩, h3⟩, h4⟩, h5⟩, h6⟩, h7⟩ := h
  refine ⟨?_, h2, h3, h4, h5, fun x hx => locB_ok (h6 x hx), fun y hy z => ?_⟩
  · split at h1 <;> first | assumption | cases h1
  · have := h7 y hy
    rw [z] at this
    cases this
def recB (T : Tb) (r : Rec) : Bool := scB r.N r.ps (defScope r.st) && decide (r.np ≤ r.N.length) && decide (r.d.slots = r.N.length) && decide (r.d.params = r.np) && ckSs T r.d.body r.sx (defBody r.st)
/-- what holds of the program's top, whatever the context -/
structure Top (T : Tb) (P : Program) (w : World) (K : PySem.W.Frag) (mg : Str → Option Value) (adr : Nat → Addr) : Prop where
  bl : ∀ x ∈ T.bl, mg x = none
  gi : ∀ x i, (x, i) ∈ T.gi → ∃ t, mg x = some (.int i t)
  gs : ∀ x i, (x, i) ∈ T.gs → ∃ t, mg x = some (.str i t)
  ex : ∀ (c : Nat) (x : Str), T.cls[c]? = some x → ∀ (X : Cx), X.prog = P → X.w = w → X.K = K → X.mg = mg → Gl X x → (x == ("__debug__" : Str)) = false → ∀ (m : Str) (j : Nat) (p1 p2 pos : Pos), PMk X (.Call (.Name x p1) [.Constant (.str m) j p2] [] pos) (fun _ H Q => Q (.ref (adr c)) none H)
theorem ok_def {T : Tb} {adr : Nat → Addr} {g : Den} {r : Rec} {f : Addr} {fd : FuncData} {k : Nat} (F : Fun K r.nm r.nm r.st f fd) (top : Top T P w K mg adr) (hc : recB T r = true)
    (hd : ∀ (i : Nat) (x : Str) (n : Nat), T.defs[i]? = some (x, n) → ∃ (a : Addr) (fd : FuncData) (ps : List Str), FnOk P w K mg base (L2.CX P w) k a fd ps (spD K adr n (g i)) ∧ mg x = some (.ref a) ∧ PySem.W.keepIn K (.ref a) = true ∧ Binds K fd ps [] ∧ ps.length = n) :
    FnOk P w K mg base (L2.CX P w) (k + 1) f fd r.ps (spD K adr r.np (runD r.d g)) := by
  simp only [recB, Bool.and_eq_true, decide_eq_true_eq] at hc
  obtain ⟨⟨⟨⟨h1, h2⟩, h3⟩, h4⟩, h5⟩ := hc
  have S := scB_ok h1
  have hps : r.ps.length = r.np := by unfold Rec.ps; rw [List.length_take]; omega
  refine F.okX S (fun vs H Q E h => by rw [h.1, hps]) fun cdv A outer s H vs Q E hr h => ?_
  obtain ⟨hl, R, M, ws, st, o, hS, hW, e, q⟩ := h
  refine ⟨tSt (cxOf (L2.CX P w) P w K mg base r.N r.nm (defScope r.st) f cdv A outer s H E) ⟨none, adr, fun c d _ H => E c d H⟩ (exSs g r.d.body), ?_, ?_⟩
  · refine okSs (S := r.sx) r.d.body ?_ ?_ h5
    · refine ⟨rfl, S.nd, rfl, S.kind, rfl, fun _ => rfl, by have := hr.units; exact this, top.bl, top.gi, top.gs, fun _ i x n hi => ?_, ?_, fun _ => ?_⟩
      · obtain ⟨a, fd, ps, q1, q2, q3, q4, q5⟩ := hd i x n hi
        exact ⟨k, a, fd, ps, q1, hr, q2, q3, q4, q5⟩
      · exact takes_of rfl rfl rfl rfl
      · exact passes_of rfl
    · exact ⟨fun _ c x hx hg hdb m j p1 p2 pos => top.ex c x hx _ rfl rfl rfl rfl hg hdb m j p1 p2 pos⟩
  · unfold runD at e
    have hwl := hW.length
    rw [if_pos (by rw [← hwl, hl, h4])] at e
    obtain ⟨hE, hlen⟩ := start_ok (N := r.N) hW (by omega)
    rw [h3] at e
    cases er : exSs g r.d.body (startE r.N.length ws) st with
    | none => rw [er] at e; cases e
    | some o' =>
      rw [er] at e
      refine ⟨R, M, _, st, o', ⟨hS, hE, hlen⟩, er, ?_⟩
      refine leave_ok hS rfl e ?_
      obtain ⟨o, s'⟩ := o
      cases o with
      | val w => exact q
      | exc c => exact q
/-! ### all defs, by the depth of calls -/
def tbOf (rs : List Rec) (gi : List (Str × Int)) (gs : List (Str × Str)) (bl cls : List Str) : Tb := ⟨rs.map fun r => (r.nm, r.np), gi, gs, bl, cls⟩
/-- where a def stands -/
def RecAt (K : PySem.W.Frag) (mg : Str → Option Value) (r : Rec) : Prop := ∃ (f : Addr) (fd : FuncData), Fun K r.nm r.nm r.st f fd ∧ mg r.nm = some (.ref f) ∧ ∀ us : List Value, us.length = r.ps.length → bindArgs fd ⟨us, []⟩ = pure (r.ps.zip us)
theorem all_ok {T : Tb} {adr : Nat → Addr} {rs : List Rec} (top : Top T P w K mg adr) (hT : T.defs = rs.map fun r => (r.nm, r.np)) (hc : ∀ r ∈ rs, recB T r = true) (hat : ∀ r ∈ rs, RecAt K mg r) :
    ∀ (n i : Nat) (r : Rec), rs[i]? = some r → ∃ (f : Addr) (fd : FuncData), (∀ base : Heap, FnOk P w K mg base (L2.CX P w) n f fd r.ps (spD K adr r.np (den (rs.map Rec.d) n i))) ∧ mg r.nm = some (.ref f) ∧ PySem.W.keepIn K (.ref f) = true ∧ (∀ us : List Value, us.length = r.ps.length → bindArgs fd ⟨us, []⟩ = pure (r.ps.zip us)) ∧ r.ps.length = r.np
  | 0, i, r, hi => by
    have hm := List.mem_of_getElem? hi
    obtain ⟨f, fd, F, m, b⟩ := hat r hm
    have h := hc r hm
    simp only [recB, Bool.and_eq_true, decide_eq_true_eq] at h
    have hps : r.ps.length = r.np := by unfold Rec.ps; rw [List.length_take]; omega
    have no : ∀ vs H Q E, ¬ spD K adr r.np (den (rs.map Rec.d) 0 i) vs H Q E := fun vs H Q E z => by
      obtain ⟨_, R, M, ws, st, o, _, _, e, _⟩ := z
      cases e
    exact ⟨f, fd, fun base => ⟨fun vs H Q E z => absurd z (no vs H Q E), fun A outer s H args us vs Q E _ _ _ _ z => absurd z (no vs H Q E)⟩, m, F.kp, b, hps⟩
  | n + 1, i, r, hi => by
    have hm := List.mem_of_getElem? hi
    obtain ⟨f, fd, F, m, b⟩ := hat r hm
    have h := hc r hm
    have h' := h
    simp only [recB, Bool.and_eq_true, decide_eq_true_eq] at h'
    have hps : r.ps.length = r.np := by unfold Rec.ps; rw [List.length_take]; omega
    have ih := all_ok top hT hc hat n
    have q := fun base => ok_def (base := base) (k := n) (g := den (rs.map Rec.d) n) F top h fun j x m' hj => by
      rw [hT, List.getElem?_map] at hj
      cases e : rs[j]? with
      | none => rw [e] at hj; cases hj
      | some r' =>
        rw [e] at hj
        simp only [Option.map_some, Option.some.injEq, Prod.mk.injEq] at hj
        obtain ⟨rfl, rfl⟩ := hj
        obtain ⟨f', fd', q1, q2, q3, q4, q5⟩ := ih j r' e
        exact ⟨f', fd', _, q1 base, q2, q3, .all q4, q5⟩
    have e2 : den (rs.map Rec.d) (n + 1) i = runD r.d (den (rs.map Rec.d) n) := by
      funext ws st
      show (match (rs.map Rec.d)[i]? with
        | some d => runD d (den (rs.map Rec.d) n) ws st
        | none => none) = _
      rw [List.getElem?_map, hi]
      rfl
    rw [e2]
    exact ⟨f, fd, q, m, F.kp, b, hps⟩
/-- what law(script) promises -/
def spLaw (K : PySem.W.Frag) : Sp := fun vs H Q _ => ∃ (a : Addr) (ns : List Int), vs = [.ref a] ∧ SqL K H a (ns.map V.int) ∧ ns.length ≤ 63 ∧ ∀ H', Q (.bl true) H'
theorem law_ok {T : Tb} {adr : Nat → Addr} {rs : List Rec} (top : Top T P w K mg adr) (hT : T.defs = rs.map fun r => (r.nm, r.np)) (hc : ∀ r ∈ rs, recB T r = true) (hat : ∀ r ∈ rs, RecAt K mg r) {n i : Nat} {r : Rec} (hi : rs[i]? = some r) (h1 : r.np = 1)
    (hl : ∀ ns : List Int, ns.length ≤ 63 → den (rs.map Rec.d) n i [.d (.scr ns)] [] = some (.val (.d (.bl true)), [])) : ∃ (f : Addr) (fd : FuncData), (∀ base : Heap, FnOk P w K mg base (L2.CX P w) n f fd r.ps (spLaw K)) ∧ mg r.nm = some (.ref f) ∧ ∀ us : List Value, us.length = r.ps.length → bindArgs fd ⟨us, []⟩ = pure (r.ps.zip us) := by
  obtain ⟨f, fd, q1, q2, _, q3, _⟩ := all_ok top hT hc hat n i r hi
  refine ⟨f, fd, fun base => (q1 base).imp fun vs H Q E z => ?_, q2, q3⟩
  obtain ⟨a, ns, rfl, hS, h63, hq⟩ := z
  refine ⟨by rw [h1]; rfl, [], [], [.d (.scr ns)], [], _, ⟨List.nodup_nil, fun a h => by simp at h, fun a h => by simp at h, rfl, fun i c a h => by simp at h⟩, ⟨.ref a, [], rfl, ?_, rfl⟩, hl ns h63, fun v H' M' g S r => ?_⟩
  · show Rep K _ H (.scr ns) (.ref a)
    rw [Rep]
    refine ⟨a, rfl, ?_⟩
    rcases hS with z | z
    · exact .inl ⟨z, by simp⟩
    · exact .inr z
  · have r : Rep K (M' ++ []) H' (.bl true) v := r
    rw [rep_bl.mp r]
    exact hq H'
theorem CX_none {H : Hp} {s : Shared} {e : Value} {s' : Shared} (h : L2.CX P w [] H s (fun _ _ _ => False) e s') : False := by
  obtain ⟨_, _, _, _, _, _, _, _, _, _, _, _, z⟩ := h
  exact z
theorem at_mk {nm : Str} {st : Stmt} {N : List Str} {np : Nat} {d : Def} {h : Heap} (X : K.In h) (G : h.Ns mainGlobals mg) {f : Addr} {od an : Option Addr} {sl : Array (Option Value)} {oc kV dc pm cd ct : Value}
    (b : ∀ (kV doc pm : Value) (an : Option Addr) (cdv ct : Value) (us : List Value), us.length = (N.take np).length → bindArgs (PySem.W.fnOf nm nm (defArgs st) (defBody st) (defScope st) .none kV doc pm an cdv ct) ⟨us, []⟩ = pure ((N.take np).zip us))
    (a : PySem.W.nsIn K mainGlobals nm = some (some (.ref f))) (l : K.lookup f = some ⟨oc, od, .func (PySem.W.fnOf nm nm (defArgs st) (defBody st) (defScope st) .none kV dc pm an cd ct), sl⟩) (c : PySem.W.codeIn K cd nm = true) (k : PySem.W.keepIn K (.ref f) = true) : RecAt K mg ⟨nm, st, N, np, d⟩ :=
  ⟨f, _, fun_mk (st := st) l c k, PySem.W.mg_of X G a, b kV dc pm an cd ct⟩
theorem walk_law {l : PySem.W.OpenLaw} {q : Program} {loose : List Str} {XP : (Str → Option Value) → Heap → Prop} {YP : World → Heap → Prop} {d : DefRec} {K : Params → PySem.W.Frag} {T : Tb} {rs : List Rec} (hn : l.most = some 63) (hdf : d.params.defaults = [])
    (hY : ∀ (w : World) (h : Heap), YP w h → (K w.params).In h) {i : Nat} {st : Stmt} {x : Str} {N : List Str} {dd : Def} (hi : rs[i]? = some ⟨d.name, st, x :: N, 1, dd⟩) (hT : T.defs = rs.map fun r => (r.nm, r.np)) (hc : rs.all (recB T) = true) {adr : Program → Nat → Addr}
    (hl : ∀ ns : List Int, ns.length ≤ 63 → den (rs.map Rec.d) 65 i [.d (.scr ns)] [] = some (.val (.d (.bl true)), []))
    (F : ∀ (w : World) (mg : Str → Option Value) (h : Heap), (K w.params).In h → h.Ns mainGlobals mg → Top T l.prog w (K w.params) mg (adr l.prog) ∧ ∀ r ∈ rs, RecAt (K w.params) mg r) :
    PySem.W.WalkO q loose XP YP l.row.toRowW d [] (fun f vs => PySem.call f vs) :=
  L2.walk_of (n := 63) (k := 65) (x := x) (CX := fun w => L2.CX l.prog w) (sp := fun w => spLaw (K w.params)) hn (by decide) hdf ⟨rfl, by decide, by decide⟩ hY (fun w mg fa h KX G hm => by
    obtain ⟨top, hat⟩ := F w mg h KX G
    obtain ⟨f, fd, q1, q2, q3⟩ := law_ok top hT (fun r hr => List.all_eq_true.mp hc r hr) hat hi rfl hl
    have e : f = fa := by
      have := q2.symm.trans hm
      cases this; rfl
    subst e
    exact ⟨fd, fun s u => .of_eq (q3 [u] rfl), fun base _ _ => q1 base⟩) (fun _ _ a ns hl' _ hS => ⟨a, ns, rfl, hS, hl', fun _ => rfl⟩) fun w _ _ _ _ z => CX_none z
theorem bl_nil {mg : Str → Option Value} : ∀ x ∈ ([] : List Str), mg x = none := fun x h => by cases h
theorem bl_cons {mg : Str → Option Value} {x : Str} {xs : List Str} (h : mg x = none) (t : ∀ y ∈ xs, mg y = none) : ∀ y ∈ x :: xs, mg y = none := fun y hy => by
  rcases List.mem_cons.mp hy with rfl | hy
  · exact h
  · exact t y hy
theorem rc_nil : ∀ r ∈ ([] : List Rec), RecAt K mg r := fun r h => by cases h
theorem rc_cons {r : Rec} {rs : List Rec} (h : RecAt K mg r) (t : ∀ y ∈ rs, RecAt K mg y) : ∀ y ∈ r :: rs, RecAt K mg y := fun y hy => by
  rcases List.mem_cons.mp hy with rfl | hy
  · exact h
  · exact t y hy
end Cw
/-! 16. Reckoning with the interpreter: walks as folds. -/
namespace Cw
open PySem
/-- a walk over a list, turn by turn -/
def foldC (f : D → Store → Out (Option D)) : List D → Store → Out (List D)
  | [], st => ret [] st
  | x :: xs, st => bnd (f x st) fun o st1 => bnd (foldC f xs st1) fun ys st2 => ret (match o with
      | some y => y :: ys
      | none => ys) st2
def foldF (tg : Tg) (body : Env → Store → OutS) : List D → Env → Store → OutS
  | [], env, st => nextS env st
  | x :: xs, env, st => match bindT env tg x with
    | none => none
    | some env1 => seqS (body env1 st) fun env2 st2 => foldF tg body xs env2 st2
theorem stat_at {ds : List D} {j : Nat} {st : Store} (h : j < ds.length) : stat ds j st = some (some ds[j]) := by
  unfold stat
  rw [if_pos (Nat.le_of_lt h), List.getElem?_eq_getElem h]
theorem stat_end {ds : List D} {st : Store} : stat ds ds.length st = some none := by
  unfold stat
  rw [if_pos (Nat.le_refl _), List.getElem?_eq_none (Nat.le_refl _)]
theorem loopC_drop {f : D → Store → Out (Option D)} {ds : List D} : ∀ (n j : Nat) (st : Store), j ≤ ds.length → ds.length < n + j → loopC f (stat ds) n j st = foldC f (ds.drop j) st
  | 0, j, st, h1, h2 => by omega
  | n + 1, j, st, h1, h2 => by
    by_cases e : j = ds.length
    · subst e
      rw [List.drop_length]
      unfold loopC
      rw [stat_end]
      rfl
    · have hj : j < ds.length := by omega
      unfold loopC
      rw [stat_at hj, List.drop_eq_getElem_cons hj]
      simp only [foldC]
      congr 1
      funext o st1
      rw [loopC_drop n (j + 1) st1 hj (by omega)]
      all_goals rfl
theorem loopC_stat {f : D → Store → Out (Option D)} {ds : List D} {st : Store} (h : ds.length ≤ LIM) : loopC f (stat ds) (LIM + 1) 0 st = foldC f ds st := by
  rw [loopC_drop _ _ _ (Nat.zero_le _) (by omega)]
  rfl
theorem loopF_drop {tg : Tg} {f : Env → Store → OutS} {ds : List D} : ∀ (n j : Nat) (env : Env) (st : Store), j ≤ ds.length → ds.length < n + j → loopF tg (stat ds) f n j env st = foldF tg f (ds.drop j) env st
  | 0, j, env, st, h1, h2 => by omega
  | n + 1, j, env, st, h1, h2 => by
    by_cases e : j = ds.length
    · subst e
      rw [List.drop_length]
      unfold loopF
      rw [stat_end]
      rfl
    · have hj : j < ds.length := by omega
      unfold loopF
      rw [stat_at hj, List.drop_eq_getElem_cons hj]
      simp only [foldF]
      cases bindT env tg ds[j] with
      | none => rfl
      | some env1 =>
        show seqS _ _ = seqS _ _
        congr 1
        funext env2 st2
        rw [loopF_drop n (j + 1) env2 st2 hj (by omega)]
theorem loopF_stat {tg : Tg} {f : Env → Store → OutS} {ds : List D} {env : Env} {st : Store} (h : ds.length ≤ LIM) : loopF tg (stat ds) f (LIM + 1) 0 env st = foldF tg f ds env st := by
  rw [loopF_drop _ _ _ _ (Nat.zero_le _) (by omega)]
  rfl
theorem zipS_stat {a b : List D} : zipS (stat a) (stat b) = stat ((a.zip b).map fun p => .tup [p.1, p.2]) := by
  funext j st
  unfold zipS stat
  by_cases ha : j < a.length
  · by_cases hb : j < b.length
    · rw [if_pos (by omega), if_pos (by omega), if_pos (by simp; omega)]
      rw [List.getElem?_eq_getElem ha, List.getElem?_eq_getElem hb, List.getElem?_eq_getElem (by simp; omega)]
      simp
    · by_cases hb2 : j = b.length
      · rw [if_pos (by omega), if_pos (by omega), if_pos (by simp; omega)]
        rw [List.getElem?_eq_getElem ha, List.getElem?_eq_none (by omega), List.getElem?_eq_none (by simp; omega)]
      · rw [if_pos (by omega), if_neg (by omega), if_neg (by simp; omega)]
        cases h : a[j]? <;> rfl
  · by_cases ha2 : j = a.length
    · by_cases hb : j ≤ b.length
      · rw [if_pos (by omega), if_pos hb, if_pos (by simp; omega)]
        rw [List.getElem?_eq_none (by omega), List.getElem?_eq_none (l := List.map _ _) (by simp; omega)]
      · rw [if_pos (by omega), if_neg hb, if_neg (by simp; omega)]
        rw [List.getElem?_eq_none (by omega)]
    · have h1 : ¬ j ≤ a.length := by omega
      rw [if_neg (show ¬ j ≤ (List.map (fun p : D × D => D.tup [p.1, p.2]) (a.zip b)).length by simp; omega)]
      simp only [h1, if_false]
theorem rngS_stat {lo hi : Int} : rngS lo hi = stat ((List.range (hi - lo).toNat).map fun k => .int (lo + (k : Nat))) := by
  funext j st
  unfold rngS stat
  rw [List.length_map, List.length_range]
  by_cases h : j ≤ (hi - lo).toNat
  · rw [if_pos h, if_pos h]
    by_cases h2 : j < (hi - lo).toNat
    · rw [if_pos h2, List.getElem?_map, List.getElem?_range h2]
      rfl
    · rw [if_neg h2, List.getElem?_eq_none (by simp; omega)]
  · rw [if_neg h, if_neg h]
theorem enmS_stat {a : List D} : enmS (stat a) = stat (a.zipIdx.map fun p => .tup [.int (p.2 : Nat), p.1]) := by
  funext j st
  unfold enmS stat
  rw [List.length_map, List.length_zipIdx]
  by_cases h : j ≤ a.length
  · rw [if_pos h, if_pos h, List.getElem?_map, List.getElem?_zipIdx]
    cases a[j]? <;> simp
  · rw [if_neg h, if_neg h]
/-- turns that leave the store alone -/
theorem foldC_pure {f : D → Store → Out (Option D)} {h : D → Option D} {st : Store} : ∀ {ds : List D}, (∀ x ∈ ds, f x st = some (.val (h x), st)) → foldC f ds st = some (.val (ds.filterMap h), st)
  | [], _ => rfl
  | x :: xs, hf => by
    unfold foldC
    rw [hf x List.mem_cons_self]
    show bnd (foldC f xs st) _ = _
    rw [foldC_pure fun y hy => hf y (List.mem_cons_of_mem _ hy)]
    simp only [bnd, ret, List.filterMap_cons]
    cases h x <;> rfl
/-- a def's run -/
theorem den_run {ds : List Def} {n i : Nat} {d : Def} {ws : List W} {st : Store} (h : ds[i]? = some d) : den ds (n + 1) i ws st = runD d (den ds n) ws st := by
  show (match ds[i]? with
    | some d => runD d (den ds n) ws st
    | none => none) = _
  rw [h]
/-! ints, tuples of them -/
def iT (xs : List Int) : D := .tup (xs.map .int)
def iL (xs : List Int) : D := .lst (xs.map .int)
/-! ### rules for reckoning -/
section
variable {A B : Type} {a : A} {s s' : Store} {c : Nat} {env env' : Env} {w : W} {x : D} {n : Nat}
theorem r_val {f : A → Store → Out B} : bnd (some (.val a, s)) f = f a s := rfl
theorem r_exc {f : A → Store → Out B} : bnd (some (.exc c, s)) f = some (.exc c, s) := rfl
theorem r_ret : Cw.ret a s = some (.val a, s) := rfl
theorem r_lift : lift (some a) s = some (.val a, s) := rfl
theorem r_asB {b : Bool} : asB (.bl b) s = some (.val b, s) := rfl
theorem r_asI {i : Int} : asI (.int i) s = some (.val i, s) := rfl
theorem r_then {f : A → Store → OutS} : thenS (some (.val a, s)) env f = f a s := rfl
theorem r_thenx {f : A → Store → OutS} : thenS (some (.exc c, s)) env f = some (.exc c, env, s) := rfl
theorem r_next : nextS env s = some (.next, env, s) := rfl
theorem r_seq {f : Env → Store → OutS} : seqS (some (.next, env, s)) f = f env s := rfl
theorem r_seqr {f : Env → Store → OutS} : seqS (some (.ret w, env, s)) f = some (.ret w, env, s) := rfl
theorem r_seqx {f : Env → Store → OutS} : seqS (some (.exc c, env, s)) f = some (.exc c, env, s) := rfl
theorem r_now : now s (.d x) = some x := rfl
theorem r_calm : calmO (some (.val a, s)) = some (.val a, s) := rfl
theorem r_frz {n : Nat} : frzO n (some (.val (.d x), s)) = some (.val x, s.take n) := rfl
theorem r_frzx {n : Nat} : frzO n (some (.exc c, s)) = some (.exc c, s) := rfl
theorem r_take {α : Type} {s : List α} : List.take s.length s = s := List.take_length
theorem r_leave : leave n (some (.ret (.d x), env, s)) = some (.val (.d x), s.take n) := rfl
theorem r_leaven : leave n (some (.next, env, s)) = some (.val (.d .non), s.take n) := rfl
theorem r_leavex : leave n (some (.exc c, env, s)) = some (.exc c, s.take n) := rfl
/-! slots -/
theorem s_zero {e : Env} : slotD (some (.d x) :: e) 0 = some x := rfl
theorem s_succ {o : Option W} {e : Env} {n : Nat} : slotD (o :: e) (n + 1) = slotD e n := rfl
theorem a_zero {e : Env} : slotA (some (.d x) :: e) 0 = some (.d x) := rfl
theorem a_zeror {e : Env} {k : Nat} : slotA (some (.r k) :: e) 0 = some (.r k) := rfl
theorem a_succ {o : Option W} {e : Env} {n : Nat} : slotA (o :: e) (n + 1) = slotA e n := rfl
theorem e_set0 {o o' : Option W} {e : Env} : List.set (o :: e) 0 o' = o' :: e := rfl
theorem e_sets {o o' : Option W} {e : Env} {n : Nat} : List.set (o :: e) (n + 1) o' = o :: List.set e n o' := rfl
/-! data -/
theorem d_idxT {ds : List D} {i : Int} : idxD (.tup ds) (.int i) = L2.atI ds i := rfl
theorem d_idxL {ds : List D} {i : Int} : idxD (.lst ds) (.int i) = L2.atI ds i := rfl
theorem at_zero {α : Type} {x : α} {xs : List α} : L2.atI (x :: xs) 0 = some x := by
  unfold L2.atI L2.ixN
  simp
theorem at_nat {α : Type} {xs : List α} {k : Nat} : L2.atI xs (k : Int) = xs[k]? := by
  unfold L2.atI L2.ixN
  by_cases h : k < xs.length
  · simp [h]
  · have h1 : ¬ ((k : Int) < (xs.length : Nat)) := by omega
    have h2 : (0 : Int) ≤ (k : Int) := by omega
    rw [if_pos h2, if_neg h1]
    simp only [Option.bind_none]
    rw [List.getElem?_eq_none (by omega)]
theorem at_lit {α : Type} {xs : List α} {k : Nat} : L2.atI xs (OfNat.ofNat k : Int) = xs[k]? := at_nat
theorem at_ok {α : Type} {xs : List α} {i : Int} (h0 : 0 ≤ i) (h1 : i < xs.length) : L2.atI xs i = some (xs[i.toNat]'(by omega)) := by
  have e : L2.atI xs ((i.toNat : Nat) : Int) = _ := at_nat
  rw [Int.toNat_of_nonneg h0] at e
  rw [e]
  exact List.getElem?_eq_getElem (by omega)
theorem d_add {i j : Int} : addD (.int i) (.int j) = some (.int (i + j)) := rfl
theorem d_sub {i j : Int} : subD (.int i) (.int j) = some (.int (i - j)) := rfl
theorem d_mul {i j : Int} (h : mulOk i j = true) : mulD (.int i) (.int j) = some (.int (i * j)) := by
  show (if mulOk i j = true then some (D.int (i * j)) else none) = _
  rw [if_pos h]
theorem d_md {i j : Int} (h : 0 < j) : mdD (.int i) (.int j) = some (.int (i % j)) := by
  show (if 0 < j then some (D.int (i % j)) else none) = _
  rw [if_pos h]
theorem d_fd {i j : Int} (h : 0 < j) (h2 : j.natAbs.log2 < 9000) : fdD (.int i) (.int j) = some (.int (i / j)) := by
  show (if 0 < j ∧ j.natAbs.log2 < 9000 then some (D.int (i / j)) else none) = _
  rw [if_pos ⟨h, h2⟩]
theorem mulOk_r {i j : Int} (h : j.natAbs < 2 ^ 64) : mulOk i j = true := by
  unfold mulOk
  rw [decide_eq_true h]
  simp
theorem mulOk_l {i j : Int} (h : i.natAbs < 2 ^ 64) : mulOk i j = true := by
  unfold mulOk
  rw [decide_eq_true h]
  simp
theorem mulOk_b {i j : Int} (h : i.natAbs < 2 ^ 400000) (h' : j.natAbs < 2 ^ 400000) : mulOk i j = true := by
  have small : ∀ {k : Nat}, k < 2 ^ 400000 → k.log2 < 400000 := fun {k} h => by
    by_cases e : k = 0
    · subst e; decide
    · exact (Nat.log2_lt e).mpr h
  have := small h
  have := small h'
  unfold mulOk
  rw [decide_eq_true (p := i.natAbs.log2 + j.natAbs.log2 < 1000000) (by omega)]
  simp
theorem d_lt {i j : Int} : cmpD .lt (.int i) (.int j) = some (decide (i < j)) := rfl
theorem d_le {i j : Int} : cmpD .le (.int i) (.int j) = some (decide (i ≤ j)) := rfl
theorem d_gt {i j : Int} : cmpD .gt (.int i) (.int j) = some (decide (j < i)) := rfl
theorem d_ge {i j : Int} : cmpD .ge (.int i) (.int j) = some (decide (j ≤ i)) := rfl
/-! equality of data -/
mutual
def dsz : D → Nat
  | .non => 0
  | .bl _ => 0
  | .int _ => 0
  | .str _ => 0
  | .tup ds => dszs ds + 1
  | .lst ds => dszs ds + 1
  | .scr _ => 1
def dszs : List D → Nat
  | [] => 0
  | d :: ds => max (dsz d) (dszs ds)
end
mutual
def dok : D → Bool
  | .non => true
  | .bl _ => true
  | .int _ => true
  | .str x => PyData.strOk x
  | .tup ds => doks ds
  | .lst ds => doks ds
  | .scr _ => true
def doks : List D → Bool
  | [] => true
  | d :: ds => dok d && doks ds
end
theorem ints_dep : ∀ ns : List Int, PyData.depthAll (ns.map .int) = 0
  | [] => rfl
  | n :: ns => by simp [PyData.depthAll, PyData.depth, ints_dep ns]
theorem ints_can : ∀ ns : List Int, PyData.canLayAll0 (ns.map .int) = true
  | [] => rfl
  | n :: ns => by simp [PyData.canLayAll0, PyData.canLay0, ints_can ns]
mutual
theorem dep_py : ∀ d : D, (toPy d).depth = dsz d
  | .non => by simp [toPy, PyData.depth, dsz]
  | .bl _ => by simp [toPy, PyData.depth, dsz]
  | .int _ => by simp [toPy, PyData.depth, dsz]
  | .str _ => by simp [toPy, PyData.depth, dsz]
  | .tup ds => by simp [toPy, PyData.depth, dsz, deps_py ds]
  | .lst ds => by simp [toPy, PyData.depth, dsz, deps_py ds]
  | .scr ns => by simp [toPy, PyData.depth, dsz, ints_dep ns]
theorem deps_py : ∀ d : List D, PyData.depthAll (toPys d) = dszs d
  | [] => by simp [toPys, PyData.depthAll, dszs]
  | d :: ds => by simp [toPys, PyData.depthAll, dszs, dep_py d, deps_py ds]
end
mutual
theorem can_py : ∀ d : D, (toPy d).canLay0 = dok d
  | .non => by simp [toPy, PyData.canLay0, dok]
  | .bl _ => by simp [toPy, PyData.canLay0, dok]
  | .int _ => by simp [toPy, PyData.canLay0, dok]
  | .str _ => by simp [toPy, PyData.canLay0, dok]
  | .tup ds => by simp [toPy, PyData.canLay0, dok, cans_py ds]
  | .lst ds => by simp [toPy, PyData.canLay0, dok, cans_py ds]
  | .scr ns => by simp [toPy, PyData.canLay0, dok, ints_can ns]
theorem cans_py : ∀ d : List D, PyData.canLayAll0 (toPys d) = doks d
  | [] => by simp [toPys, PyData.canLayAll0, doks]
  | d :: ds => by simp [toPys, PyData.canLayAll0, doks, can_py d, cans_py ds]
end
theorem shp_eq {d : D} : shp d = (dok d && decide (dsz d ≤ 64)) := by
  unfold shp SeqAt.shaped
  rw [can_py, dep_py]
theorem shp_of {d : D} (h : dok d = true) (h2 : dsz d ≤ 64) : shp d = true := by
  rw [shp_eq, h, decide_eq_true h2]; rfl
def deqs (a b : List D) : Bool := PyData.eqvAll (toPys a) (toPys b)
theorem deq_int {i j : Int} : deq (.int i) (.int j) = decide (i = j) := by
  simp only [deq, toPy, PyData.eqv]
  rw [Bool.eq_iff_iff]; simp
theorem deq_bl {i j : Bool} : deq (.bl i) (.bl j) = decide (i = j) := by
  simp only [deq, toPy, PyData.eqv]
  rw [Bool.eq_iff_iff]; simp
theorem deq_str {i j : Str} : deq (.str i) (.str j) = decide (i = j) := by
  simp only [deq, toPy, PyData.eqv]
  rw [Bool.eq_iff_iff]; simp
theorem deq_tup {a b : List D} : deq (.tup a) (.tup b) = deqs a b := by
  simp only [deq, toPy, PyData.eqv, deqs]
theorem deq_lst {a b : List D} : deq (.lst a) (.lst b) = deqs a b := by
  simp only [deq, toPy, PyData.eqv, deqs]
theorem deqs_nil : deqs [] [] = true := by simp only [deqs, toPys, PyData.eqvAll]
theorem deqs_cons {a b : D} {as bs : List D} : deqs (a :: as) (b :: bs) = (deq a b && deqs as bs) := by simp only [deqs, deq, toPys, PyData.eqvAll]
theorem deqs_nc {b : D} {bs : List D} : deqs [] (b :: bs) = false := by simp only [deqs, toPys, PyData.eqvAll]
theorem deqs_cn {b : D} {bs : List D} : deqs (b :: bs) [] = false := by simp only [deqs, toPys, PyData.eqvAll]
theorem deqs_ints : ∀ {as bs : List Int}, deqs (as.map .int) (bs.map .int) = decide (as = bs)
  | [], [] => by simp [deqs_nil]
  | [], b :: bs => by simp [deqs_nc]
  | a :: as, [] => by simp [deqs_cn]
  | a :: as, b :: bs => by
    rw [List.map_cons, List.map_cons, deqs_cons, deq_int, deqs_ints, Bool.eq_iff_iff]
    simp
theorem dszs_ints : ∀ as : List Int, dszs (as.map .int) = 0
  | [] => rfl
  | a :: as => by rw [List.map_cons, dszs, dszs_ints as]; rfl
theorem doks_ints : ∀ as : List Int, doks (as.map .int) = true
  | [] => rfl
  | a :: as => by rw [List.map_cons, doks, doks_ints as]; rfl
theorem shp_int {i : Int} : shp (.int i) = true := shp_of rfl (by simp [dsz])
theorem d_eq {a b : D} (h : shp a = true) (h' : shp b = true) : cmpD .eq a b = some (deq a b) := by
  show (if shp a = true ∧ shp b = true then some (deq a b) else none) = _
  rw [if_pos ⟨h, h'⟩]
theorem d_ne {a b : D} (h : shp a = true) (h' : shp b = true) : cmpD .ne a b = some (!deq a b) := by
  show (if shp a = true ∧ shp b = true then some (deq a b) else none).map not = _
  rw [if_pos ⟨h, h'⟩]
  rfl
theorem d_eqi {i j : Int} : cmpD .eq (.int i) (.int j) = some (decide (i = j)) := by rw [d_eq shp_int shp_int, deq_int]
theorem d_nei {i j : Int} : cmpD .ne (.int i) (.int j) = some (!decide (i = j)) := by rw [d_ne shp_int shp_int, deq_int]
end
/-! ### comprehensions -/
theorem foldC_len {f : D → Store → Out (Option D)} : ∀ {ds ys : List D} {st s : Store}, foldC f ds st = some (.val ys, s) → ys.length ≤ ds.length
  | [], ys, st, s, h => by
    simp only [foldC, r_ret, Option.some.injEq, Prod.mk.injEq, Rs.val.injEq] at h
    rw [← h.1]; exact Nat.le_refl _
  | x :: xs, ys, st, s, h => by
    unfold foldC at h
    obtain ⟨o, s1, h1, h2⟩ := bnd_val h
    obtain ⟨zs, s2, h3, h4⟩ := bnd_val h2
    simp only [r_ret, Option.some.injEq, Prod.mk.injEq, Rs.val.injEq] at h4
    have := foldC_len h3
    rw [← h4.1]
    cases o <;> simp <;> omega
theorem lc_of {g : Den} {elt : CE} {tg : Tg} {src : CI} {cnd : CO} {own : List Nat} {env : Env} {st s s' : Store} {ds ys : List D} (h1 : evI g src env st = some (.val (stat ds), s)) (h2 : ds.length ≤ LIM) (h3 : foldC (turnC own tg (evC g cnd) (evE g elt) env) ds s = some (.val ys, s')) : evE g (.lc elt tg src cnd own) env st = some (.val (.lst ys), s') := by
  rw [lc_eq]
  unfold lcF
  rw [h1, r_val, loopC_stat h2, h3, r_calm, r_val, if_pos (Nat.le_trans (foldC_len h3) h2), r_ret]
theorem foldC_map {α : Type} {f : D → Store → Out (Option D)} {e r : α → D} {st : Store} : ∀ {xs : List α}, (∀ x ∈ xs, f (e x) st = some (.val (some (r x)), st)) → foldC f (xs.map e) st = some (.val (xs.map r), st)
  | [], _ => rfl
  | x :: xs, h => by
    rw [List.map_cons, List.map_cons]
    unfold foldC
    rw [h x List.mem_cons_self, r_val, foldC_map fun y hy => h y (List.mem_cons_of_mem _ hy)]
    rfl
theorem foldC_fil {α : Type} {f : D → Store → Out (Option D)} {e : α → D} {r : α → Option D} {st : Store} : ∀ {xs : List α}, (∀ x ∈ xs, f (e x) st = some (.val (r x), st)) → foldC f (xs.map e) st = some (.val (xs.filterMap r), st)
  | [], _ => rfl
  | x :: xs, h => by
    rw [List.map_cons, List.filterMap_cons]
    unfold foldC
    rw [h x List.mem_cons_self, r_val, foldC_fil fun y hy => h y (List.mem_cons_of_mem _ hy)]
    cases r x <;> rfl
theorem t_no {g : Den} {own : List Nat} {tg : Tg} {fe : Env → Store → Out D} {env env' : Env} {x y : D} {s : Store} (h : bindT (wipeE env own) tg x = some env') (h2 : fe env' s = some (.val y, s)) : turnC own tg (evC g .no) fe env x s = some (.val (some y), s) := by
  unfold turnC
  rw [h]
  show bnd (evC g .no env' s) _ = _
  rw [show evC g .no env' s = some (.val true, s) from by rw [evC]; rfl, r_val, if_pos rfl, h2]
  rfl
theorem t_yes {g : Den} {own : List Nat} {tg : Tg} {c : CE} {fe : Env → Store → Out D} {env env' : Env} {x y : D} {b : Bool} {s : Store} (h : bindT (wipeE env own) tg x = some env') (h1 : evE g c env' s = some (.val (.bl b), s)) (h2 : b = true → fe env' s = some (.val y, s)) : turnC own tg (evC g (.yes c)) fe env x s = some (.val (if b = true then some y else none), s) := by
  unfold turnC
  rw [h]
  show bnd (evC g (.yes c) env' s) _ = _
  rw [show evC g (.yes c) env' s = some (.val b, s) from by rw [evC, h1]; rfl, r_val]
  cases b with
  | true => rw [if_pos rfl, if_pos rfl, h2 rfl]; rfl
  | false => rfl
theorem zip_maps {α β : Type} {f : α → D} {g : β → D} {as : List α} {bs : List β} : zipS (stat (as.map f)) (stat (bs.map g)) = stat ((as.zip bs).map fun p => .tup [f p.1, g p.2]) := by
  rw [zipS_stat, List.zip_map, List.map_map]
  rfl
theorem enm_maps {α : Type} {f : α → D} {as : List α} : enmS (stat (as.map f)) = stat (as.zipIdx.map fun p => .tup [.int (p.2 : Nat), f p.1]) := by
  rw [enmS_stat, List.zipIdx_map, List.map_map]
  rfl
theorem for_of {g : Den} {tg : Tg} {src : CI} {body : CSs} {env : Env} {st s : Store} {ds : List D} (h1 : evI g src env st = some (.val (stat ds), s)) (h2 : ds.length ≤ LIM) : exS g (.for_ tg src body) env st = foldF tg (exSs g body) ds env s := by
  rw [exS, h1, r_then, loopF_stat h2]
theorem intsOf_map : ∀ {xs : List Int}, intsOf (xs.map .int) = some xs
  | [] => rfl
  | x :: xs => by rw [List.map_cons, intsOf, intsOf_map]; rfl
theorem blsOf_map : ∀ {xs : List Bool}, blsOf (xs.map .bl) = some xs
  | [] => rfl
  | x :: xs => by rw [List.map_cons, blsOf, blsOf_map]; rfl
theorem b_sum {xs : List Int} : bfD .sum (.lst (xs.map .int)) = some (.int xs.sum) := by
  show (intsOf (xs.map .int)).map _ = _
  rw [intsOf_map]; rfl
theorem b_any {xs : List Bool} : bfD .any (.lst (xs.map .bl)) = some (.bl (xs.any id)) := by
  show (blsOf (xs.map .bl)).map _ = _
  rw [blsOf_map]; rfl
theorem b_all {xs : List Bool} : bfD .all (.lst (xs.map .bl)) = some (.bl (xs.all id)) := by
  show (blsOf (xs.map .bl)).map _ = _
  rw [blsOf_map]; rfl
theorem b_tupL {ds : List D} : bfD .tup (.lst ds) = some (.tup ds) := rfl
theorem b_tupT {ds : List D} : bfD .tup (.tup ds) = some (.tup ds) := rfl
theorem b_lstL {ds : List D} : bfD .lst (.lst ds) = some (.lst ds) := rfl
theorem b_lstT {ds : List D} : bfD .lst (.tup ds) = some (.lst ds) := rfl
theorem b_int {b : Bool} : bfD .int (.bl b) = some (.int (if b then 1 else 0)) := rfl
theorem b_lenL {ds : List D} : bfD .len (.lst ds) = some (.int ds.length) := rfl
theorem b_lenT {ds : List D} : bfD .len (.tup ds) = some (.int ds.length) := rfl
theorem b_lenS {ds : List Int} : bfD .len (.scr ds) = some (.int ds.length) := rfl
theorem op_add : op2 .add = addD := rfl
theorem op_sub : op2 .sub = subD := rfl
theorem op_mul : op2 .mul = mulD := rfl
theorem op_md : op2 .md = mdD := rfl
theorem op_fd : op2 .fd = fdD := rfl
theorem op_pw : op2 .pw = pwD := rfl
theorem at_0 {α : Type} {x : α} {xs : List α} : L2.atI (x :: xs) 0 = some x := at_zero
theorem at_1 {α : Type} {x y : α} {xs : List α} : L2.atI (x :: y :: xs) 1 = some y := at_lit (k := 1)
theorem at_2 {α : Type} {x y z : α} {xs : List α} : L2.atI (x :: y :: z :: xs) 2 = some z := at_lit (k := 2)
theorem at_3 {α : Type} {x y z w : α} {xs : List α} : L2.atI (x :: y :: z :: w :: xs) 3 = some w := at_lit (k := 3)
theorem rng_nat {m : Nat} : rngS 0 (m : Int) = stat ((List.range m).map fun k => .int ((k : Nat) : Int)) := by
  rw [rngS_stat]
  simp
theorem s_eq {env : Env} {i : Nat} {x : D} (h : env[i]? = some (some (.d x))) : slotD env i = some x := by
  unfold slotD slot
  rw [h]; rfl
theorem isT_int {i : Int} : isTy .int (.int i) = true := rfl
theorem isT_bool {i : Int} : isTy .bool (.int i) = false := rfl
theorem get_map {α β : Type} {f : α → β} {as : List α} {k : Nat} (h : k < as.length) : (as.map f)[k]? = some (f as[k]) := by
  rw [List.getElem?_map, List.getElem?_eq_getElem h]; rfl
theorem bits_lt {i : Int} {k : Nat} (h : i.natAbs < 2 ^ k) (hk : k ≤ 400000) : i.natAbs < 2 ^ 400000 := Nat.lt_of_lt_of_le h (Nat.pow_le_pow_right (by decide) hk)
theorem dsz_T {ds : List D} : dsz (.tup ds) = dszs ds + 1 := by rw [dsz]
theorem dszs_c {d : D} {ds : List D} : dszs (d :: ds) = max (dsz d) (dszs ds) := by rw [dszs]
theorem dszs_n : dszs [] = 0 := by rw [dszs]
theorem dsz_i {i : Int} : dsz (.int i) = 0 := by rw [dsz]
theorem dok_T {ds : List D} : dok (.tup ds) = doks ds := by rw [dok]
theorem dok_L {ds : List D} : dok (.lst ds) = doks ds := by rw [dok]
theorem dsz_L {ds : List D} : dsz (.lst ds) = dszs ds + 1 := by rw [dsz]
theorem doks_c {d : D} {ds : List D} : doks (d :: ds) = (dok d && doks ds) := by rw [doks]
theorem doks_n : doks [] = true := by rw [doks]
theorem dok_i {i : Int} : dok (.int i) = true := by rw [dok]
theorem pw_10 {k : Nat} (h : k ≤ 1000) : pwD (.int 10) (.int (k : Int)) = some (.int (10 ^ k)) := by
  show (if 0 ≤ (k : Int) ∧ (k : Int) ≤ 1000000 ∧ (10 : Int).natAbs < 2 ^ 64 then some (D.int ((10 : Int) ^ ((k : Int)).toNat)) else none) = _
  rw [if_pos ⟨by omega, by omega, by decide⟩]
  rfl
theorem for_is {g : Den} {tg : Tg} {src : CI} {body : CSs} {env : Env} {st s : Store} {ds : List D} {r : OutS} (e : foldF tg (exSs g body) ds env s = r) (h1 : evI g src env st = some (.val (stat ds), s)) (h2 : ds.length ≤ LIM) : exS g (.for_ tg src body) env st = r := by
  rw [for_of h1 h2, e]
end Cw
namespace K01
open PySem PySem.Spec PyProof.Rows L2 Cw
abbrev ix_added : Nat := 0
abbrev ix_scaled : Nat := 1
abbrev ix_opposite : Nat := 2
abbrev ix_comes_to : Nat := 3
abbrev ix_is_open : Nat := 4
abbrev ix__law_cell_at : Nat := 5
abbrev ix__law_mixed : Nat := 6
abbrev ix__law_whole : Nat := 7
abbrev ix__law_number : Nat := 8
abbrev ix__law_sum : Nat := 9
abbrev ix__law_is : Nat := 10
abbrev ix_law : Nat := 11
def c_added_0 : CE := .lc (.bin .add (.var 2) (.var 3)) (.tp [2, 3]) (.zip (.e (.idx (.r 0) (.cint 1))) (.e (.idx (.r 1) (.cint 1)))) .no [2, 3]
/-- added(one, other): 0 one, 1 other, 2 a, 3 b -/
def d_added : Def := ⟨4, 2, (.cons (.ret (.tup (.cons (.bin .add (.idx (.r 0) (.cint 0)) (.idx (.r 1) (.cint 0))) (.cons (.fn .tup (.e c_added_0)) .nil)))) .nil)⟩
def c_scaled_0 : CE := .lc (.bin .mul (.var 2) (.var 1)) (.nm 2) (.of (.e (.idx (.r 0) (.cint 1)))) .no [2]
/-- scaled(whole, by): 0 whole, 1 by, 2 factor -/
def d_scaled : Def := ⟨3, 2, (.cons (.ret (.tup (.cons (.bin .mul (.idx (.r 0) (.cint 0)) (.var 1)) (.cons (.fn .tup (.e c_scaled_0)) .nil)))) .nil)⟩
/-- opposite(whole): 0 whole -/
def d_opposite : Def := ⟨1, 1, (.cons (.ret (.call ix_scaled (.cons (.r 0) (.cons (.e (.neg (.cint 1))) .nil)))) .nil)⟩
def b_comes_to_0 : CSs := (.cons (.set 2 (.bin .add (.var 2) (.bin .mul (.var 3) (.var 4)))) .nil)
def f_comes_to_0 : CS := .for_ (.tp [3, 4]) (.zip (.e (.idx (.r 0) (.cint 1))) (.r 1)) b_comes_to_0
/-- comes_to(whole, inputs): 0 whole, 1 inputs, 2 found, 3 factor, 4 number -/
def d_comes_to : Def := ⟨5, 2, (.cons (.set 2 (.idx (.r 0) (.cint 0))) (.cons f_comes_to_0 (.cons (.retW 2) .nil)))⟩
def c_is_open_0 : CE := .lc (.cmp .ne (.var 1) (.cint 0)) (.nm 1) (.of (.e (.idx (.r 0) (.cint 1)))) .no [1]
/-- is_open(whole): 0 whole, 1 factor -/
def d_is_open : Def := ⟨2, 1, (.cons (.ret (.fn .any (.e c_is_open_0))) .nil)⟩
/-- _law_cell_at(_law_script, _law_k): 0 _law_script, 1 _law_k -/
def d__law_cell_at : Def := ⟨2, 2, (.cons (.ite (.cmp .lt (.var 1) (.fn .len (.r 0))) (.cons (.ret (.bin .add (.idx (.r 0) (.var 1)) (.bin .mul (.bin .md (.idx (.r 0) (.var 1)) (.cint 251)) (.cint 381840)))) .nil) .nil) (.cons (.ret (.cint 0)) .nil))⟩
/-- _law_mixed(_law_cell, _law_k): 0 _law_cell, 1 _law_k -/
def d__law_mixed : Def := ⟨2, 2, (.cons (.ret (.bin .md (.bin .add (.bin .add (.bin .mul (.var 0) (.bin .add (.bin .add (.cint 48271) (.bin .mul (.bin .mul (.cint 7919) (.var 1)) (.var 1))) (.bin .mul (.cint 104729) (.var 1)))) (.bin .mul (.cint 7919) (.var 1))) (.cint 12345)) (.cint 2147483647))) .nil)⟩
/-- _law_whole(_law_found): 0 _law_found -/
def d__law_whole : Def := ⟨1, 1, (.cons (.ret (.and (.cons (.isi (.var 0) .int) (.cons (.not (.isi (.var 0) .bool)) .nil)))) .nil)⟩
/-- _law_number(_law_cell): 0 _law_cell -/
def d__law_number : Def := ⟨1, 1, (.cons (.ret (.idx (.e (.lst (.cons (.bin .sub (.bin .md (.var 0) (.cint 41)) (.cint 20)) (.cons (.bin .sub (.bin .md (.var 0) (.cint 3)) (.cint 1)) (.cons (.cint 0) (.cons (.bin .sub (.bin .pw (.cint 10) (.cint 30)) (.bin .md (.var 0) (.cint 5))) (.cons (.bin .sub (.bin .md (.var 0) (.cint 7)) (.bin .pw (.cint 10) (.cint 30))) .nil))))))) (.bin .md (.bin .fd (.var 0) (.cint 41)) (.cint 5)))) .nil)⟩
def c__law_sum_0 : CE := .lc (.call ix__law_number (.cons (.e (.call ix__law_mixed (.cons (.e (.bin .fd (.var 0) (.cint 3))) (.cons (.r 3) .nil)))) .nil)) (.nm 3) (.rng1 (.var 1)) .no [3]
def c__law_sum_1 : CE := .lc (.bin .sub (.cint 0) (.fn .int (.e (.cmp .eq (.var 3) (.bin .md (.bin .fd (.var 0) (.cint 3)) (.cint 4)))))) (.nm 3) (.rng1 (.var 1)) .no [3]
/-- _law_sum(_law_cell, _law_many): 0 _law_cell, 1 _law_many, 2 _law_factors, 3 _law_k -/
def d__law_sum : Def := ⟨4, 2, (.cons (.set 2 c__law_sum_0) (.cons (.ite (.cmp .eq (.bin .md (.var 0) (.cint 3)) (.cint 1)) (.cons (.set 2 c__law_sum_1) .nil) .nil) (.cons (.ret (.tup (.cons (.call ix__law_number (.cons (.e (.call ix__law_mixed (.cons (.e (.bin .fd (.var 0) (.cint 3))) (.cons (.e (.cint 9)) .nil)))) .nil)) (.cons (.fn .tup (.r 2)) .nil)))) .nil)))⟩
def c__law_is_0 : CE := .lc (.call ix__law_whole (.cons (.r 2) .nil)) (.nm 2) (.of (.e (.bin .add (.idx (.r 0) (.cint 1)) (.tup (.cons (.idx (.r 0) (.cint 0)) .nil))))) .no [2]
/-- _law_is(_law_found, _law_due): 0 _law_found, 1 _law_due, 2 _law_one -/
def d__law_is : Def := ⟨3, 2, (.cons (.ite (.or (.cons (.not (.isi (.var 0) .tuple)) (.cons (.cmp .ne (.fn .len (.r 0)) (.cint 2)) (.cons (.not (.isi (.idx (.r 0) (.cint 1)) .tuple)) .nil)))) (.cons (.ret (.cbl false)) .nil) .nil) (.cons (.ret (.and (.cons (.cmp .eq (.var 0) (.var 1)) (.cons (.fn .all (.e c__law_is_0)) .nil)))) .nil))⟩
def c_law_0 : CE := .lc (.bin .add (.idx (.e (.idx (.r 2) (.cint 1))) (.var 6)) (.idx (.e (.idx (.r 3) (.cint 1))) (.var 6))) (.nm 6) (.rng1 (.var 1)) .no [6]
def c_law_1 : CE := .lc (.bin .mul (.var 8) (.var 4)) (.nm 8) (.of (.e (.idx (.r 2) (.cint 1)))) .no [8]
def c_law_2 : CE := .lc (.bin .sub (.cint 0) (.var 8)) (.nm 8) (.of (.e (.idx (.r 2) (.cint 1)))) .no [8]
def c_law_3 : CE := .lc (.call ix__law_number (.cons (.e (.call ix__law_mixed (.cons (.e (.call ix__law_cell_at (.cons (.r 0) (.cons (.e (.cint 4)) .nil)))) (.cons (.r 6) .nil)))) .nil)) (.nm 6) (.rng1 (.var 1)) .no [6]
def c_law_4 : CE := .lc (.bin .mul (.idx (.e (.idx (.r 11) (.cint 1))) (.var 6)) (.idx (.r 10) (.var 6))) (.nm 6) (.rng1 (.var 1)) .no [6]
def b_law_0 : CSs := (.cons (.set 14 (.call ix_comes_to (.cons (.r 11) (.cons (.r 13) .nil)))) (.cons (.ite (.or (.cons (.not (.call ix__law_whole (.cons (.r 14) .nil))) (.cons (.cmp .ne (.var 14) (.var 12)) .nil))) (.cons (.ret (.cbl false)) .nil) .nil) .nil))
def f_law_0 : CS := .for_ (.nm 13) (.of (.e (.tup (.cons (.fn .lst (.r 10)) (.cons (.fn .tup (.r 10)) .nil))))) b_law_0
def c_law_5 : CE := .lc (.var 8) (.nm 8) (.of (.e (.idx (.r 11) (.cint 1)))) (.yes (.cmp .ne (.var 8) (.cint 0))) [8]
def b_law_1 : CSs := (.cons (.set 12 (.bin .add (.idx (.r 11) (.cint 0)) (.fn .sum (.e c_law_4)))) (.cons f_law_0 (.cons (.set 14 (.call ix_is_open (.cons (.r 11) .nil))) (.cons (.ite (.or (.cons (.not (.isi (.var 14) .bool)) (.cons (.cmp .ne (.var 14) (.cmp .ne c_law_5 (.lst .nil))) .nil))) (.cons (.ret (.cbl false)) .nil) .nil) .nil))))
def f_law_1 : CS := .for_ (.nm 11) (.of (.e (.tup (.cons (.var 2) (.cons (.var 3) (.cons (.var 5) (.cons (.var 7) (.cons (.var 9) .nil)))))))) b_law_1
/-- law(_law_script): 0 _law_script, 1 _law_many, 2 _law_one, 3 _law_other, 4 _law_by, 5 _law_both, 6 _law_k, 7 _law_more, 8 _law_factor, 9 _law_less, 10 _law_inputs, 11 _law_some, 12 _law_due, 13 _law_handed, 14 _law_found -/
def d_law : Def := ⟨15, 1, (.cons (.set 1 (.bin .md (.call ix__law_cell_at (.cons (.r 0) (.cons (.e (.cint 0)) .nil))) (.cint 4))) (.cons (.set 2 (.call ix__law_sum (.cons (.e (.call ix__law_cell_at (.cons (.r 0) (.cons (.e (.cint 1)) .nil)))) (.cons (.r 1) .nil)))) (.cons (.set 3 (.call ix__law_sum (.cons (.e (.call ix__law_cell_at (.cons (.r 0) (.cons (.e (.cint 2)) .nil)))) (.cons (.r 1) .nil)))) (.cons (.set 4 (.call ix__law_number (.cons (.e (.call ix__law_cell_at (.cons (.r 0) (.cons (.e (.cint 3)) .nil)))) .nil))) (.cons (.set 5 (.tup (.cons (.bin .add (.idx (.r 2) (.cint 0)) (.idx (.r 3) (.cint 0))) (.cons (.fn .tup (.e c_law_0)) .nil)))) (.cons (.set 7 (.tup (.cons (.bin .mul (.idx (.r 2) (.cint 0)) (.var 4)) (.cons (.fn .tup (.e c_law_1)) .nil)))) (.cons (.set 9 (.tup (.cons (.bin .sub (.cint 0) (.idx (.r 2) (.cint 0))) (.cons (.fn .tup (.e c_law_2)) .nil)))) (.cons (.ite (.or (.cons (.not (.call ix__law_is (.cons (.e (.call ix_added (.cons (.r 2) (.cons (.r 3) .nil)))) (.cons (.r 5) .nil)))) (.cons (.not (.call ix__law_is (.cons (.e (.call ix_scaled (.cons (.r 2) (.cons (.r 4) .nil)))) (.cons (.r 7) .nil)))) (.cons (.not (.call ix__law_is (.cons (.e (.call ix_opposite (.cons (.r 2) .nil))) (.cons (.r 9) .nil)))) .nil)))) (.cons (.ret (.cbl false)) .nil) .nil) (.cons (.set 10 c_law_3) (.cons f_law_1 (.cons (.ret (.cmp .eq (.call ix_comes_to (.cons (.e (.call ix_added (.cons (.r 2) (.cons (.r 3) .nil)))) (.cons (.r 10) .nil))) (.bin .add (.call ix_comes_to (.cons (.r 2) (.cons (.r 10) .nil))) (.call ix_comes_to (.cons (.r 3) (.cons (.r 10) .nil)))))) .nil)))))))))))⟩
abbrev tops (i : Nat) : Stmt := PySem.Challenge.pw_casewood_k01_sums.main.body.getD i (.Pass ⟨0, 0, 0, 0⟩)
abbrev s_added : Stmt := tops 1
abbrev s_scaled : Stmt := tops 2
abbrev s_opposite : Stmt := tops 3
abbrev s_comes_to : Stmt := tops 4
abbrev s_is_open : Stmt := tops 5
abbrev s__law_cell_at : Stmt := tops 7
abbrev s__law_mixed : Stmt := tops 8
abbrev s__law_whole : Stmt := tops 9
abbrev s__law_number : Stmt := tops 10
abbrev s__law_sum : Stmt := tops 11
abbrev s__law_is : Stmt := tops 12
abbrev s_law : Stmt := tops 13
def recs : List Rec := [⟨"added", s_added, ["one", "other", "a", "b"], 2, d_added⟩,
  ⟨"scaled", s_scaled, ["whole", "by", "factor"], 2, d_scaled⟩,
  ⟨"opposite", s_opposite, ["whole"], 1, d_opposite⟩,
  ⟨"comes_to", s_comes_to, ["whole", "inputs", "found", "factor", "number"], 2, d_comes_to⟩,
  ⟨"is_open", s_is_open, ["whole", "factor"], 1, d_is_open⟩,
  ⟨"_law_cell_at", s__law_cell_at, ["_law_script", "_law_k"], 2, d__law_cell_at⟩,
  ⟨"_law_mixed", s__law_mixed, ["_law_cell", "_law_k"], 2, d__law_mixed⟩,
  ⟨"_law_whole", s__law_whole, ["_law_found"], 1, d__law_whole⟩,
  ⟨"_law_number", s__law_number, ["_law_cell"], 1, d__law_number⟩,
  ⟨"_law_sum", s__law_sum, ["_law_cell", "_law_many", "_law_factors", "_law_k"], 2, d__law_sum⟩,
  ⟨"_law_is", s__law_is, ["_law_found", "_law_due", "_law_one"], 2, d__law_is⟩,
  ⟨"law", s_law, ["_law_script", "_law_many", "_law_one", "_law_other", "_law_by", "_law_both", "_law_k", "_law_more", "_law_factor", "_law_less", "_law_inputs", "_law_some", "_law_due", "_law_handed", "_law_found"], 1, d_law⟩]
abbrev DD : List Def := recs.map Rec.d
theorem at_added : DD[ix_added]? = some d_added := rfl
theorem at_scaled : DD[ix_scaled]? = some d_scaled := rfl
theorem at_opposite : DD[ix_opposite]? = some d_opposite := rfl
theorem at_comes_to : DD[ix_comes_to]? = some d_comes_to := rfl
theorem at_is_open : DD[ix_is_open]? = some d_is_open := rfl
theorem at__law_cell_at : DD[ix__law_cell_at]? = some d__law_cell_at := rfl
theorem at__law_mixed : DD[ix__law_mixed]? = some d__law_mixed := rfl
theorem at__law_whole : DD[ix__law_whole]? = some d__law_whole := rfl
theorem at__law_number : DD[ix__law_number]? = some d__law_number := rfl
theorem at__law_sum : DD[ix__law_sum]? = some d__law_sum := rfl
theorem at__law_is : DD[ix__law_is]? = some d__law_is := rfl
theorem at_law : DD[ix_law]? = some d_law := rfl
def tab : Tb := tbOf recs [] [] ["all", "any", "bool", "int", "isinstance", "len", "list", "range", "sum", "tuple", "zip"] []
theorem bd_added : ∀ (kV doc pm : Value) (an : Option Addr) (cdv ct : Value) (us : List Value), us.length = (List.take 2 [("one" : Str), ("other" : Str), ("a" : Str), ("b" : Str)]).length → bindArgs (PySem.W.fnOf "added" "added" (defArgs s_added) (defBody s_added) (defScope s_added) .none kV doc pm an cdv ct) ⟨us, []⟩ = pure ((List.take 2 ["one", "other", "a", "b"] : List Str).zip us) := fun _ _ _ _ _ _ us hl => match us, hl with | [_, _], _ => rfl
theorem bd_scaled : ∀ (kV doc pm : Value) (an : Option Addr) (cdv ct : Value) (us : List Value), us.length = (List.take 2 [("whole" : Str), ("by" : Str), ("factor" : Str)]).length → bindArgs (PySem.W.fnOf "scaled" "scaled" (defArgs s_scaled) (defBody s_scaled) (defScope s_scaled) .none kV doc pm an cdv ct) ⟨us, []⟩ = pure ((List.take 2 ["whole", "by", "factor"] : List Str).zip us) := fun _ _ _ _ _ _ us hl => match us, hl with | [_, _], _ => rfl
theorem bd_opposite : ∀ (kV doc pm : Value) (an : Option Addr) (cdv ct : Value) (us : List Value), us.length = (List.take 1 [("whole" : Str)]).length → bindArgs (PySem.W.fnOf "opposite" "opposite" (defArgs s_opposite) (defBody s_opposite) (defScope s_opposite) .none kV doc pm an cdv ct) ⟨us, []⟩ = pure ((List.take 1 ["whole"] : List Str).zip us) := fun _ _ _ _ _ _ us hl => match us, hl with | [_], _ => rfl
theorem bd_comes_to : ∀ (kV doc pm : Value) (an : Option Addr) (cdv ct : Value) (us : List Value), us.length = (List.take 2 [("whole" : Str), ("inputs" : Str), ("found" : Str), ("factor" : Str), ("number" : Str)]).length → bindArgs (PySem.W.fnOf "comes_to" "comes_to" (defArgs s_comes_to) (defBody s_comes_to) (defScope s_comes_to) .none kV doc pm an cdv ct) ⟨us, []⟩ = pure ((List.take 2 ["whole", "inputs", "found", "factor", "number"] : List Str).zip us) := fun _ _ _ _ _ _ us hl => match us, hl with | [_, _], _ => rfl
theorem bd_is_open : ∀ (kV doc pm : Value) (an : Option Addr) (cdv ct : Value) (us : List Value), us.length = (List.take 1 [("whole" : Str), ("factor" : Str)]).length → bindArgs (PySem.W.fnOf "is_open" "is_open" (defArgs s_is_open) (defBody s_is_open) (defScope s_is_open) .none kV doc pm an cdv ct) ⟨us, []⟩ = pure ((List.take 1 ["whole", "factor"] : List Str).zip us) := fun _ _ _ _ _ _ us hl => match us, hl with | [_], _ => rfl
theorem bd__law_cell_at : ∀ (kV doc pm : Value) (an : Option Addr) (cdv ct : Value) (us : List Value), us.length = (List.take 2 [("_law_script" : Str), ("_law_k" : Str)]).length → bindArgs (PySem.W.fnOf "_law_cell_at" "_law_cell_at" (defArgs s__law_cell_at) (defBody s__law_cell_at) (defScope s__law_cell_at) .none kV doc pm an cdv ct) ⟨us, []⟩ = pure ((List.take 2 ["_law_script", "_law_k"] : List Str).zip us) := fun _ _ _ _ _ _ us hl => match us, hl with | [_, _], _ => rfl
theorem bd__law_mixed : ∀ (kV doc pm : Value) (an : Option Addr) (cdv ct : Value) (us : List Value), us.length = (List.take 2 [("_law_cell" : Str), ("_law_k" : Str)]).length → bindArgs (PySem.W.fnOf "_law_mixed" "_law_mixed" (defArgs s__law_mixed) (defBody s__law_mixed) (defScope s__law_mixed) .none kV doc pm an cdv ct) ⟨us, []⟩ = pure ((List.take 2 ["_law_cell", "_law_k"] : List Str).zip us) := fun _ _ _ _ _ _ us hl => match us, hl with | [_, _], _ => rfl
theorem bd__law_whole : ∀ (kV doc pm : Value) (an : Option Addr) (cdv ct : Value) (us : List Value), us.length = (List.take 1 [("_law_found" : Str)]).length → bindArgs (PySem.W.fnOf "_law_whole" "_law_whole" (defArgs s__law_whole) (defBody s__law_whole) (defScope s__law_whole) .none kV doc pm an cdv ct) ⟨us, []⟩ = pure ((List.take 1 ["_law_found"] : List Str).zip us) := fun _ _ _ _ _ _ us hl => match us, hl with | [_], _ => rfl
theorem bd__law_number : ∀ (kV doc pm : Value) (an : Option Addr) (cdv ct : Value) (us : List Value), us.length = (List.take 1 [("_law_cell" : Str)]).length → bindArgs (PySem.W.fnOf "_law_number" "_law_number" (defArgs s__law_number) (defBody s__law_number) (defScope s__law_number) .none kV doc pm an cdv ct) ⟨us, []⟩ = pure ((List.take 1 ["_law_cell"] : List Str).zip us) := fun _ _ _ _ _ _ us hl => match us, hl with | [_], _ => rfl
theorem bd__law_sum : ∀ (kV doc pm : Value) (an : Option Addr) (cdv ct : Value) (us : List Value), us.length = (List.take 2 [("_law_cell" : Str), ("_law_many" : Str), ("_law_factors" : Str), ("_law_k" : Str)]).length → bindArgs (PySem.W.fnOf "_law_sum" "_law_sum" (defArgs s__law_sum) (defBody s__law_sum) (defScope s__law_sum) .none kV doc pm an cdv ct) ⟨us, []⟩ = pure ((List.take 2 ["_law_cell", "_law_many", "_law_factors", "_law_k"] : List Str).zip us) := fun _ _ _ _ _ _ us hl => match us, hl with | [_, _], _ => rfl
theorem bd__law_is : ∀ (kV doc pm : Value) (an : Option Addr) (cdv ct : Value) (us : List Value), us.length = (List.take 2 [("_law_found" : Str), ("_law_due" : Str), ("_law_one" : Str)]).length → bindArgs (PySem.W.fnOf "_law_is" "_law_is" (defArgs s__law_is) (defBody s__law_is) (defScope s__law_is) .none kV doc pm an cdv ct) ⟨us, []⟩ = pure ((List.take 2 ["_law_found", "_law_due", "_law_one"] : List Str).zip us) := fun _ _ _ _ _ _ us hl => match us, hl with | [_, _], _ => rfl
theorem bd_law : ∀ (kV doc pm : Value) (an : Option Addr) (cdv ct : Value) (us : List Value), us.length = (List.take 1 [("_law_script" : Str), ("_law_many" : Str), ("_law_one" : Str), ("_law_other" : Str), ("_law_by" : Str), ("_law_both" : Str), ("_law_k" : Str), ("_law_more" : Str), ("_law_factor" : Str), ("_law_less" : Str), ("_law_inputs" : Str), ("_law_some" : Str), ("_law_due" : Str), ("_law_handed" : Str), ("_law_found" : Str)]).length → bindArgs (PySem.W.fnOf "law" "law" (defArgs s_law) (defBody s_law) (defScope s_law) .none kV doc pm an cdv ct) ⟨us, []⟩ = pure ((List.take 1 ["_law_script", "_law_many", "_law_one", "_law_other", "_law_by", "_law_both", "_law_k", "_law_more", "_law_factor", "_law_less", "_law_inputs", "_law_some", "_law_due", "_law_handed", "_law_found"] : List Str).zip us) := fun _ _ _ _ _ _ us hl => match us, hl with | [_], _ => rfl
theorem chk : recs.all (recB tab) = true := by decide +kernel
end K01
namespace K01
open PySem Cw
/-! ### the program's sums -/
def sumD (a : Int) (as : List Int) : D := .tup [.int a, .tup (as.map .int)]
theorem l_added {g : Den} {a b : Int} {as bs : List Int} {x y : Option W} {st : Store} (h : as.length ≤ LIM) : evE g c_added_0 [some (.d (sumD a as)), some (.d (sumD b bs)), x, y] st = some (.val (.lst ((List.zipWith (· + ·) as bs).map .int)), st) := by
  unfold c_added_0
  refine lc_of (ds := (as.zip bs).map fun p => .tup [.int p.1, .int p.2]) (s := st) ?_ ?_ ?_
  · simp only [exSs, exS, evE, evEs, evA, evAs, evI, evC, evO, evAnd, evOr, r_val, r_exc, r_ret, r_lift, r_asB, r_asI, r_then, r_thenx, r_next, r_seq, r_seqr, r_seqx, r_now, r_frz, r_frzx, r_take, r_leave, r_leaven, r_leavex, s_zero, s_succ, a_zero, a_zeror, a_succ, e_set0, e_sets, d_idxT, d_idxL, at_0, at_1, at_2, at_3, op_add, op_sub, op_mul, op_md, op_fd, op_pw, d_add, d_sub, d_lt, d_le, d_gt, d_ge, d_eqi, d_nei, b_sum, b_any, b_all, b_tupL, b_tupT, b_lstL, b_lstT, b_int, b_lenL, b_lenT, b_lenS, Option.bind_some, Option.map_some, if_true, if_false, ite_true, ite_false, sumD, seqW, zip_maps]
  · rw [List.length_map, List.length_zip]; omega
  · rw [foldC_map (r := fun p => .int (p.1 + p.2))]
    · rw [← List.map_uncurry_zip_eq_zipWith, List.map_map]; rfl
    · intro p hp
      refine t_no (env' := [some (.d (sumD a as)), some (.d (sumD b bs)), some (.d (.int p.1)), some (.d (.int p.2))]) rfl ?_
      simp only [exSs, exS, evE, evEs, evA, evAs, evI, evC, evO, evAnd, evOr, r_val, r_exc, r_ret, r_lift, r_asB, r_asI, r_then, r_thenx, r_next, r_seq, r_seqr, r_seqx, r_now, r_frz, r_frzx, r_take, r_leave, r_leaven, r_leavex, s_zero, s_succ, a_zero, a_zeror, a_succ, e_set0, e_sets, d_idxT, d_idxL, at_0, at_1, at_2, at_3, op_add, op_sub, op_mul, op_md, op_fd, op_pw, d_add, d_sub, d_lt, d_le, d_gt, d_ge, d_eqi, d_nei, b_sum, b_any, b_all, b_tupL, b_tupT, b_lstL, b_lstT, b_int, b_lenL, b_lenT, b_lenS, Option.bind_some, Option.map_some, if_true, if_false, ite_true, ite_false]
theorem e_added {n : Nat} {a b : Int} {as bs : List Int} {st : Store} (h : as.length ≤ LIM) :
    den DD (n + 1) ix_added [.d (sumD a as), .d (sumD b bs)] st = some (.val (.d (sumD (a + b) (List.zipWith (· + ·) as bs))), st) := by
  rw [den_run at_added]
  simp only [runD, startE, List.map_cons, List.map_nil, List.length_cons, List.length_nil, List.replicate, List.cons_append, List.nil_append, Nat.reduceAdd, Nat.reduceSub, Nat.zero_add, if_true, d_added, exSs, exS, evE, evEs, evA, evAs, evI, evC, evO, evAnd, evOr, r_val, r_exc, r_ret, r_lift, r_asB, r_asI, r_then, r_thenx, r_next, r_seq, r_seqr, r_seqx, r_now, r_frz, r_frzx, r_take, r_leave, r_leaven, r_leavex, s_zero, s_succ, a_zero, a_zeror, a_succ, e_set0, e_sets, d_idxT, d_idxL, at_0, at_1, at_2, at_3, op_add, op_sub, op_mul, op_md, op_fd, op_pw, d_add, d_sub, d_lt, d_le, d_gt, d_ge, d_eqi, d_nei, b_sum, b_any, b_all, b_tupL, b_tupT, b_lstL, b_lstT, b_int, b_lenL, b_lenT, b_lenS, Option.bind_some, Option.map_some, if_true, if_false, ite_true, ite_false, l_added h]
  simp only [sumD, exSs, exS, evE, evEs, evA, evAs, evI, evC, evO, evAnd, evOr, r_val, r_exc, r_ret, r_lift, r_asB, r_asI, r_then, r_thenx, r_next, r_seq, r_seqr, r_seqx, r_now, r_frz, r_frzx, r_take, r_leave, r_leaven, r_leavex, s_zero, s_succ, a_zero, a_zeror, a_succ, e_set0, e_sets, d_idxT, d_idxL, at_0, at_1, at_2, at_3, op_add, op_sub, op_mul, op_md, op_fd, op_pw, d_add, d_sub, d_lt, d_le, d_gt, d_ge, d_eqi, d_nei, b_sum, b_any, b_all, b_tupL, b_tupT, b_lstL, b_lstT, b_int, b_lenL, b_lenT, b_lenS, Option.bind_some, Option.map_some, if_true, if_false, ite_true, ite_false]
/-- whole numbers whose products stand -/
def Fit (i : Int) : Prop := i.natAbs < 2 ^ 1000
theorem fit_mul {i j : Int} (h : Fit i) (h' : Fit j) : mulOk i j = true := mulOk_b (bits_lt h (by decide)) (bits_lt h' (by decide))
theorem l_scaled {g : Den} {a b : Int} {as : List Int} {x : Option W} {st : Store} (h : as.length ≤ LIM) (hf : ∀ i ∈ as, Fit i) (hb : Fit b) : evE g c_scaled_0 [some (.d (sumD a as)), some (.d (.int b)), x] st = some (.val (.lst ((as.map (· * b)).map .int)), st) := by
  unfold c_scaled_0
  refine lc_of (ds := as.map .int) (s := st) ?_ ?_ ?_
  · simp only [exSs, exS, evE, evEs, evA, evAs, evI, evC, evO, evAnd, evOr, r_val, r_exc, r_ret, r_lift, r_asB, r_asI, r_then, r_thenx, r_next, r_seq, r_seqr, r_seqx, r_now, r_frz, r_frzx, r_take, r_leave, r_leaven, r_leavex, s_zero, s_succ, a_zero, a_zeror, a_succ, e_set0, e_sets, d_idxT, d_idxL, at_0, at_1, at_2, at_3, op_add, op_sub, op_mul, op_md, op_fd, op_pw, d_add, d_sub, d_lt, d_le, d_gt, d_ge, d_eqi, d_nei, b_sum, b_any, b_all, b_tupL, b_tupT, b_lstL, b_lstT, b_int, b_lenL, b_lenT, b_lenS, Option.bind_some, Option.map_some, if_true, if_false, ite_true, ite_false, sumD, srcW, seqW]
  · rw [List.length_map]; exact h
  · rw [foldC_map (r := fun i => .int (i * b)), List.map_map]
    · rfl
    · intro i hi
      refine t_no (env' := [some (.d (sumD a as)), some (.d (.int b)), some (.d (.int i))]) rfl ?_
      simp only [exSs, exS, evE, evEs, evA, evAs, evI, evC, evO, evAnd, evOr, r_val, r_exc, r_ret, r_lift, r_asB, r_asI, r_then, r_thenx, r_next, r_seq, r_seqr, r_seqx, r_now, r_frz, r_frzx, r_take, r_leave, r_leaven, r_leavex, s_zero, s_succ, a_zero, a_zeror, a_succ, e_set0, e_sets, d_idxT, d_idxL, at_0, at_1, at_2, at_3, op_add, op_sub, op_mul, op_md, op_fd, op_pw, d_add, d_sub, d_lt, d_le, d_gt, d_ge, d_eqi, d_nei, b_sum, b_any, b_all, b_tupL, b_tupT, b_lstL, b_lstT, b_int, b_lenL, b_lenT, b_lenS, Option.bind_some, Option.map_some, if_true, if_false, ite_true, ite_false, d_mul (fit_mul (hf i hi) hb)]
theorem e_scaled {n : Nat} {a b : Int} {as : List Int} {st : Store} (h : as.length ≤ LIM) (ha : Fit a) (hf : ∀ i ∈ as, Fit i) (hb : Fit b) :
    den DD (n + 1) ix_scaled [.d (sumD a as), .d (.int b)] st = some (.val (.d (sumD (a * b) (as.map (· * b)))), st) := by
  rw [den_run at_scaled]
  simp only [runD, startE, List.map_cons, List.map_nil, List.length_cons, List.length_nil, List.replicate, List.cons_append, List.nil_append, Nat.reduceAdd, Nat.reduceSub, Nat.zero_add, if_true, d_scaled, exSs, exS, evE, evEs, evA, evAs, evI, evC, evO, evAnd, evOr, r_val, r_exc, r_ret, r_lift, r_asB, r_asI, r_then, r_thenx, r_next, r_seq, r_seqr, r_seqx, r_now, r_frz, r_frzx, r_take, r_leave, r_leaven, r_leavex, s_zero, s_succ, a_zero, a_zeror, a_succ, e_set0, e_sets, d_idxT, d_idxL, at_0, at_1, at_2, at_3, op_add, op_sub, op_mul, op_md, op_fd, op_pw, d_add, d_sub, d_lt, d_le, d_gt, d_ge, d_eqi, d_nei, b_sum, b_any, b_all, b_tupL, b_tupT, b_lstL, b_lstT, b_int, b_lenL, b_lenT, b_lenS, Option.bind_some, Option.map_some, if_true, if_false, ite_true, ite_false, l_scaled h hf hb]
  simp only [sumD, exSs, exS, evE, evEs, evA, evAs, evI, evC, evO, evAnd, evOr, r_val, r_exc, r_ret, r_lift, r_asB, r_asI, r_then, r_thenx, r_next, r_seq, r_seqr, r_seqx, r_now, r_frz, r_frzx, r_take, r_leave, r_leaven, r_leavex, s_zero, s_succ, a_zero, a_zeror, a_succ, e_set0, e_sets, d_idxT, d_idxL, at_0, at_1, at_2, at_3, op_add, op_sub, op_mul, op_md, op_fd, op_pw, d_add, d_sub, d_lt, d_le, d_gt, d_ge, d_eqi, d_nei, b_sum, b_any, b_all, b_tupL, b_tupT, b_lstL, b_lstT, b_int, b_lenL, b_lenT, b_lenS, Option.bind_some, Option.map_some, if_true, if_false, ite_true, ite_false, d_mul (fit_mul ha hb)]
theorem e_opposite {n : Nat} {a : Int} {as : List Int} {st : Store} (h : as.length ≤ LIM) (ha : Fit a) (hf : ∀ i ∈ as, Fit i) :
    den DD (n + 2) ix_opposite [.d (sumD a as)] st = some (.val (.d (sumD (a * -1) (as.map (· * -1)))), st) := by
  rw [den_run at_opposite]
  simp only [runD, startE, List.map_cons, List.map_nil, List.length_cons, List.length_nil, List.replicate, List.cons_append, List.nil_append, Nat.reduceAdd, Nat.reduceSub, Nat.zero_add, if_true, d_opposite, exSs, exS, evE, evEs, evA, evAs, evI, evC, evO, evAnd, evOr, r_val, r_exc, r_ret, r_lift, r_asB, r_asI, r_then, r_thenx, r_next, r_seq, r_seqr, r_seqx, r_now, r_frz, r_frzx, r_take, r_leave, r_leaven, r_leavex, s_zero, s_succ, a_zero, a_zeror, a_succ, e_set0, e_sets, d_idxT, d_idxL, at_0, at_1, at_2, at_3, op_add, op_sub, op_mul, op_md, op_fd, op_pw, d_add, d_sub, d_lt, d_le, d_gt, d_ge, d_eqi, d_nei, b_sum, b_any, b_all, b_tupL, b_tupT, b_lstL, b_lstT, b_int, b_lenL, b_lenT, b_lenS, Option.bind_some, Option.map_some, if_true, if_false, ite_true, ite_false, e_scaled h ha hf (b := -1) (by unfold Fit; decide)]
/-- a sum by numbers -/
def byN (a : Int) : List (Int × Int) → Int
  | [] => a
  | p :: ps => byN (a + p.1 * p.2) ps
theorem byN_sum (a : Int) (ps : List (Int × Int)) : byN a ps = a + (ps.map fun p => p.1 * p.2).sum := by
  induction ps generalizing a with
  | nil => simp [byN]
  | cons p ps ih =>
    rw [byN, ih, List.map_cons, List.sum_cons]
    omega
theorem l_comes {g : Den} {w i : D} {st : Store} : ∀ (ps : List (Int × Int)) (a : Int) (x y : Option W), (∀ p ∈ ps, Fit p.1 ∧ Fit p.2) → ∃ x' y', foldF (.tp [3, 4]) (exSs g b_comes_to_0) (ps.map fun p => .tup [.int p.1, .int p.2]) [some (.d w), some (.d i), some (.d (.int a)), x, y] st = some (.next, [some (.d w), some (.d i), some (.d (.int (byN a ps))), x', y'], st)
  | [], a, x, y, _ => ⟨x, y, rfl⟩
  | p :: ps, a, x, y, h => by
    obtain ⟨x', y', e⟩ := l_comes (g := g) (w := w) (i := i) (st := st) ps (a + p.1 * p.2) (some (.d (.int p.1))) (some (.d (.int p.2))) fun q hq => h q (List.mem_cons_of_mem _ hq)
    have hp := h p List.mem_cons_self
    refine ⟨x', y', ?_⟩
    rw [List.map_cons, foldF]
    simp only [bindT, wipeE, List.foldl, List.zip_cons_cons, List.zip_nil_left, List.length_cons, List.length_nil, exSs, exS, evE, evEs, evA, evAs, evI, evC, evO, evAnd, evOr, r_val, r_exc, r_ret, r_lift, r_asB, r_asI, r_then, r_thenx, r_next, r_seq, r_seqr, r_seqx, r_now, r_frz, r_frzx, r_take, r_leave, r_leaven, r_leavex, s_zero, s_succ, a_zero, a_zeror, a_succ, e_set0, e_sets, d_idxT, d_idxL, at_0, at_1, at_2, at_3, op_add, op_sub, op_mul, op_md, op_fd, op_pw, d_add, d_sub, d_lt, d_le, d_gt, d_ge, d_eqi, d_nei, b_sum, b_any, b_all, b_tupL, b_tupT, b_lstL, b_lstT, b_int, b_lenL, b_lenT, b_lenS, Option.bind_some, Option.map_some, if_true, if_false, ite_true, ite_false, b_comes_to_0, d_mul (fit_mul hp.1 hp.2)]
    exact e
theorem seq_ints {xs : List Int} {b : Bool} : seqW (.d (if b = true then .tup (xs.map .int) else .lst (xs.map .int))) = some (stat (xs.map .int)) := by cases b <;> rfl
theorem e_comes {n : Nat} {a : Int} {as xs : List Int} {b : Bool} {st : Store} (h : as.length ≤ LIM) (hf : ∀ i ∈ as, Fit i) (hx : ∀ i ∈ xs, Fit i) :
    den DD (n + 1) ix_comes_to [.d (sumD a as), .d (if b = true then .tup (xs.map .int) else .lst (xs.map .int))] st = some (.val (.d (.int (byN a (as.zip xs)))), st) := by
  obtain ⟨x', y', e⟩ := l_comes (g := den DD n) (w := sumD a as) (i := if b = true then .tup (xs.map .int) else .lst (xs.map .int)) (st := st) (as.zip xs) a none none fun p hp => ⟨hf _ (List.of_mem_zip hp).1, hx _ (List.of_mem_zip hp).2⟩
  have e2 := for_is (g := den DD n) (src := .zip (.e (.idx (.r 0) (.cint 1))) (.r 1)) (st := st) e (by
    simp only [exSs, exS, evE, evEs, evA, evAs, evI, evC, evO, evAnd, evOr, r_val, r_exc, r_ret, r_lift, r_asB, r_asI, r_then, r_thenx, r_next, r_seq, r_seqr, r_seqx, r_now, r_frz, r_frzx, r_take, r_leave, r_leaven, r_leavex, s_zero, s_succ, a_zero, a_zeror, a_succ, e_set0, e_sets, d_idxT, d_idxL, at_0, at_1, at_2, at_3, op_add, op_sub, op_mul, op_md, op_fd, op_pw, d_add, d_sub, d_lt, d_le, d_gt, d_ge, d_eqi, d_nei, b_sum, b_any, b_all, b_tupL, b_tupT, b_lstL, b_lstT, b_int, b_lenL, b_lenT, b_lenS, Option.bind_some, Option.map_some, if_true, if_false, ite_true, ite_false, seq_ints]
    simp only [sumD, exSs, exS, evE, evEs, evA, evAs, evI, evC, evO, evAnd, evOr, r_val, r_exc, r_ret, r_lift, r_asB, r_asI, r_then, r_thenx, r_next, r_seq, r_seqr, r_seqx, r_now, r_frz, r_frzx, r_take, r_leave, r_leaven, r_leavex, s_zero, s_succ, a_zero, a_zeror, a_succ, e_set0, e_sets, d_idxT, d_idxL, at_0, at_1, at_2, at_3, op_add, op_sub, op_mul, op_md, op_fd, op_pw, d_add, d_sub, d_lt, d_le, d_gt, d_ge, d_eqi, d_nei, b_sum, b_any, b_all, b_tupL, b_tupT, b_lstL, b_lstT, b_int, b_lenL, b_lenT, b_lenS, Option.bind_some, Option.map_some, if_true, if_false, ite_true, ite_false, seqW, zip_maps]) (by rw [List.length_map, List.length_zip]; omega)
  rw [den_run at_comes_to]
  simp only [runD, startE, List.map_cons, List.map_nil, List.length_cons, List.length_nil, List.replicate, List.cons_append, List.nil_append, Nat.reduceAdd, Nat.reduceSub, Nat.zero_add, if_true, d_comes_to, exSs, exS, evE, evEs, evA, evAs, evI, evC, evO, evAnd, evOr, r_val, r_exc, r_ret, r_lift, r_asB, r_asI, r_then, r_thenx, r_next, r_seq, r_seqr, r_seqx, r_now, r_frz, r_frzx, r_take, r_leave, r_leaven, r_leavex, s_zero, s_succ, a_zero, a_zeror, a_succ, e_set0, e_sets, d_idxT, d_idxL, at_0, at_1, at_2, at_3, op_add, op_sub, op_mul, op_md, op_fd, op_pw, d_add, d_sub, d_lt, d_le, d_gt, d_ge, d_eqi, d_nei, b_sum, b_any, b_all, b_tupL, b_tupT, b_lstL, b_lstT, b_int, b_lenL, b_lenT, b_lenS, Option.bind_some, Option.map_some, if_true, if_false, ite_true, ite_false]
  simp only [sumD, exSs, exS, evE, evEs, evA, evAs, evI, evC, evO, evAnd, evOr, r_val, r_exc, r_ret, r_lift, r_asB, r_asI, r_then, r_thenx, r_next, r_seq, r_seqr, r_seqx, r_now, r_frz, r_frzx, r_take, r_leave, r_leaven, r_leavex, s_zero, s_succ, a_zero, a_zeror, a_succ, e_set0, e_sets, d_idxT, d_idxL, at_0, at_1, at_2, at_3, op_add, op_sub, op_mul, op_md, op_fd, op_pw, d_add, d_sub, d_lt, d_le, d_gt, d_ge, d_eqi, d_nei, b_sum, b_any, b_all, b_tupL, b_tupT, b_lstL, b_lstT, b_int, b_lenL, b_lenT, b_lenS, Option.bind_some, Option.map_some, if_true, if_false, ite_true, ite_false]
  have e3 : (D.tup [.int a, .tup (as.map .int)]) = sumD a as := rfl
  simp only [e3]
  simp only [f_comes_to_0, e2, exSs, exS, evE, evEs, evA, evAs, evI, evC, evO, evAnd, evOr, r_val, r_exc, r_ret, r_lift, r_asB, r_asI, r_then, r_thenx, r_next, r_seq, r_seqr, r_seqx, r_now, r_frz, r_frzx, r_take, r_leave, r_leaven, r_leavex, s_zero, s_succ, a_zero, a_zeror, a_succ, e_set0, e_sets, d_idxT, d_idxL, at_0, at_1, at_2, at_3, op_add, op_sub, op_mul, op_md, op_fd, op_pw, d_add, d_sub, d_lt, d_le, d_gt, d_ge, d_eqi, d_nei, b_sum, b_any, b_all, b_tupL, b_tupT, b_lstL, b_lstT, b_int, b_lenL, b_lenT, b_lenS, Option.bind_some, Option.map_some, if_true, if_false, ite_true, ite_false]
theorem l_open {g : Den} {a : Int} {as : List Int} {x : Option W} {st : Store} (h : as.length ≤ LIM) : evE g c_is_open_0 [some (.d (sumD a as)), x] st = some (.val (.lst ((as.map fun i => !decide (i = 0)).map .bl)), st) := by
  unfold c_is_open_0
  refine lc_of (ds := as.map .int) (s := st) ?_ ?_ ?_
  · simp only [exSs, exS, evE, evEs, evA, evAs, evI, evC, evO, evAnd, evOr, r_val, r_exc, r_ret, r_lift, r_asB, r_asI, r_then, r_thenx, r_next, r_seq, r_seqr, r_seqx, r_now, r_frz, r_frzx, r_take, r_leave, r_leaven, r_leavex, s_zero, s_succ, a_zero, a_zeror, a_succ, e_set0, e_sets, d_idxT, d_idxL, at_0, at_1, at_2, at_3, op_add, op_sub, op_mul, op_md, op_fd, op_pw, d_add, d_sub, d_lt, d_le, d_gt, d_ge, d_eqi, d_nei, b_sum, b_any, b_all, b_tupL, b_tupT, b_lstL, b_lstT, b_int, b_lenL, b_lenT, b_lenS, Option.bind_some, Option.map_some, if_true, if_false, ite_true, ite_false, sumD, srcW, seqW]
  · rw [List.length_map]; exact h
  · rw [foldC_map (r := fun i => .bl (!decide (i = 0))), List.map_map]
    · rfl
    · intro i hi
      refine t_no (env' := [some (.d (sumD a as)), some (.d (.int i))]) rfl ?_
      simp only [exSs, exS, evE, evEs, evA, evAs, evI, evC, evO, evAnd, evOr, r_val, r_exc, r_ret, r_lift, r_asB, r_asI, r_then, r_thenx, r_next, r_seq, r_seqr, r_seqx, r_now, r_frz, r_frzx, r_take, r_leave, r_leaven, r_leavex, s_zero, s_succ, a_zero, a_zeror, a_succ, e_set0, e_sets, d_idxT, d_idxL, at_0, at_1, at_2, at_3, op_add, op_sub, op_mul, op_md, op_fd, op_pw, d_add, d_sub, d_lt, d_le, d_gt, d_ge, d_eqi, d_nei, b_sum, b_any, b_all, b_tupL, b_tupT, b_lstL, b_lstT, b_int, b_lenL, b_lenT, b_lenS, Option.bind_some, Option.map_some, if_true, if_false, ite_true, ite_false]
theorem e_open {n : Nat} {a : Int} {as : List Int} {st : Store} (h : as.length ≤ LIM) :
    den DD (n + 1) ix_is_open [.d (sumD a as)] st = some (.val (.d (.bl (as.any fun i => !decide (i = 0)))), st) := by
  rw [den_run at_is_open]
  simp only [runD, startE, List.map_cons, List.map_nil, List.length_cons, List.length_nil, List.replicate, List.cons_append, List.nil_append, Nat.reduceAdd, Nat.reduceSub, Nat.zero_add, if_true, d_is_open, exSs, exS, evE, evEs, evA, evAs, evI, evC, evO, evAnd, evOr, r_val, r_exc, r_ret, r_lift, r_asB, r_asI, r_then, r_thenx, r_next, r_seq, r_seqr, r_seqx, r_now, r_frz, r_frzx, r_take, r_leave, r_leaven, r_leavex, s_zero, s_succ, a_zero, a_zeror, a_succ, e_set0, e_sets, d_idxT, d_idxL, at_0, at_1, at_2, at_3, op_add, op_sub, op_mul, op_md, op_fd, op_pw, d_add, d_sub, d_lt, d_le, d_gt, d_ge, d_eqi, d_nei, b_sum, b_any, b_all, b_tupL, b_tupT, b_lstL, b_lstT, b_int, b_lenL, b_lenT, b_lenS, Option.bind_some, Option.map_some, if_true, if_false, ite_true, ite_false, l_open h]
  rw [List.any_map]
  rfl
/-! ### the law's own -/
def cellAt (ns : List Int) (k : Nat) : Int := match ns[k]? with
  | some i => i + i % 251 * 381840
  | none => 0
theorem e_cell {n : Nat} {ns : List Int} {k : Nat} {st : Store} : den DD (n + 1) ix__law_cell_at [.d (.scr ns), .d (.int (k : Int))] st = some (.val (.d (.int (cellAt ns k))), st) := by
  rw [den_run at__law_cell_at]
  unfold cellAt
  by_cases hk : k < ns.length
  · have h1 : decide ((k : Int) < (ns.length : Nat)) = true := decide_eq_true (by omega)
    have h2 : ns[k]? = some ns[k] := List.getElem?_eq_getElem hk
    have h3 : idxD (.scr ns) (.int (k : Int)) = some (.int ns[k]) := by
      show (L2.atI ns (k : Int)).map D.int = _
      rw [at_nat, h2]; rfl
    simp only [runD, startE, List.map_cons, List.map_nil, List.length_cons, List.length_nil, List.replicate, List.cons_append, List.nil_append, Nat.reduceAdd, Nat.reduceSub, Nat.zero_add, if_true, d__law_cell_at, exSs, exS, evE, evEs, evA, evAs, evI, evC, evO, evAnd, evOr, r_val, r_exc, r_ret, r_lift, r_asB, r_asI, r_then, r_thenx, r_next, r_seq, r_seqr, r_seqx, r_now, r_frz, r_frzx, r_take, r_leave, r_leaven, r_leavex, s_zero, s_succ, a_zero, a_zeror, a_succ, e_set0, e_sets, d_idxT, d_idxL, at_0, at_1, at_2, at_3, op_add, op_sub, op_mul, op_md, op_fd, op_pw, d_add, d_sub, d_lt, d_le, d_gt, d_ge, d_eqi, d_nei, b_sum, b_any, b_all, b_tupL, b_tupT, b_lstL, b_lstT, b_int, b_lenL, b_lenT, b_lenS, Option.bind_some, Option.map_some, if_true, if_false, ite_true, ite_false, h1, h2, h3, d_md (show (0 : Int) < 251 by decide), d_mul (mulOk_r (show (381840 : Int).natAbs < 2 ^ 64 by decide))]
  · have h1 : decide ((k : Int) < (ns.length : Nat)) = false := decide_eq_false (by omega)
    have h2 : ns[k]? = none := List.getElem?_eq_none (by omega)
    simp only [runD, startE, List.map_cons, List.map_nil, List.length_cons, List.length_nil, List.replicate, List.cons_append, List.nil_append, Nat.reduceAdd, Nat.reduceSub, Nat.zero_add, if_true, d__law_cell_at, exSs, exS, evE, evEs, evA, evAs, evI, evC, evO, evAnd, evOr, r_val, r_exc, r_ret, r_lift, r_asB, r_asI, r_then, r_thenx, r_next, r_seq, r_seqr, r_seqx, r_now, r_frz, r_frzx, r_take, r_leave, r_leaven, r_leavex, s_zero, s_succ, a_zero, a_zeror, a_succ, e_set0, e_sets, d_idxT, d_idxL, at_0, at_1, at_2, at_3, op_add, op_sub, op_mul, op_md, op_fd, op_pw, d_add, d_sub, d_lt, d_le, d_gt, d_ge, d_eqi, d_nei, b_sum, b_any, b_all, b_tupL, b_tupT, b_lstL, b_lstT, b_int, b_lenL, b_lenT, b_lenS, Option.bind_some, Option.map_some, if_true, if_false, ite_true, ite_false, h1, h2, Bool.false_eq_true]
def mixed (c k : Int) : Int := (c * (48271 + 7919 * k * k + 104729 * k) + 7919 * k + 12345) % 2147483647
theorem e_mixed {n : Nat} {c k : Int} {st : Store} (h0 : 0 ≤ k) (h1 : k ≤ 1000) : den DD (n + 1) ix__law_mixed [.d (.int c), .d (.int k)] st = some (.val (.d (.int (mixed c k))), st) := by
  rw [den_run at__law_mixed]
  have a1 : mulOk 7919 k = true := mulOk_l (by decide)
  have a2 : mulOk (7919 * k) k = true := mulOk_r (by omega)
  have a3 : mulOk 104729 k = true := mulOk_l (by decide)
  have a5 : 7919 * k * k ≤ 7919 * 1000 * 1000 := by
    have q1 : 7919 * k * k ≤ 7919 * k * 1000 := Int.mul_le_mul_of_nonneg_left h1 (by omega)
    omega
  have a6 : 0 ≤ 7919 * k * k := Int.mul_nonneg (by omega) h0
  have a4 : mulOk c (48271 + 7919 * k * k + 104729 * k) = true := mulOk_r (by omega)
  simp only [runD, startE, List.map_cons, List.map_nil, List.length_cons, List.length_nil, List.replicate, List.cons_append, List.nil_append, Nat.reduceAdd, Nat.reduceSub, Nat.zero_add, if_true, d__law_mixed, exSs, exS, evE, evEs, evA, evAs, evI, evC, evO, evAnd, evOr, r_val, r_exc, r_ret, r_lift, r_asB, r_asI, r_then, r_thenx, r_next, r_seq, r_seqr, r_seqx, r_now, r_frz, r_frzx, r_take, r_leave, r_leaven, r_leavex, s_zero, s_succ, a_zero, a_zeror, a_succ, e_set0, e_sets, d_idxT, d_idxL, at_0, at_1, at_2, at_3, op_add, op_sub, op_mul, op_md, op_fd, op_pw, d_add, d_sub, d_lt, d_le, d_gt, d_ge, d_eqi, d_nei, b_sum, b_any, b_all, b_tupL, b_tupT, b_lstL, b_lstT, b_int, b_lenL, b_lenT, b_lenS, Option.bind_some, Option.map_some, if_true, if_false, ite_true, ite_false, d_mul a1, d_mul a2, d_mul a3, d_mul a4, d_md (show (0 : Int) < 2147483647 by decide)]
  rfl
theorem e_whole {n : Nat} {i : Int} {st : Store} : den DD (n + 1) ix__law_whole [.d (.int i)] st = some (.val (.d (.bl true)), st) := by
  rw [den_run at__law_whole]
  simp only [runD, startE, List.map_cons, List.map_nil, List.length_cons, List.length_nil, List.replicate, List.cons_append, List.nil_append, Nat.reduceAdd, Nat.reduceSub, Nat.zero_add, if_true, d__law_whole, exSs, exS, evE, evEs, evA, evAs, evI, evC, evO, evAnd, evOr, r_val, r_exc, r_ret, r_lift, r_asB, r_asI, r_then, r_thenx, r_next, r_seq, r_seqr, r_seqx, r_now, r_frz, r_frzx, r_take, r_leave, r_leaven, r_leavex, s_zero, s_succ, a_zero, a_zeror, a_succ, e_set0, e_sets, d_idxT, d_idxL, at_0, at_1, at_2, at_3, op_add, op_sub, op_mul, op_md, op_fd, op_pw, d_add, d_sub, d_lt, d_le, d_gt, d_ge, d_eqi, d_nei, b_sum, b_any, b_all, b_tupL, b_tupT, b_lstL, b_lstT, b_int, b_lenL, b_lenT, b_lenS, Option.bind_some, Option.map_some, if_true, if_false, ite_true, ite_false, isT_int, isT_bool, Bool.not_false]
def number (c : Int) : Int := ([c % 41 - 20, c % 3 - 1, 0, 10 ^ 30 - c % 5, c % 7 - 10 ^ 30] : List Int).getD (c / 41 % 5).toNat 0
theorem e_number {n : Nat} {c : Int} {st : Store} : den DD (n + 1) ix__law_number [.d (.int c)] st = some (.val (.d (.int (number c))), st) := by
  rw [den_run at__law_number]
  have h0 : 0 ≤ c / 41 % 5 := Int.emod_nonneg _ (by decide)
  have h1 : c / 41 % 5 < 5 := Int.emod_lt_of_pos _ (by decide)
  have e : L2.atI [D.int (c % 41 - 20), .int (c % 3 - 1), .int 0, .int (10 ^ 30 - c % 5), .int (c % 7 - 10 ^ 30)] (c / 41 % 5) = some (.int (number c)) := by
    have e1 : ([D.int (c % 41 - 20), .int (c % 3 - 1), .int 0, .int (10 ^ 30 - c % 5), .int (c % 7 - 10 ^ 30)] : List D) = ([c % 41 - 20, c % 3 - 1, 0, 10 ^ 30 - c % 5, c % 7 - 10 ^ 30] : List Int).map .int := rfl
    rw [e1, at_ok h0 (by simp; omega)]
    rw [List.getElem_map]
    unfold number
    rw [List.getD_eq_getElem?_getD, List.getElem?_eq_getElem (by simp; omega)]
    rfl
  simp only [runD, startE, List.map_cons, List.map_nil, List.length_cons, List.length_nil, List.replicate, List.cons_append, List.nil_append, Nat.reduceAdd, Nat.reduceSub, Nat.zero_add, if_true, d__law_number, exSs, exS, evE, evEs, evA, evAs, evI, evC, evO, evAnd, evOr, r_val, r_exc, r_ret, r_lift, r_asB, r_asI, r_then, r_thenx, r_next, r_seq, r_seqr, r_seqx, r_now, r_frz, r_frzx, r_take, r_leave, r_leaven, r_leavex, s_zero, s_succ, a_zero, a_zeror, a_succ, e_set0, e_sets, d_idxT, d_idxL, at_0, at_1, at_2, at_3, op_add, op_sub, op_mul, op_md, op_fd, op_pw, d_add, d_sub, d_lt, d_le, d_gt, d_ge, d_eqi, d_nei, b_sum, b_any, b_all, b_tupL, b_tupT, b_lstL, b_lstT, b_int, b_lenL, b_lenT, b_lenS, Option.bind_some, Option.map_some, if_true, if_false, ite_true, ite_false, d_md (show (0 : Int) < 41 by decide), d_md (show (0 : Int) < 3 by decide), d_md (show (0 : Int) < 5 by decide), d_md (show (0 : Int) < 7 by decide), d_fd (show (0 : Int) < 41 by decide) (by decide), pw_10 (k := 30) (by decide)]
  have pw : pwD (.int 10) (.int 30) = some (.int (10 ^ 30)) := pw_10 (k := 30) (by decide)
  simp only [pw, exSs, exS, evE, evEs, evA, evAs, evI, evC, evO, evAnd, evOr, r_val, r_exc, r_ret, r_lift, r_asB, r_asI, r_then, r_thenx, r_next, r_seq, r_seqr, r_seqx, r_now, r_frz, r_frzx, r_take, r_leave, r_leaven, r_leavex, s_zero, s_succ, a_zero, a_zeror, a_succ, e_set0, e_sets, d_idxT, d_idxL, at_0, at_1, at_2, at_3, op_add, op_sub, op_mul, op_md, op_fd, op_pw, d_add, d_sub, d_lt, d_le, d_gt, d_ge, d_eqi, d_nei, b_sum, b_any, b_all, b_tupL, b_tupT, b_lstL, b_lstT, b_int, b_lenL, b_lenT, b_lenS, Option.bind_some, Option.map_some, if_true, if_false, ite_true, ite_false, e]
theorem number_small (c : Int) : (number c).natAbs < 2 ^ 200 := by
  have h0 : 0 ≤ c / 41 % 5 := Int.emod_nonneg _ (by decide)
  have h1 : c / 41 % 5 < 5 := Int.emod_lt_of_pos _ (by decide)
  have a1 := Int.emod_nonneg c (show (41 : Int) ≠ 0 by decide)
  have a2 := Int.emod_lt_of_pos c (show (0 : Int) < 41 by decide)
  have a3 := Int.emod_nonneg c (show (3 : Int) ≠ 0 by decide)
  have a4 := Int.emod_lt_of_pos c (show (0 : Int) < 3 by decide)
  have a5 := Int.emod_nonneg c (show (5 : Int) ≠ 0 by decide)
  have a6 := Int.emod_lt_of_pos c (show (0 : Int) < 5 by decide)
  have a7 := Int.emod_nonneg c (show (7 : Int) ≠ 0 by decide)
  have a8 := Int.emod_lt_of_pos c (show (0 : Int) < 7 by decide)
  have big : (10 : Int) ^ 30 + 100 < 2 ^ 200 := by decide
  unfold number
  have hk : (c / 41 % 5).toNat < 5 := by omega
  generalize (c / 41 % 5).toNat = k at hk
  match k, hk with
  | 0, _ => simp only [List.getD_cons_zero]; omega
  | 1, _ => simp only [List.getD_cons_succ, List.getD_cons_zero]; omega
  | 2, _ => simp only [List.getD_cons_succ, List.getD_cons_zero]; decide
  | 3, _ => simp only [List.getD_cons_succ, List.getD_cons_zero]; omega
  | 4, _ => simp only [List.getD_cons_succ, List.getD_cons_zero]; omega
abbrev Sml (i : Int) : Prop := i.natAbs < 2 ^ 200
theorem sml_fit {i : Int} (h : Sml i) : Fit i := Nat.lt_of_lt_of_le h (Nat.pow_le_pow_right (by decide) (by decide))
theorem fit_of {i : Int} (h : i.natAbs < 2 ^ 500) : Fit i := Nat.lt_of_lt_of_le h (Nat.pow_le_pow_right (by decide) (by decide))
theorem p200 : (2 : Nat) ^ 200 + 2 ^ 200 < 2 ^ 500 := by decide
theorem fit_add {i j : Int} (h : Sml i) (h' : Sml j) : Fit (i + j) := fit_of (by
  have := p200
  have := Int.natAbs_add_le i j
  omega)
theorem fit_times {i j : Int} (h : Sml i) (h' : Sml j) : Fit (i * j) := fit_of (by
  rw [Int.natAbs_mul]
  have h1 : i.natAbs * j.natAbs ≤ 2 ^ 200 * 2 ^ 200 := Nat.mul_le_mul (Nat.le_of_lt h) (Nat.le_of_lt h')
  have h2 : (2 : Nat) ^ 200 * 2 ^ 200 < 2 ^ 500 := by decide
  omega)
theorem fit_neg {i : Int} (h : Sml i) : Fit (0 - i) := fit_of (by
  have := p200
  omega)
/-! a sum by the law -/
def sumC (c : Int) : Int := number (mixed (c / 3) 9)
def sumF (c : Int) (m : Nat) : List Int := if c % 3 = 1 then (List.range m).map fun (k : Nat) => 0 - (if (k : Int) = c / 3 % 4 then 1 else 0) else (List.range m).map fun (k : Nat) => number (mixed (c / 3) (k : Int))
theorem sumF_len (c : Int) (m : Nat) : (sumF c m).length = m := by
  unfold sumF
  split <;> simp
theorem sumF_small {c : Int} {m : Nat} : ∀ i ∈ sumF c m, Sml i := by
  intro i hi
  unfold sumF at hi
  split at hi
  · obtain ⟨k, _, rfl⟩ := List.mem_map.mp hi
    split <;> decide
  · obtain ⟨k, _, rfl⟩ := List.mem_map.mp hi
    exact number_small _
theorem l_sum0 {n : Nat} {c : Int} {m : Nat} {x y : Option W} {st : Store} (h : m ≤ 1000) : evE (den DD (n + 1)) c__law_sum_0 [some (.d (.int c)), some (.d (.int (m : Int))), x, y] st = some (.val (.lst (((List.range m).map fun (k : Nat) => number (mixed (c / 3) (k : Int))).map .int)), st) := by
  unfold c__law_sum_0
  refine lc_of (ds := (List.range m).map fun k => .int ((k : Nat) : Int)) (s := st) ?_ ?_ ?_
  · simp only [exSs, exS, evE, evEs, evA, evAs, evI, evC, evO, evAnd, evOr, r_val, r_exc, r_ret, r_lift, r_asB, r_asI, r_then, r_thenx, r_next, r_seq, r_seqr, r_seqx, r_now, r_frz, r_frzx, r_take, r_leave, r_leaven, r_leavex, s_zero, s_succ, a_zero, a_zeror, a_succ, e_set0, e_sets, d_idxT, d_idxL, at_0, at_1, at_2, at_3, op_add, op_sub, op_mul, op_md, op_fd, op_pw, d_add, d_sub, d_lt, d_le, d_gt, d_ge, d_eqi, d_nei, b_sum, b_any, b_all, b_tupL, b_tupT, b_lstL, b_lstT, b_int, b_lenL, b_lenT, b_lenS, Option.bind_some, Option.map_some, if_true, if_false, ite_true, ite_false, rng_nat]
  · rw [List.length_map, List.length_range]; exact small_lim h
  · rw [foldC_map (r := fun (k : Nat) => .int (number (mixed (c / 3) (k : Int)))), List.map_map]
    · rfl
    · intro k hk
      have hk := List.mem_range.mp hk
      refine t_no (env' := [some (.d (.int c)), some (.d (.int (m : Int))), x, some (.d (.int (k : Int)))]) rfl ?_
      simp only [exSs, exS, evE, evEs, evA, evAs, evI, evC, evO, evAnd, evOr, r_val, r_exc, r_ret, r_lift, r_asB, r_asI, r_then, r_thenx, r_next, r_seq, r_seqr, r_seqx, r_now, r_frz, r_frzx, r_take, r_leave, r_leaven, r_leavex, s_zero, s_succ, a_zero, a_zeror, a_succ, e_set0, e_sets, d_idxT, d_idxL, at_0, at_1, at_2, at_3, op_add, op_sub, op_mul, op_md, op_fd, op_pw, d_add, d_sub, d_lt, d_le, d_gt, d_ge, d_eqi, d_nei, b_sum, b_any, b_all, b_tupL, b_tupT, b_lstL, b_lstT, b_int, b_lenL, b_lenT, b_lenS, Option.bind_some, Option.map_some, if_true, if_false, ite_true, ite_false, d_fd (show (0 : Int) < 3 by decide) (by decide), e_mixed (show (0 : Int) ≤ (k : Int) by omega) (show (k : Int) ≤ 1000 by omega), e_number]
theorem l_sum1 {g : Den} {c : Int} {m : Nat} {x y : Option W} {st : Store} (h : m ≤ 1000) : evE g c__law_sum_1 [some (.d (.int c)), some (.d (.int (m : Int))), x, y] st = some (.val (.lst (((List.range m).map fun (k : Nat) => 0 - (if (k : Int) = c / 3 % 4 then (1 : Int) else 0)).map .int)), st) := by
  unfold c__law_sum_1
  refine lc_of (ds := (List.range m).map fun k => .int ((k : Nat) : Int)) (s := st) ?_ ?_ ?_
  · simp only [exSs, exS, evE, evEs, evA, evAs, evI, evC, evO, evAnd, evOr, r_val, r_exc, r_ret, r_lift, r_asB, r_asI, r_then, r_thenx, r_next, r_seq, r_seqr, r_seqx, r_now, r_frz, r_frzx, r_take, r_leave, r_leaven, r_leavex, s_zero, s_succ, a_zero, a_zeror, a_succ, e_set0, e_sets, d_idxT, d_idxL, at_0, at_1, at_2, at_3, op_add, op_sub, op_mul, op_md, op_fd, op_pw, d_add, d_sub, d_lt, d_le, d_gt, d_ge, d_eqi, d_nei, b_sum, b_any, b_all, b_tupL, b_tupT, b_lstL, b_lstT, b_int, b_lenL, b_lenT, b_lenS, Option.bind_some, Option.map_some, if_true, if_false, ite_true, ite_false, rng_nat]
  · rw [List.length_map, List.length_range]; exact small_lim h
  · rw [foldC_map (r := fun (k : Nat) => .int (0 - (if (k : Int) = c / 3 % 4 then (1 : Int) else 0))), List.map_map]
    · rfl
    · intro k hk
      refine t_no (env' := [some (.d (.int c)), some (.d (.int (m : Int))), x, some (.d (.int (k : Int)))]) rfl ?_
      simp only [exSs, exS, evE, evEs, evA, evAs, evI, evC, evO, evAnd, evOr, r_val, r_exc, r_ret, r_lift, r_asB, r_asI, r_then, r_thenx, r_next, r_seq, r_seqr, r_seqx, r_now, r_frz, r_frzx, r_take, r_leave, r_leaven, r_leavex, s_zero, s_succ, a_zero, a_zeror, a_succ, e_set0, e_sets, d_idxT, d_idxL, at_0, at_1, at_2, at_3, op_add, op_sub, op_mul, op_md, op_fd, op_pw, d_add, d_sub, d_lt, d_le, d_gt, d_ge, d_eqi, d_nei, b_sum, b_any, b_all, b_tupL, b_tupT, b_lstL, b_lstT, b_int, b_lenL, b_lenT, b_lenS, Option.bind_some, Option.map_some, if_true, if_false, ite_true, ite_false, d_fd (show (0 : Int) < 3 by decide) (by decide), d_md (show (0 : Int) < 4 by decide), decide_eq_true_eq]
theorem e_sum {n : Nat} {c : Int} {m : Nat} {st : Store} (h : m ≤ 1000) : den DD (n + 2) ix__law_sum [.d (.int c), .d (.int (m : Int))] st = some (.val (.d (sumD (sumC c) (sumF c m))), st) := by
  rw [den_run at__law_sum]
  have h9 : den DD (n + 1) ix__law_mixed [.d (.int (c / 3)), .d (.int 9)] st = some (.val (.d (.int (mixed (c / 3) 9))), st) := e_mixed (by decide) (by decide)
  unfold sumF
  by_cases hc : c % 3 = 1
  · simp only [runD, startE, List.map_cons, List.map_nil, List.length_cons, List.length_nil, List.replicate, List.cons_append, List.nil_append, Nat.reduceAdd, Nat.reduceSub, Nat.zero_add, if_true, d__law_sum, exSs, exS, evE, evEs, evA, evAs, evI, evC, evO, evAnd, evOr, r_val, r_exc, r_ret, r_lift, r_asB, r_asI, r_then, r_thenx, r_next, r_seq, r_seqr, r_seqx, r_now, r_frz, r_frzx, r_take, r_leave, r_leaven, r_leavex, s_zero, s_succ, a_zero, a_zeror, a_succ, e_set0, e_sets, d_idxT, d_idxL, at_0, at_1, at_2, at_3, op_add, op_sub, op_mul, op_md, op_fd, op_pw, d_add, d_sub, d_lt, d_le, d_gt, d_ge, d_eqi, d_nei, b_sum, b_any, b_all, b_tupL, b_tupT, b_lstL, b_lstT, b_int, b_lenL, b_lenT, b_lenS, Option.bind_some, Option.map_some, if_true, if_false, ite_true, ite_false, l_sum0 h, l_sum1 h, d_md (show (0 : Int) < 3 by decide), d_fd (show (0 : Int) < 3 by decide) (by decide), decide_eq_true hc, if_pos hc, h9, e_number]
    rfl
  · simp only [runD, startE, List.map_cons, List.map_nil, List.length_cons, List.length_nil, List.replicate, List.cons_append, List.nil_append, Nat.reduceAdd, Nat.reduceSub, Nat.zero_add, if_true, d__law_sum, exSs, exS, evE, evEs, evA, evAs, evI, evC, evO, evAnd, evOr, r_val, r_exc, r_ret, r_lift, r_asB, r_asI, r_then, r_thenx, r_next, r_seq, r_seqr, r_seqx, r_now, r_frz, r_frzx, r_take, r_leave, r_leaven, r_leavex, s_zero, s_succ, a_zero, a_zeror, a_succ, e_set0, e_sets, d_idxT, d_idxL, at_0, at_1, at_2, at_3, op_add, op_sub, op_mul, op_md, op_fd, op_pw, d_add, d_sub, d_lt, d_le, d_gt, d_ge, d_eqi, d_nei, b_sum, b_any, b_all, b_tupL, b_tupT, b_lstL, b_lstT, b_int, b_lenL, b_lenT, b_lenS, Option.bind_some, Option.map_some, if_true, if_false, ite_true, ite_false, l_sum0 h, l_sum1 h, d_md (show (0 : Int) < 3 by decide), d_fd (show (0 : Int) < 3 by decide) (by decide), decide_eq_false hc, if_neg hc, h9, e_number, Bool.false_eq_true]
    rfl
/-! what is told is what is due -/
theorem shp_sum {a : Int} {as : List Int} : shp (sumD a as) = true := shp_of (by simp [sumD, dok_T, doks_c, doks_n, dok_i, doks_ints]) (by simp [sumD, dsz_T, dszs_c, dszs_n, dsz_i, dszs_ints])
theorem deq_sum {a b : Int} {as bs : List Int} : deq (sumD a as) (sumD b bs) = decide (a = b ∧ as = bs) := by
  unfold sumD
  rw [deq_tup, deqs_cons, deqs_cons, deqs_nil, deq_int, deq_tup, deqs_ints, Bool.eq_iff_iff]
  simp
theorem l_is {n : Nat} {a : Int} {as : List Int} {w x : Option W} {st : Store} (h : as.length + 1 ≤ LIM) : evE (den DD (n + 1)) c__law_is_0 [some (.d (sumD a as)), w, x] st = some (.val (.lst ((as ++ [a]).map fun _ => .bl true)), st) := by
  unfold c__law_is_0
  have hadd : addD (.tup (as.map .int)) (.tup [.int a]) = some (.tup ((as ++ [a]).map .int)) := by
    show (if (as.map D.int).length + 1 ≤ LIM then some (D.tup (as.map .int ++ [.int a])) else none) = _
    rw [if_pos (by rw [List.length_map]; exact h), List.map_append]
    rfl
  refine lc_of (ds := (as ++ [a]).map .int) (s := st) ?_ ?_ ?_
  · simp only [exSs, exS, evE, evEs, evA, evAs, evI, evC, evO, evAnd, evOr, r_val, r_exc, r_ret, r_lift, r_asB, r_asI, r_then, r_thenx, r_next, r_seq, r_seqr, r_seqx, r_now, r_frz, r_frzx, r_take, r_leave, r_leaven, r_leavex, s_zero, s_succ, a_zero, a_zeror, a_succ, e_set0, e_sets, d_idxT, d_idxL, at_0, at_1, at_2, at_3, op_add, op_sub, op_mul, op_md, op_fd, op_pw, d_add, d_sub, d_lt, d_le, d_gt, d_ge, d_eqi, d_nei, b_sum, b_any, b_all, b_tupL, b_tupT, b_lstL, b_lstT, b_int, b_lenL, b_lenT, b_lenS, Option.bind_some, Option.map_some, if_true, if_false, ite_true, ite_false, sumD, hadd, srcW, seqW]
  · rw [List.length_map, List.length_append]; exact h
  · rw [foldC_map (r := fun _ => .bl true)]
    intro i hi
    refine t_no (env' := [some (.d (sumD a as)), w, some (.d (.int i))]) rfl ?_
    simp only [exSs, exS, evE, evEs, evA, evAs, evI, evC, evO, evAnd, evOr, r_val, r_exc, r_ret, r_lift, r_asB, r_asI, r_then, r_thenx, r_next, r_seq, r_seqr, r_seqx, r_now, r_frz, r_frzx, r_take, r_leave, r_leaven, r_leavex, s_zero, s_succ, a_zero, a_zeror, a_succ, e_set0, e_sets, d_idxT, d_idxL, at_0, at_1, at_2, at_3, op_add, op_sub, op_mul, op_md, op_fd, op_pw, d_add, d_sub, d_lt, d_le, d_gt, d_ge, d_eqi, d_nei, b_sum, b_any, b_all, b_tupL, b_tupT, b_lstL, b_lstT, b_int, b_lenL, b_lenT, b_lenS, Option.bind_some, Option.map_some, if_true, if_false, ite_true, ite_false, e_whole]
theorem all_true {α : Type} : ∀ (xs : List α), blsOf (xs.map fun _ => .bl true) = some (xs.map fun _ => true)
  | [] => rfl
  | x :: xs => by rw [List.map_cons, blsOf, all_true xs]; rfl
theorem e_is {n : Nat} {a b : Int} {as bs : List Int} {st : Store} (h : as.length + 1 ≤ LIM) : den DD (n + 2) ix__law_is [.d (sumD a as), .d (sumD b bs)] st = some (.val (.d (.bl (decide (a = b ∧ as = bs)))), st) := by
  rw [den_run at__law_is]
  have hlen : bfD .len (sumD a as) = some (.int 2) := rfl
  have h1 : isTy .tuple (sumD a as) = true := rfl
  have hidx : idxD (sumD a as) (.int 1) = some (.tup (as.map .int)) := by simp only [sumD, exSs, exS, evE, evEs, evA, evAs, evI, evC, evO, evAnd, evOr, r_val, r_exc, r_ret, r_lift, r_asB, r_asI, r_then, r_thenx, r_next, r_seq, r_seqr, r_seqx, r_now, r_frz, r_frzx, r_take, r_leave, r_leaven, r_leavex, s_zero, s_succ, a_zero, a_zeror, a_succ, e_set0, e_sets, d_idxT, d_idxL, at_0, at_1, at_2, at_3, op_add, op_sub, op_mul, op_md, op_fd, op_pw, d_add, d_sub, d_lt, d_le, d_gt, d_ge, d_eqi, d_nei, b_sum, b_any, b_all, b_tupL, b_tupT, b_lstL, b_lstT, b_int, b_lenL, b_lenT, b_lenS, Option.bind_some, Option.map_some, if_true, if_false, ite_true, ite_false]
  have h2 : isTy .tuple (.tup (as.map .int)) = true := rfl
  have hall : bfD .all (.lst ((as ++ [a]).map fun _ => .bl true)) = some (.bl true) := by
    show (blsOf _).map _ = _
    rw [all_true]
    simp
  simp only [runD, startE, List.map_cons, List.map_nil, List.length_cons, List.length_nil, List.replicate, List.cons_append, List.nil_append, Nat.reduceAdd, Nat.reduceSub, Nat.zero_add, if_true, d__law_is, exSs, exS, evE, evEs, evA, evAs, evI, evC, evO, evAnd, evOr, r_val, r_exc, r_ret, r_lift, r_asB, r_asI, r_then, r_thenx, r_next, r_seq, r_seqr, r_seqx, r_now, r_frz, r_frzx, r_take, r_leave, r_leaven, r_leavex, s_zero, s_succ, a_zero, a_zeror, a_succ, e_set0, e_sets, d_idxT, d_idxL, at_0, at_1, at_2, at_3, op_add, op_sub, op_mul, op_md, op_fd, op_pw, d_add, d_sub, d_lt, d_le, d_gt, d_ge, d_eqi, d_nei, b_sum, b_any, b_all, b_tupL, b_tupT, b_lstL, b_lstT, b_int, b_lenL, b_lenT, b_lenS, Option.bind_some, Option.map_some, if_true, if_false, ite_true, ite_false, h1, hlen, hidx, h2, Bool.not_true, decide_true, Bool.false_eq_true, d_eq shp_sum shp_sum, deq_sum, l_is h, hall]
  by_cases hc : a = b ∧ as = bs
  · rw [decide_eq_true hc]
    simp only [exSs, exS, evE, evEs, evA, evAs, evI, evC, evO, evAnd, evOr, r_val, r_exc, r_ret, r_lift, r_asB, r_asI, r_then, r_thenx, r_next, r_seq, r_seqr, r_seqx, r_now, r_frz, r_frzx, r_take, r_leave, r_leaven, r_leavex, s_zero, s_succ, a_zero, a_zeror, a_succ, e_set0, e_sets, d_idxT, d_idxL, at_0, at_1, at_2, at_3, op_add, op_sub, op_mul, op_md, op_fd, op_pw, d_add, d_sub, d_lt, d_le, d_gt, d_ge, d_eqi, d_nei, b_sum, b_any, b_all, b_tupL, b_tupT, b_lstL, b_lstT, b_int, b_lenL, b_lenT, b_lenS, Option.bind_some, Option.map_some, if_true, if_false, ite_true, ite_false]
  · rw [decide_eq_false hc]
    simp only [exSs, exS, evE, evEs, evA, evAs, evI, evC, evO, evAnd, evOr, r_val, r_exc, r_ret, r_lift, r_asB, r_asI, r_then, r_thenx, r_next, r_seq, r_seqr, r_seqx, r_now, r_frz, r_frzx, r_take, r_leave, r_leaven, r_leavex, s_zero, s_succ, a_zero, a_zeror, a_succ, e_set0, e_sets, d_idxT, d_idxL, at_0, at_1, at_2, at_3, op_add, op_sub, op_mul, op_md, op_fd, op_pw, d_add, d_sub, d_lt, d_le, d_gt, d_ge, d_eqi, d_nei, b_sum, b_any, b_all, b_tupL, b_tupT, b_lstL, b_lstT, b_int, b_lenL, b_lenT, b_lenS, Option.bind_some, Option.map_some, if_true, if_false, ite_true, ite_false, Bool.false_eq_true]
/-! ### the law -/
def EV (o0 o1 o2 o3 o4 o5 o6 o7 o8 o9 o10 o11 o12 o13 o14 : Option W) : Cw.Env := [o0, o1, o2, o3, o4, o5, o6, o7, o8, o9, o10, o11, o12, o13, o14]
theorem get_D {as : List Int} {k : Nat} (h : k < as.length) : (as.map D.int)[k]? = some (.int (as.getD k 0)) := by
  rw [get_map h, List.getD_eq_getElem?_getD, List.getElem?_eq_getElem h]
  rfl
theorem range_zip {f : Int → Int → Int} {as bs : List Int} {m : Nat} (h : as.length = m) (h' : bs.length = m) : ((List.range m).map fun k => f (as.getD k 0) (bs.getD k 0)) = (as.zip bs).map fun p => f p.1 p.2 := by
  apply List.ext_getElem
  · simp [h, h']
  · intro k h1 h2
    have h1 : k < m := by simpa using h1
    simp [List.getD_eq_getElem?_getD, List.getElem?_eq_getElem (show k < as.length by omega), List.getElem?_eq_getElem (show k < bs.length by omega)]
theorem l_law0 {g : Den} {a b : Int} {as bs : List Int} {m : Nat} {o0 o4 o5 o6 o7 o8 o9 o10 o11 o12 o13 o14 : Option W} {st : Store} (h : as.length = m) (h' : bs.length = m) (hm : m ≤ 1000) :
    evE g c_law_0 (EV o0 (some (.d (.int (m : Int)))) (some (.d (sumD a as))) (some (.d (sumD b bs))) o4 o5 o6 o7 o8 o9 o10 o11 o12 o13 o14) st = some (.val (.lst ((List.zipWith (· + ·) as bs).map .int)), st) := by
  unfold c_law_0
  refine lc_of (ds := (List.range m).map fun (k : Nat) => .int (k : Int)) (s := st) ?_ ?_ ?_
  · simp only [exSs, exS, evE, evEs, evA, evAs, evI, evC, evO, evAnd, evOr, r_val, r_exc, r_ret, r_lift, r_asB, r_asI, r_then, r_thenx, r_next, r_seq, r_seqr, r_seqx, r_now, r_frz, r_frzx, r_take, r_leave, r_leaven, r_leavex, s_zero, s_succ, a_zero, a_zeror, a_succ, e_set0, e_sets, d_idxT, d_idxL, at_0, at_1, at_2, at_3, op_add, op_sub, op_mul, op_md, op_fd, op_pw, d_add, d_sub, d_lt, d_le, d_gt, d_ge, d_eqi, d_nei, b_sum, b_any, b_all, b_tupL, b_tupT, b_lstL, b_lstT, b_int, b_lenL, b_lenT, b_lenS, Option.bind_some, Option.map_some, if_true, if_false, ite_true, ite_false, EV, rng_nat]
  · rw [List.length_map, List.length_range]; exact small_lim hm
  · rw [foldC_map (r := fun (k : Nat) => .int (as.getD k 0 + bs.getD k 0))]
    · rw [← List.map_uncurry_zip_eq_zipWith]
      have e := range_zip (f := (· + ·)) h h'
      have e2 := congrArg (List.map D.int) e
      rw [List.map_map] at e2
      exact congrArg (fun z => some (Rs.val z, st)) e2
    · intro k hk
      have hk := List.mem_range.mp hk
      refine t_no (env' := EV o0 (some (.d (.int (m : Int)))) (some (.d (sumD a as))) (some (.d (sumD b bs))) o4 o5 (some (.d (.int (k : Int)))) o7 o8 o9 o10 o11 o12 o13 o14) rfl ?_
      simp only [exSs, exS, evE, evEs, evA, evAs, evI, evC, evO, evAnd, evOr, r_val, r_exc, r_ret, r_lift, r_asB, r_asI, r_then, r_thenx, r_next, r_seq, r_seqr, r_seqx, r_now, r_frz, r_frzx, r_take, r_leave, r_leaven, r_leavex, s_zero, s_succ, a_zero, a_zeror, a_succ, e_set0, e_sets, d_idxT, d_idxL, at_0, at_1, at_2, at_3, op_add, op_sub, op_mul, op_md, op_fd, op_pw, d_add, d_sub, d_lt, d_le, d_gt, d_ge, d_eqi, d_nei, b_sum, b_any, b_all, b_tupL, b_tupT, b_lstL, b_lstT, b_int, b_lenL, b_lenT, b_lenS, Option.bind_some, Option.map_some, if_true, if_false, ite_true, ite_false, EV, sumD, at_nat, get_D (show k < as.length by omega), get_D (show k < bs.length by omega)]
theorem l_law1 {g : Den} {a b : Int} {as : List Int} {o0 o1 o3 o5 o6 o7 o8 o9 o10 o11 o12 o13 o14 : Option W} {st : Store} (h : as.length ≤ LIM) (hf : ∀ i ∈ as, Fit i) (hb : Fit b) :
    evE g c_law_1 (EV o0 o1 (some (.d (sumD a as))) o3 (some (.d (.int b))) o5 o6 o7 o8 o9 o10 o11 o12 o13 o14) st = some (.val (.lst ((as.map (· * b)).map .int)), st) := by
  unfold c_law_1
  refine lc_of (ds := as.map .int) (s := st) ?_ ?_ ?_
  · simp only [exSs, exS, evE, evEs, evA, evAs, evI, evC, evO, evAnd, evOr, r_val, r_exc, r_ret, r_lift, r_asB, r_asI, r_then, r_thenx, r_next, r_seq, r_seqr, r_seqx, r_now, r_frz, r_frzx, r_take, r_leave, r_leaven, r_leavex, s_zero, s_succ, a_zero, a_zeror, a_succ, e_set0, e_sets, d_idxT, d_idxL, at_0, at_1, at_2, at_3, op_add, op_sub, op_mul, op_md, op_fd, op_pw, d_add, d_sub, d_lt, d_le, d_gt, d_ge, d_eqi, d_nei, b_sum, b_any, b_all, b_tupL, b_tupT, b_lstL, b_lstT, b_int, b_lenL, b_lenT, b_lenS, Option.bind_some, Option.map_some, if_true, if_false, ite_true, ite_false, EV, sumD, srcW, seqW]
  · rw [List.length_map]; exact h
  · rw [foldC_map (r := fun i => .int (i * b)), List.map_map]
    · rfl
    · intro i hi
      refine t_no (env' := EV o0 o1 (some (.d (sumD a as))) o3 (some (.d (.int b))) o5 o6 o7 (some (.d (.int i))) o9 o10 o11 o12 o13 o14) rfl ?_
      simp only [exSs, exS, evE, evEs, evA, evAs, evI, evC, evO, evAnd, evOr, r_val, r_exc, r_ret, r_lift, r_asB, r_asI, r_then, r_thenx, r_next, r_seq, r_seqr, r_seqx, r_now, r_frz, r_frzx, r_take, r_leave, r_leaven, r_leavex, s_zero, s_succ, a_zero, a_zeror, a_succ, e_set0, e_sets, d_idxT, d_idxL, at_0, at_1, at_2, at_3, op_add, op_sub, op_mul, op_md, op_fd, op_pw, d_add, d_sub, d_lt, d_le, d_gt, d_ge, d_eqi, d_nei, b_sum, b_any, b_all, b_tupL, b_tupT, b_lstL, b_lstT, b_int, b_lenL, b_lenT, b_lenS, Option.bind_some, Option.map_some, if_true, if_false, ite_true, ite_false, EV, d_mul (fit_mul (hf i hi) hb)]
theorem l_law2 {g : Den} {a : Int} {as : List Int} {o0 o1 o3 o4 o5 o6 o7 o8 o9 o10 o11 o12 o13 o14 : Option W} {st : Store} (h : as.length ≤ LIM) :
    evE g c_law_2 (EV o0 o1 (some (.d (sumD a as))) o3 o4 o5 o6 o7 o8 o9 o10 o11 o12 o13 o14) st = some (.val (.lst ((as.map (0 - ·)).map .int)), st) := by
  unfold c_law_2
  refine lc_of (ds := as.map .int) (s := st) ?_ ?_ ?_
  · simp only [exSs, exS, evE, evEs, evA, evAs, evI, evC, evO, evAnd, evOr, r_val, r_exc, r_ret, r_lift, r_asB, r_asI, r_then, r_thenx, r_next, r_seq, r_seqr, r_seqx, r_now, r_frz, r_frzx, r_take, r_leave, r_leaven, r_leavex, s_zero, s_succ, a_zero, a_zeror, a_succ, e_set0, e_sets, d_idxT, d_idxL, at_0, at_1, at_2, at_3, op_add, op_sub, op_mul, op_md, op_fd, op_pw, d_add, d_sub, d_lt, d_le, d_gt, d_ge, d_eqi, d_nei, b_sum, b_any, b_all, b_tupL, b_tupT, b_lstL, b_lstT, b_int, b_lenL, b_lenT, b_lenS, Option.bind_some, Option.map_some, if_true, if_false, ite_true, ite_false, EV, sumD, srcW, seqW]
  · rw [List.length_map]; exact h
  · rw [foldC_map (r := fun i => .int (0 - i)), List.map_map]
    · rfl
    · intro i hi
      refine t_no (env' := EV o0 o1 (some (.d (sumD a as))) o3 o4 o5 o6 o7 (some (.d (.int i))) o9 o10 o11 o12 o13 o14) rfl ?_
      simp only [exSs, exS, evE, evEs, evA, evAs, evI, evC, evO, evAnd, evOr, r_val, r_exc, r_ret, r_lift, r_asB, r_asI, r_then, r_thenx, r_next, r_seq, r_seqr, r_seqx, r_now, r_frz, r_frzx, r_take, r_leave, r_leaven, r_leavex, s_zero, s_succ, a_zero, a_zeror, a_succ, e_set0, e_sets, d_idxT, d_idxL, at_0, at_1, at_2, at_3, op_add, op_sub, op_mul, op_md, op_fd, op_pw, d_add, d_sub, d_lt, d_le, d_gt, d_ge, d_eqi, d_nei, b_sum, b_any, b_all, b_tupL, b_tupT, b_lstL, b_lstT, b_int, b_lenL, b_lenT, b_lenS, Option.bind_some, Option.map_some, if_true, if_false, ite_true, ite_false, EV]
def inpOf (ns : List Int) (m : Nat) : List Int := (List.range m).map fun (k : Nat) => number (mixed (cellAt ns 4) (k : Int))
theorem l_law3 {n : Nat} {ns : List Int} {m : Nat} {o2 o3 o4 o5 o6 o7 o8 o9 o10 o11 o12 o13 o14 : Option W} {st : Store} (hm : m ≤ 1000) :
    evE (den DD (n + 1)) c_law_3 (EV (some (.d (.scr ns))) (some (.d (.int (m : Int)))) o2 o3 o4 o5 o6 o7 o8 o9 o10 o11 o12 o13 o14) st = some (.val (.lst ((inpOf ns m).map .int)), st) := by
  unfold c_law_3
  have h4 : den DD (n + 1) ix__law_cell_at [.d (.scr ns), .d (.int 4)] st = some (.val (.d (.int (cellAt ns 4))), st) := e_cell (k := 4)
  refine lc_of (ds := (List.range m).map fun (k : Nat) => .int (k : Int)) (s := st) ?_ ?_ ?_
  · simp only [exSs, exS, evE, evEs, evA, evAs, evI, evC, evO, evAnd, evOr, r_val, r_exc, r_ret, r_lift, r_asB, r_asI, r_then, r_thenx, r_next, r_seq, r_seqr, r_seqx, r_now, r_frz, r_frzx, r_take, r_leave, r_leaven, r_leavex, s_zero, s_succ, a_zero, a_zeror, a_succ, e_set0, e_sets, d_idxT, d_idxL, at_0, at_1, at_2, at_3, op_add, op_sub, op_mul, op_md, op_fd, op_pw, d_add, d_sub, d_lt, d_le, d_gt, d_ge, d_eqi, d_nei, b_sum, b_any, b_all, b_tupL, b_tupT, b_lstL, b_lstT, b_int, b_lenL, b_lenT, b_lenS, Option.bind_some, Option.map_some, if_true, if_false, ite_true, ite_false, EV, rng_nat]
  · rw [List.length_map, List.length_range]; exact small_lim hm
  · rw [foldC_map (r := fun (k : Nat) => .int (number (mixed (cellAt ns 4) (k : Int))))]
    · unfold inpOf
      rw [List.map_map]
      rfl
    · intro k hk
      have hk := List.mem_range.mp hk
      refine t_no (env' := EV (some (.d (.scr ns))) (some (.d (.int (m : Int)))) o2 o3 o4 o5 (some (.d (.int (k : Int)))) o7 o8 o9 o10 o11 o12 o13 o14) rfl ?_
      simp only [exSs, exS, evE, evEs, evA, evAs, evI, evC, evO, evAnd, evOr, r_val, r_exc, r_ret, r_lift, r_asB, r_asI, r_then, r_thenx, r_next, r_seq, r_seqr, r_seqx, r_now, r_frz, r_frzx, r_take, r_leave, r_leaven, r_leavex, s_zero, s_succ, a_zero, a_zeror, a_succ, e_set0, e_sets, d_idxT, d_idxL, at_0, at_1, at_2, at_3, op_add, op_sub, op_mul, op_md, op_fd, op_pw, d_add, d_sub, d_lt, d_le, d_gt, d_ge, d_eqi, d_nei, b_sum, b_any, b_all, b_tupL, b_tupT, b_lstL, b_lstT, b_int, b_lenL, b_lenT, b_lenS, Option.bind_some, Option.map_some, if_true, if_false, ite_true, ite_false, EV, h4, e_mixed (show (0 : Int) ≤ (k : Int) by omega) (show (k : Int) ≤ 1000 by omega), e_number]
theorem l_law4 {g : Den} {a : Int} {as xs : List Int} {m : Nat} {o0 o2 o3 o4 o5 o6 o7 o8 o9 o12 o13 o14 : Option W} {st : Store} (h : as.length = m) (h' : xs.length = m) (hm : m ≤ 1000) (hf : ∀ i ∈ as, Fit i) (hx : ∀ i ∈ xs, Fit i) :
    evE g c_law_4 (EV o0 (some (.d (.int (m : Int)))) o2 o3 o4 o5 o6 o7 o8 o9 (some (.d (.lst (xs.map .int)))) (some (.d (sumD a as))) o12 o13 o14) st = some (.val (.lst (((as.zip xs).map fun p => p.1 * p.2).map .int)), st) := by
  unfold c_law_4
  refine lc_of (ds := (List.range m).map fun (k : Nat) => .int (k : Int)) (s := st) ?_ ?_ ?_
  · simp only [exSs, exS, evE, evEs, evA, evAs, evI, evC, evO, evAnd, evOr, r_val, r_exc, r_ret, r_lift, r_asB, r_asI, r_then, r_thenx, r_next, r_seq, r_seqr, r_seqx, r_now, r_frz, r_frzx, r_take, r_leave, r_leaven, r_leavex, s_zero, s_succ, a_zero, a_zeror, a_succ, e_set0, e_sets, d_idxT, d_idxL, at_0, at_1, at_2, at_3, op_add, op_sub, op_mul, op_md, op_fd, op_pw, d_add, d_sub, d_lt, d_le, d_gt, d_ge, d_eqi, d_nei, b_sum, b_any, b_all, b_tupL, b_tupT, b_lstL, b_lstT, b_int, b_lenL, b_lenT, b_lenS, Option.bind_some, Option.map_some, if_true, if_false, ite_true, ite_false, EV, rng_nat]
  · rw [List.length_map, List.length_range]; exact small_lim hm
  · rw [foldC_map (r := fun (k : Nat) => .int (as.getD k 0 * xs.getD k 0))]
    · have e := range_zip (f := (· * ·)) h h'
      have e2 := congrArg (List.map D.int) e
      rw [List.map_map] at e2
      exact congrArg (fun z => some (Rs.val z, st)) e2
    · intro k hk
      have hk := List.mem_range.mp hk
      have f1 : Fit (as.getD k 0) := hf _ (by rw [List.getD_eq_getElem?_getD, List.getElem?_eq_getElem (show k < as.length by omega)]; exact List.getElem_mem _)
      have f2 : Fit (xs.getD k 0) := hx _ (by rw [List.getD_eq_getElem?_getD, List.getElem?_eq_getElem (show k < xs.length by omega)]; exact List.getElem_mem _)
      refine t_no (env' := EV o0 (some (.d (.int (m : Int)))) o2 o3 o4 o5 (some (.d (.int (k : Int)))) o7 o8 o9 (some (.d (.lst (xs.map .int)))) (some (.d (sumD a as))) o12 o13 o14) rfl ?_
      simp only [exSs, exS, evE, evEs, evA, evAs, evI, evC, evO, evAnd, evOr, r_val, r_exc, r_ret, r_lift, r_asB, r_asI, r_then, r_thenx, r_next, r_seq, r_seqr, r_seqx, r_now, r_frz, r_frzx, r_take, r_leave, r_leaven, r_leavex, s_zero, s_succ, a_zero, a_zeror, a_succ, e_set0, e_sets, d_idxT, d_idxL, at_0, at_1, at_2, at_3, op_add, op_sub, op_mul, op_md, op_fd, op_pw, d_add, d_sub, d_lt, d_le, d_gt, d_ge, d_eqi, d_nei, b_sum, b_any, b_all, b_tupL, b_tupT, b_lstL, b_lstT, b_int, b_lenL, b_lenT, b_lenS, Option.bind_some, Option.map_some, if_true, if_false, ite_true, ite_false, EV, sumD, at_nat, get_D (show k < as.length by omega), get_D (show k < xs.length by omega), d_mul (fit_mul f1 f2)]
theorem l_law5 {g : Den} {a : Int} {as : List Int} {o0 o1 o2 o3 o4 o5 o6 o7 o8 o9 o10 o12 o13 o14 : Option W} {st : Store} (h : as.length ≤ LIM) :
    evE g c_law_5 (EV o0 o1 o2 o3 o4 o5 o6 o7 o8 o9 o10 (some (.d (sumD a as))) o12 o13 o14) st = some (.val (.lst ((as.filter fun i => !decide (i = 0)).map .int)), st) := by
  unfold c_law_5
  refine lc_of (ds := as.map .int) (s := st) ?_ ?_ ?_
  · simp only [exSs, exS, evE, evEs, evA, evAs, evI, evC, evO, evAnd, evOr, r_val, r_exc, r_ret, r_lift, r_asB, r_asI, r_then, r_thenx, r_next, r_seq, r_seqr, r_seqx, r_now, r_frz, r_frzx, r_take, r_leave, r_leaven, r_leavex, s_zero, s_succ, a_zero, a_zeror, a_succ, e_set0, e_sets, d_idxT, d_idxL, at_0, at_1, at_2, at_3, op_add, op_sub, op_mul, op_md, op_fd, op_pw, d_add, d_sub, d_lt, d_le, d_gt, d_ge, d_eqi, d_nei, b_sum, b_any, b_all, b_tupL, b_tupT, b_lstL, b_lstT, b_int, b_lenL, b_lenT, b_lenS, Option.bind_some, Option.map_some, if_true, if_false, ite_true, ite_false, EV, sumD, srcW, seqW]
  · rw [List.length_map]; exact h
  · rw [foldC_fil (r := fun i => if (!decide (i = 0)) = true then some (D.int i) else none)]
    · congr 2
      rw [← List.filterMap_eq_filter, List.map_filterMap]
      congr 2
      funext i
      by_cases hi : i = 0
      · simp [hi, Option.guard]
      · simp [hi, Option.guard]
    · intro i hi
      refine t_yes (env' := EV o0 o1 o2 o3 o4 o5 o6 o7 (some (.d (.int i))) o9 o10 (some (.d (sumD a as))) o12 o13 o14) rfl ?_ fun _ => ?_
      · simp only [exSs, exS, evE, evEs, evA, evAs, evI, evC, evO, evAnd, evOr, r_val, r_exc, r_ret, r_lift, r_asB, r_asI, r_then, r_thenx, r_next, r_seq, r_seqr, r_seqx, r_now, r_frz, r_frzx, r_take, r_leave, r_leaven, r_leavex, s_zero, s_succ, a_zero, a_zeror, a_succ, e_set0, e_sets, d_idxT, d_idxL, at_0, at_1, at_2, at_3, op_add, op_sub, op_mul, op_md, op_fd, op_pw, d_add, d_sub, d_lt, d_le, d_gt, d_ge, d_eqi, d_nei, b_sum, b_any, b_all, b_tupL, b_tupT, b_lstL, b_lstT, b_int, b_lenL, b_lenT, b_lenS, Option.bind_some, Option.map_some, if_true, if_false, ite_true, ite_false, EV]
      · simp only [exSs, exS, evE, evEs, evA, evAs, evI, evC, evO, evAnd, evOr, r_val, r_exc, r_ret, r_lift, r_asB, r_asI, r_then, r_thenx, r_next, r_seq, r_seqr, r_seqx, r_now, r_frz, r_frzx, r_take, r_leave, r_leaven, r_leavex, s_zero, s_succ, a_zero, a_zeror, a_succ, e_set0, e_sets, d_idxT, d_idxL, at_0, at_1, at_2, at_3, op_add, op_sub, op_mul, op_md, op_fd, op_pw, d_add, d_sub, d_lt, d_le, d_gt, d_ge, d_eqi, d_nei, b_sum, b_any, b_all, b_tupL, b_tupT, b_lstL, b_lstT, b_int, b_lenL, b_lenT, b_lenS, Option.bind_some, Option.map_some, if_true, if_false, ite_true, ite_false, EV]
/-- one sum, by a list and by a tuple -/
theorem l_turn0 {n : Nat} {a due : Int} {as xs : List Int} {o0 o1 o2 o3 o4 o5 o6 o7 o8 o9 o13 o14 : Option W} {st : Store} (h : as.length ≤ LIM) (hf : ∀ i ∈ as, Fit i) (hx : ∀ i ∈ xs, Fit i) (hd : due = byN a (as.zip xs)) :
    exS (den DD (n + 1)) f_law_0 (EV o0 o1 o2 o3 o4 o5 o6 o7 o8 o9 (some (.d (.lst (xs.map .int)))) (some (.d (sumD a as))) (some (.d (.int due))) o13 o14) st = some (.next, EV o0 o1 o2 o3 o4 o5 o6 o7 o8 o9 (some (.d (.lst (xs.map .int)))) (some (.d (sumD a as))) (some (.d (.int due))) (some (.d (.tup (xs.map .int)))) (some (.d (.int due))), st) := by
  have c1 : den DD (n + 1) ix_comes_to [.d (sumD a as), .d (.lst (xs.map .int))] st = some (.val (.d (.int due)), st) := by
    rw [hd]; exact e_comes (b := false) h hf hx
  have c2 : den DD (n + 1) ix_comes_to [.d (sumD a as), .d (.tup (xs.map .int))] st = some (.val (.d (.int due)), st) := by
    rw [hd]; exact e_comes (b := true) h hf hx
  refine for_is (ds := [.lst (xs.map .int), .tup (xs.map .int)]) (s := st) ?_ ?_ ?_
  · simp only [foldF, bindT, wipeE, List.foldl, List.zip_cons_cons, List.zip_nil_left, List.length_cons, List.length_nil, exSs, exS, evE, evEs, evA, evAs, evI, evC, evO, evAnd, evOr, r_val, r_exc, r_ret, r_lift, r_asB, r_asI, r_then, r_thenx, r_next, r_seq, r_seqr, r_seqx, r_now, r_frz, r_frzx, r_take, r_leave, r_leaven, r_leavex, s_zero, s_succ, a_zero, a_zeror, a_succ, e_set0, e_sets, d_idxT, d_idxL, at_0, at_1, at_2, at_3, op_add, op_sub, op_mul, op_md, op_fd, op_pw, d_add, d_sub, d_lt, d_le, d_gt, d_ge, d_eqi, d_nei, b_sum, b_any, b_all, b_tupL, b_tupT, b_lstL, b_lstT, b_int, b_lenL, b_lenT, b_lenS, Option.bind_some, Option.map_some, if_true, if_false, ite_true, ite_false, EV, b_law_0, c1, c2, e_whole, Bool.not_true, decide_true, Bool.false_eq_true]
  · simp only [exSs, exS, evE, evEs, evA, evAs, evI, evC, evO, evAnd, evOr, r_val, r_exc, r_ret, r_lift, r_asB, r_asI, r_then, r_thenx, r_next, r_seq, r_seqr, r_seqx, r_now, r_frz, r_frzx, r_take, r_leave, r_leaven, r_leavex, s_zero, s_succ, a_zero, a_zeror, a_succ, e_set0, e_sets, d_idxT, d_idxL, at_0, at_1, at_2, at_3, op_add, op_sub, op_mul, op_md, op_fd, op_pw, d_add, d_sub, d_lt, d_le, d_gt, d_ge, d_eqi, d_nei, b_sum, b_any, b_all, b_tupL, b_tupT, b_lstL, b_lstT, b_int, b_lenL, b_lenT, b_lenS, Option.bind_some, Option.map_some, if_true, if_false, ite_true, ite_false, EV, srcW, seqW]
  · exact small_lim (by simp)
theorem shp_bl {b : Bool} : shp (.bl b) = true := shp_of rfl (by simp [dsz])
theorem shp_ints {as : List Int} : shp (.lst (as.map .int)) = true := shp_of (by rw [dok_L, doks_ints]) (by rw [dsz_L, dszs_ints]; decide)
theorem shp_nil : shp (.lst []) = true := shp_ints (as := [])
theorem any_fil (as : List Int) : (!deq (.lst ((as.filter fun i => !decide (i = 0)).map .int)) (.lst [])) = as.any fun i => !decide (i = 0) := by
  rw [deq_lst]
  have e : deqs ((as.filter fun i => !decide (i = 0)).map .int) (([] : List Int).map .int) = _ := deqs_ints
  rw [List.map_nil] at e
  rw [e, Bool.eq_iff_iff]
  simp
theorem ne_bl {a b : Bool} : cmpD .ne (.bl a) (.bl b) = some (!decide (a = b)) := by rw [d_ne shp_bl shp_bl, deq_bl]
/-- one of the five sums -/
def Good (m : Nat) (q : Int × List Int) : Prop := q.2.length = m ∧ ∀ i ∈ q.2, Fit i
theorem l_turn1 {n : Nat} {m : Nat} {xs : List Int} (hm : m ≤ 1000) (hx : ∀ i ∈ xs, Fit i) (hxl : xs.length = m) {st : Store} {o0 o2 o3 o4 o5 o6 o7 o8 o9 : Option W} : ∀ (qs : List (Int × List Int)) (o11 o12 o13 o14 : Option W), (∀ q ∈ qs, Good m q) → ∃ o11' o12' o13' o14',
    foldF (.nm 11) (exSs (den DD (n + 1)) b_law_1) (qs.map fun q => sumD q.1 q.2) (EV o0 (some (.d (.int (m : Int)))) o2 o3 o4 o5 o6 o7 o8 o9 (some (.d (.lst (xs.map .int)))) o11 o12 o13 o14) st = some (.next, EV o0 (some (.d (.int (m : Int)))) o2 o3 o4 o5 o6 o7 o8 o9 (some (.d (.lst (xs.map .int)))) o11' o12' o13' o14', st)
  | [], o11, o12, o13, o14, _ => ⟨o11, o12, o13, o14, rfl⟩
  | (a, as) :: qs, o11, o12, o13, o14, h => by
    obtain ⟨hl, hf⟩ := h (a, as) List.mem_cons_self
    have hlim : as.length ≤ LIM := by
      have : as.length = m := hl
      rw [this]; exact small_lim hm
    have hb : isTy .bool (.bl (as.any fun i => !decide (i = 0))) = true := rfl
    obtain ⟨p1, p2, p3, p4, e⟩ := l_turn1 (n := n) hm hx hxl (st := st) (o0 := o0) (o2 := o2) (o3 := o3) (o4 := o4) (o5 := o5) (o6 := o6) (o7 := o7) (o8 := o8) (o9 := o9) qs (some (.d (sumD a as))) (some (.d (.int (byN a (as.zip xs))))) (some (.d (.tup (xs.map .int)))) (some (.d (.bl (as.any fun i => !decide (i = 0))))) fun q hq => h q (List.mem_cons_of_mem _ hq)
    refine ⟨p1, p2, p3, p4, ?_⟩
    have hsum : a + ((as.zip xs).map fun p => p.1 * p.2).sum = byN a (as.zip xs) := (byN_sum _ _).symm
    have hidx : idxD (sumD a as) (.int 0) = some (.int a) := by simp only [sumD, exSs, exS, evE, evEs, evA, evAs, evI, evC, evO, evAnd, evOr, r_val, r_exc, r_ret, r_lift, r_asB, r_asI, r_then, r_thenx, r_next, r_seq, r_seqr, r_seqx, r_now, r_frz, r_frzx, r_take, r_leave, r_leaven, r_leavex, s_zero, s_succ, a_zero, a_zeror, a_succ, e_set0, e_sets, d_idxT, d_idxL, at_0, at_1, at_2, at_3, op_add, op_sub, op_mul, op_md, op_fd, op_pw, d_add, d_sub, d_lt, d_le, d_gt, d_ge, d_eqi, d_nei, b_sum, b_any, b_all, b_tupL, b_tupT, b_lstL, b_lstT, b_int, b_lenL, b_lenT, b_lenS, Option.bind_some, Option.map_some, if_true, if_false, ite_true, ite_false]
    have l4 := fun o12 o13 o14 => l_law4 (g := den DD (n + 1)) (a := a) (o0 := o0) (o2 := o2) (o3 := o3) (o4 := o4) (o5 := o5) (o6 := o6) (o7 := o7) (o8 := o8) (o9 := o9) (o12 := o12) (o13 := o13) (o14 := o14) (st := st) hl hxl hm hf hx
    have l5 := fun o12 o13 o14 => l_law5 (g := den DD (n + 1)) (a := a) (o0 := o0) (o1 := some (.d (.int (m : Int)))) (o2 := o2) (o3 := o3) (o4 := o4) (o5 := o5) (o6 := o6) (o7 := o7) (o8 := o8) (o9 := o9) (o10 := some (.d (.lst (xs.map .int)))) (o12 := o12) (o13 := o13) (o14 := o14) (st := st) hlim
    have t0 := fun o13 o14 => l_turn0 (n := n) (a := a) (due := byN a (as.zip xs)) (as := as) (xs := xs) (o0 := o0) (o1 := some (.d (.int (m : Int)))) (o2 := o2) (o3 := o3) (o4 := o4) (o5 := o5) (o6 := o6) (o7 := o7) (o8 := o8) (o9 := o9) (o13 := o13) (o14 := o14) (st := st) hlim hf hx rfl
    unfold EV at l4 l5 t0 e
    rw [List.map_cons, foldF]
    simp only [bindT, wipeE, List.foldl, List.zip_cons_cons, List.zip_nil_left, List.length_cons, List.length_nil, EV, b_law_1, exSs, exS, evE, evEs, evA, evAs, evI, evC, evO, evAnd, evOr, r_val, r_exc, r_ret, r_lift, r_asB, r_asI, r_then, r_thenx, r_next, r_seq, r_seqr, r_seqx, r_now, r_frz, r_frzx, r_take, r_leave, r_leaven, r_leavex, s_zero, s_succ, a_zero, a_zeror, a_succ, e_set0, e_sets, d_idxT, d_idxL, at_0, at_1, at_2, at_3, op_add, op_sub, op_mul, op_md, op_fd, op_pw, d_add, d_sub, d_lt, d_le, d_gt, d_ge, d_eqi, d_nei, b_sum, b_any, b_all, b_tupL, b_tupT, b_lstL, b_lstT, b_int, b_lenL, b_lenT, b_lenS, Option.bind_some, Option.map_some, if_true, if_false, ite_true, ite_false, hidx, l4, hsum, t0, e_open hlim, hb, l5, d_ne shp_ints shp_nil, any_fil, ne_bl, decide_true, Bool.not_true, Bool.false_eq_true]
    exact e
theorem map_neg {as : List Int} : as.map (0 - ·) = as.map (· * -1) := List.map_congr_left fun i _ => by omega
theorem byN_add (a b : Int) : ∀ (as bs xs : List Int), as.length = xs.length → bs.length = xs.length → byN (a + b) ((List.zipWith (· + ·) as bs).zip xs) = byN a (as.zip xs) + byN b (bs.zip xs) := by
  intro as
  induction as generalizing a b with
  | nil =>
    intro bs xs h1 h2
    cases xs with
    | nil => cases bs <;> simp [byN]
    | cons x xs => simp at h1
  | cons i as ih =>
    intro bs xs h1 h2
    cases xs with
    | nil => simp at h1
    | cons x xs =>
      cases bs with
      | nil => simp at h2
      | cons j bs =>
        simp only [List.zipWith_cons_cons, List.zip_cons_cons, byN]
        have e : a + b + (i + j) * x = (a + i * x) + (b + j * x) := by rw [Int.add_mul]; omega
        rw [e]
        exact ih _ _ bs xs (by simpa using h1) (by simpa using h2)
theorem e_law {n : Nat} {ns : List Int} {st : Store} : den DD (n + 3) ix_law [.d (.scr ns)] st = some (.val (.d (.bl true)), st) := by
  obtain ⟨m, hm, hm4⟩ : ∃ m : Nat, cellAt ns 0 % 4 = (m : Int) ∧ m < 4 := ⟨(cellAt ns 0 % 4).toNat, by omega, by omega⟩
  have hm2 : m ≤ 1000 := by omega
  have c0 : den DD (n + 2) ix__law_cell_at [.d (.scr ns), .d (.int 0)] st = some (.val (.d (.int (cellAt ns 0))), st) := e_cell (k := 0)
  have c1 : den DD (n + 2) ix__law_cell_at [.d (.scr ns), .d (.int 1)] st = some (.val (.d (.int (cellAt ns 1))), st) := e_cell (k := 1)
  have c2 : den DD (n + 2) ix__law_cell_at [.d (.scr ns), .d (.int 2)] st = some (.val (.d (.int (cellAt ns 2))), st) := e_cell (k := 2)
  have c3 : den DD (n + 2) ix__law_cell_at [.d (.scr ns), .d (.int 3)] st = some (.val (.d (.int (cellAt ns 3))), st) := e_cell (k := 3)
  generalize hA : sumC (cellAt ns 1) = A
  generalize hB : sumC (cellAt ns 2) = B
  have sA : Sml A := by rw [← hA]; exact number_small _
  have sB : Sml B := by rw [← hB]; exact number_small _
  obtain ⟨as, has⟩ : ∃ as, sumF (cellAt ns 1) m = as := ⟨_, rfl⟩
  obtain ⟨bs, hbs⟩ : ∃ bs, sumF (cellAt ns 2) m = bs := ⟨_, rfl⟩
  have la : as.length = m := by rw [← has]; exact sumF_len _ _
  have lb : bs.length = m := by rw [← hbs]; exact sumF_len _ _
  have sas : ∀ i ∈ as, Sml i := by rw [← has]; exact sumF_small
  have sbs : ∀ i ∈ bs, Sml i := by rw [← hbs]; exact sumF_small
  obtain ⟨by_, hby⟩ : ∃ y, number (cellAt ns 3) = y := ⟨_, rfl⟩
  have sby : Sml by_ := by rw [← hby]; exact number_small _
  obtain ⟨xs, hxs⟩ : ∃ y, inpOf ns m = y := ⟨_, rfl⟩
  have lx : xs.length = m := by rw [← hxs]; simp [inpOf]
  have sxs : ∀ i ∈ xs, Sml i := by
    rw [← hxs]
    intro i hi
    obtain ⟨k, _, rfl⟩ := List.mem_map.mp hi
    exact number_small _
  have lim : ∀ {l : List Int}, l.length = m → l.length ≤ LIM := fun h => by rw [h]; exact small_lim hm2
  have lim1 : ∀ {l : List Int}, l.length = m → l.length + 1 ≤ LIM := fun h => by rw [h]; exact small_lim (by omega)
  have s1 : den DD (n + 2) ix__law_sum [.d (.int (cellAt ns 1)), .d (.int (m : Int))] st = some (.val (.d (sumD A as)), st) := by rw [← hA, ← has]; exact e_sum hm2
  have s2 : den DD (n + 2) ix__law_sum [.d (.int (cellAt ns 2)), .d (.int (m : Int))] st = some (.val (.d (sumD B bs)), st) := by rw [← hB, ← hbs]; exact e_sum hm2
  have n1 : den DD (n + 2) ix__law_number [.d (.int (cellAt ns 3))] st = some (.val (.d (.int by_)), st) := by rw [← hby]; exact e_number
  have fA := sml_fit sA
  have fas : ∀ i ∈ as, Fit i := fun i hi => sml_fit (sas i hi)
  have fbs : ∀ i ∈ bs, Fit i := fun i hi => sml_fit (sbs i hi)
  have fxs : ∀ i ∈ xs, Fit i := fun i hi => sml_fit (sxs i hi)
  have i0 : ∀ {a : Int} {l : List Int}, idxD (sumD a l) (.int 0) = some (.int a) := fun {a l} => by simp only [sumD, exSs, exS, evE, evEs, evA, evAs, evI, evC, evO, evAnd, evOr, r_val, r_exc, r_ret, r_lift, r_asB, r_asI, r_then, r_thenx, r_next, r_seq, r_seqr, r_seqx, r_now, r_frz, r_frzx, r_take, r_leave, r_leaven, r_leavex, s_zero, s_succ, a_zero, a_zeror, a_succ, e_set0, e_sets, d_idxT, d_idxL, at_0, at_1, at_2, at_3, op_add, op_sub, op_mul, op_md, op_fd, op_pw, d_add, d_sub, d_lt, d_le, d_gt, d_ge, d_eqi, d_nei, b_sum, b_any, b_all, b_tupL, b_tupT, b_lstL, b_lstT, b_int, b_lenL, b_lenT, b_lenS, Option.bind_some, Option.map_some, if_true, if_false, ite_true, ite_false]
  have add1 : den DD (n + 2) ix_added [.d (sumD A as), .d (sumD B bs)] st = some (.val (.d (sumD (A + B) (List.zipWith (· + ·) as bs))), st) := e_added (lim la)
  have sc1 : den DD (n + 2) ix_scaled [.d (sumD A as), .d (.int by_)] st = some (.val (.d (sumD (A * by_) (as.map (· * by_)))), st) := e_scaled (lim la) fA fas (sml_fit sby)
  have op1 : den DD (n + 2) ix_opposite [.d (sumD A as)] st = some (.val (.d (sumD (0 - A) (as.map (0 - ·)))), st) := by
    rw [e_opposite (lim la) fA fas, map_neg, show 0 - A = A * -1 by omega]
  have lz : (List.zipWith (· + ·) as bs).length = m := by simp [la, lb]
  have is1 : den DD (n + 2) ix__law_is [.d (sumD (A + B) (List.zipWith (· + ·) as bs)), .d (sumD (A + B) (List.zipWith (· + ·) as bs))] st = some (.val (.d (.bl true)), st) := by
    have := e_is (n := n) (a := (A + B)) (b := (A + B)) (as := (List.zipWith (· + ·) as bs)) (bs := (List.zipWith (· + ·) as bs)) (st := st) (lim1 (by simp [la, lb]))
    simpa using this
  have is2 : den DD (n + 2) ix__law_is [.d (sumD (A * by_) (as.map (· * by_))), .d (sumD (A * by_) (as.map (· * by_)))] st = some (.val (.d (.bl true)), st) := by
    have := e_is (n := n) (a := (A * by_)) (b := (A * by_)) (as := (as.map (· * by_))) (bs := (as.map (· * by_))) (st := st) (lim1 (by simp [la, lb]))
    simpa using this
  have is3 : den DD (n + 2) ix__law_is [.d (sumD (0 - A) (as.map (0 - ·))), .d (sumD (0 - A) (as.map (0 - ·)))] st = some (.val (.d (.bl true)), st) := by
    have := e_is (n := n) (a := (0 - A)) (b := (0 - A)) (as := (as.map (0 - ·))) (bs := (as.map (0 - ·))) (st := st) (lim1 (by simp [la, lb]))
    simpa using this
  have fold : ∀ {a : Int} {l : List Int}, D.tup [.int a, .tup (l.map D.int)] = sumD a l := fun {_ _} => rfl
  -- the comprehensions of the law's own text
  have l0 := fun o4 o5 o6 o7 o8 o9 o10 o11 o12 o13 o14 => l_law0 (g := den DD (n + 2)) (a := A) (b := B) (as := as) (bs := bs) (m := m) (o0 := some (.d (.scr ns))) (o4 := o4) (o5 := o5) (o6 := o6) (o7 := o7) (o8 := o8) (o9 := o9) (o10 := o10) (o11 := o11) (o12 := o12) (o13 := o13) (o14 := o14) (st := st) la lb hm2
  have l1 := fun o1 o3 o5 o6 o7 o8 o9 o10 o11 o12 o13 o14 => l_law1 (g := den DD (n + 2)) (a := A) (b := by_) (as := as) (o0 := some (.d (.scr ns))) (o1 := o1) (o3 := o3) (o5 := o5) (o6 := o6) (o7 := o7) (o8 := o8) (o9 := o9) (o10 := o10) (o11 := o11) (o12 := o12) (o13 := o13) (o14 := o14) (st := st) (lim la) fas (sml_fit sby)
  have l2 := fun o1 o3 o4 o5 o6 o7 o8 o9 o10 o11 o12 o13 o14 => l_law2 (g := den DD (n + 2)) (a := A) (as := as) (o0 := some (.d (.scr ns))) (o1 := o1) (o3 := o3) (o4 := o4) (o5 := o5) (o6 := o6) (o7 := o7) (o8 := o8) (o9 := o9) (o10 := o10) (o11 := o11) (o12 := o12) (o13 := o13) (o14 := o14) (st := st) (lim la)
  have l3 := fun o2 o3 o4 o5 o6 o7 o8 o9 o10 o11 o12 o13 o14 => l_law3 (n := n + 1) (ns := ns) (m := m) (o2 := o2) (o3 := o3) (o4 := o4) (o5 := o5) (o6 := o6) (o7 := o7) (o8 := o8) (o9 := o9) (o10 := o10) (o11 := o11) (o12 := o12) (o13 := o13) (o14 := o14) (st := st) hm2
  rw [hxs] at l3
  -- the five sums
  have good : ∀ q ∈ [(A, as), (B, bs), (A + B, List.zipWith (· + ·) as bs), (A * by_, as.map (· * by_)), (0 - A, as.map (0 - ·))], Good m q := by
    intro q hq
    simp only [List.mem_cons, List.not_mem_nil, or_false] at hq
    rcases hq with rfl | rfl | rfl | rfl | rfl
    · exact ⟨la, fas⟩
    · exact ⟨lb, fbs⟩
    · refine ⟨lz, fun i hi => ?_⟩
      rw [← List.map_uncurry_zip_eq_zipWith] at hi
      obtain ⟨p, hp, rfl⟩ := List.mem_map.mp hi
      exact fit_add (sas _ (List.of_mem_zip hp).1) (sbs _ (List.of_mem_zip hp).2)
    · refine ⟨by simp [la], fun i hi => ?_⟩
      obtain ⟨j, hj, rfl⟩ := List.mem_map.mp hi
      exact fit_times (sas j hj) sby
    · refine ⟨by simp [la], fun i hi => ?_⟩
      obtain ⟨j, hj, rfl⟩ := List.mem_map.mp hi
      exact fit_neg (sas j hj)
  obtain ⟨p1, p2, p3, p4, e⟩ := l_turn1 (n := n + 1) hm2 fxs lx (st := st) (o0 := some (.d (.scr ns))) (o2 := some (.d (sumD A as))) (o3 := some (.d (sumD B bs))) (o4 := some (.d (.int by_))) (o5 := some (.d (sumD (A + B) (List.zipWith (· + ·) as bs)))) (o6 := none) (o7 := some (.d (sumD (A * by_) (as.map (· * by_))))) (o8 := none) (o9 := some (.d (sumD (0 - A) (as.map (0 - ·))))) _ none none none none good
  have hfor := for_is (g := den DD (n + 2)) (src := .of (.e (.tup (.cons (.var 2) (.cons (.var 3) (.cons (.var 5) (.cons (.var 7) (.cons (.var 9) .nil)))))))) (st := st) e (by
    simp only [exSs, exS, evE, evEs, evA, evAs, evI, evC, evO, evAnd, evOr, r_val, r_exc, r_ret, r_lift, r_asB, r_asI, r_then, r_thenx, r_next, r_seq, r_seqr, r_seqx, r_now, r_frz, r_frzx, r_take, r_leave, r_leaven, r_leavex, s_zero, s_succ, a_zero, a_zeror, a_succ, e_set0, e_sets, d_idxT, d_idxL, at_0, at_1, at_2, at_3, op_add, op_sub, op_mul, op_md, op_fd, op_pw, d_add, d_sub, d_lt, d_le, d_gt, d_ge, d_eqi, d_nei, b_sum, b_any, b_all, b_tupL, b_tupT, b_lstL, b_lstT, b_int, b_lenL, b_lenT, b_lenS, Option.bind_some, Option.map_some, if_true, if_false, ite_true, ite_false, EV, srcW, seqW, List.map_cons, List.map_nil]) (small_lim (by simp))
  have k1 : den DD (n + 2) ix_comes_to [.d (sumD (A + B) (List.zipWith (· + ·) as bs)), .d (.lst (xs.map .int))] st = _ := e_comes (b := false) (lim lz) (good (A + B, List.zipWith (· + ·) as bs) (by simp)).2 fxs
  have k2 : den DD (n + 2) ix_comes_to [.d (sumD A as), .d (.lst (xs.map .int))] st = _ := e_comes (b := false) (lim la) fas fxs
  have k3 : den DD (n + 2) ix_comes_to [.d (sumD B bs), .d (.lst (xs.map .int))] st = _ := e_comes (b := false) (lim lb) fbs fxs
  have kk := byN_add A B as bs xs (by rw [la, lx]) (by rw [lb, lx])
  change exS _ f_law_1 _ _ = _ at hfor
  unfold EV at l0 l1 l2 l3 hfor
  rw [den_run at_law]
  simp only [runD, startE, List.map_cons, List.map_nil, List.length_cons, List.length_nil, List.replicate, List.cons_append, List.nil_append, Nat.reduceAdd, Nat.reduceSub, Nat.zero_add, if_true, d_law, exSs, exS, evE, evEs, evA, evAs, evI, evC, evO, evAnd, evOr, r_val, r_exc, r_ret, r_lift, r_asB, r_asI, r_then, r_thenx, r_next, r_seq, r_seqr, r_seqx, r_now, r_frz, r_frzx, r_take, r_leave, r_leaven, r_leavex, s_zero, s_succ, a_zero, a_zeror, a_succ, e_set0, e_sets, d_idxT, d_idxL, at_0, at_1, at_2, at_3, op_add, op_sub, op_mul, op_md, op_fd, op_pw, d_add, d_sub, d_lt, d_le, d_gt, d_ge, d_eqi, d_nei, b_sum, b_any, b_all, b_tupL, b_tupT, b_lstL, b_lstT, b_int, b_lenL, b_lenT, b_lenS, Option.bind_some, Option.map_some, if_true, if_false, ite_true, ite_false, c0, c1, c2, c3, s1, s2, n1, hm, d_md (show (0 : Int) < 4 by decide), i0, l0, l1, l2, l3, d_mul (fit_mul fA (sml_fit sby)), fold, add1, sc1, op1, is1, is2, is3, Bool.not_true, Bool.false_eq_true, hfor, k1, k2, k3, kk, decide_true]
end K01
namespace K01
open PySem PySem.Spec PyProof.Rows L2 Cw
theorem top_mk {P : Program} {w : World} {K : PySem.W.Frag} {mg : Str → Option Value} {h : Heap} (X : K.In h) (G : h.Ns mainGlobals mg) (z0 : PySem.W.nsIn K mainGlobals "all" = some none) (z1 : PySem.W.nsIn K mainGlobals "any" = some none) (z2 : PySem.W.nsIn K mainGlobals "bool" = some none) (z3 : PySem.W.nsIn K mainGlobals "int" = some none) (z4 : PySem.W.nsIn K mainGlobals "isinstance" = some none) (z5 : PySem.W.nsIn K mainGlobals "len" = some none) (z6 : PySem.W.nsIn K mainGlobals "list" = some none) (z7 : PySem.W.nsIn K mainGlobals "range" = some none) (z8 : PySem.W.nsIn K mainGlobals "sum" = some none) (z9 : PySem.W.nsIn K mainGlobals "tuple" = some none) (z10 : PySem.W.nsIn K mainGlobals "zip" = some none) : Top tab P w K mg (fun _ => 0) :=
  ⟨bl_cons (PySem.W.mg_none_of X G z0) (bl_cons (PySem.W.mg_none_of X G z1) (bl_cons (PySem.W.mg_none_of X G z2) (bl_cons (PySem.W.mg_none_of X G z3) (bl_cons (PySem.W.mg_none_of X G z4) (bl_cons (PySem.W.mg_none_of X G z5) (bl_cons (PySem.W.mg_none_of X G z6) (bl_cons (PySem.W.mg_none_of X G z7) (bl_cons (PySem.W.mg_none_of X G z8) (bl_cons (PySem.W.mg_none_of X G z9) (bl_cons (PySem.W.mg_none_of X G z10) (bl_nil))))))))))), fun _ _ h => absurd h List.not_mem_nil, fun _ _ h => absurd h List.not_mem_nil, fun c x h => by simp [tab, tbOf] at h⟩
end K01
open PySem PySem.W PyProof.Rows
set_option maxRecDepth 100000 in
set_option maxHeartbeats 0 in
theorem PySem.Challenge.cw_casewood_k01_sums_holds : PySem.Challenge.rw_casewood_k01_sums.Holds := by
  w_on; o_law; k_head; (case hw => w_witness2)
  k_fill
  refine Cw.walk_law (l := PySem.Challenge.rw_casewood_k01_sums) (T := K01.tab) (rs := K01.recs) rfl rfl (fun w h Y => PySem.W.kIn_of Y) (i := K01.ix_law) rfl rfl K01.chk (adr := fun _ _ => 0) (fun ns _ => K01.e_law (n := 62)) ?F
  case F =>
    intro w mg h KX G
    refine' ⟨K01.top_mk KX G ?z0 ?z1 ?z2 ?z3 ?z4 ?z5 ?z6 ?z7 ?z8 ?z9 ?z10, Cw.rc_cons (Cw.at_mk KX G K01.bd_added ?a0 ?l0 ?c0 ?k0) (Cw.rc_cons (Cw.at_mk KX G K01.bd_scaled ?a1 ?l1 ?c1 ?k1) (Cw.rc_cons (Cw.at_mk KX G K01.bd_opposite ?a2 ?l2 ?c2 ?k2) (Cw.rc_cons (Cw.at_mk KX G K01.bd_comes_to ?a3 ?l3 ?c3 ?k3) (Cw.rc_cons (Cw.at_mk KX G K01.bd_is_open ?a4 ?l4 ?c4 ?k4) (Cw.rc_cons (Cw.at_mk KX G K01.bd__law_cell_at ?a5 ?l5 ?c5 ?k5) (Cw.rc_cons (Cw.at_mk KX G K01.bd__law_mixed ?a6 ?l6 ?c6 ?k6) (Cw.rc_cons (Cw.at_mk KX G K01.bd__law_whole ?a7 ?l7 ?c7 ?k7) (Cw.rc_cons (Cw.at_mk KX G K01.bd__law_number ?a8 ?l8 ?c8 ?k8) (Cw.rc_cons (Cw.at_mk KX G K01.bd__law_sum ?a9 ?l9 ?c9 ?k9) (Cw.rc_cons (Cw.at_mk KX G K01.bd__law_is ?a10 ?l10 ?c10 ?k10) (Cw.rc_cons (Cw.at_mk KX G K01.bd_law ?a11 ?l11 ?c11 ?k11) (Cw.rc_nil))))))))))))⟩
    (case z0 => k_is)
    (case z1 => k_is)
    (case z2 => k_is)
    (case z3 => k_is)
    (case z4 => k_is)
    (case z5 => k_is)
    (case z6 => k_is)
    (case z7 => k_is)
    (case z8 => k_is)
    (case z9 => k_is)
    (case z10 => k_is)
    (case a0 => k_is); (case l0 => k_is); (case c0 => k_is); (case k0 => k_is)
    (case a1 => k_is); (case l1 => k_is); (case c1 => k_is); (case k1 => k_is)
    (case a2 => k_is); (case l2 => k_is); (case c2 => k_is); (case k2 => k_is)
    (case a3 => k_is); (case l3 => k_is); (case c3 => k_is); (case k3 => k_is)
    (case a4 => k_is); (case l4 => k_is); (case c4 => k_is); (case k4 => k_is)
    (case a5 => k_is); (case l5 => k_is); (case c5 => k_is); (case k5 => k_is)
    (case a6 => k_is); (case l6 => k_is); (case c6 => k_is); (case k6 => k_is)
    (case a7 => k_is); (case l7 => k_is); (case c7 => k_is); (case k7 => k_is)
    (case a8 => k_is); (case l8 => k_is); (case c8 => k_is); (case k8 => k_is)
    (case a9 => k_is); (case l9 => k_is); (case c9 => k_is); (case k9 => k_is)
    (case a10 => k_is); (case l10 => k_is); (case c10 => k_is); (case k10 => k_is)
    (case a11 => k_is); (case l11 => k_is); (case c11 => k_is); (case k11 => k_is)
