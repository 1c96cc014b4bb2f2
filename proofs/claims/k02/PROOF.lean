import PyProof.Rows.All
import Wide.All
import OpenK.AllK
import Wide.FinOn
import HandS.ForMost
import HandS.Defaults
import HandS.IsInst
import HandS.Walk
import HandS.TupAny
import HandS.TupMul
import HandS.Zip
import HandS.Rev
import HandS.Exc
import HandS.WordsExc
import KE.KStateDown
import HandS.Head0
import HandS.Head1
import HandS.Head2
import HandS.HeadEnd
import HandS.HeadHook1
import HandS.HeadHook2
import PySem.Challenge.RW_viewsheets_k02_cells_of_looks
set_option Elab.async false
set_option linter.all false
set_option maxRecDepth 100000
set_option maxHeartbeats 2000000
namespace EV
open PySem PySem.Spec PyProof.Rows L2

/-! ### values, the store, results -/
/-- a value: data by what it is; an object of the store by its number -/
inductive AV where
  | non | bl (b : Bool) | int (i : Int) | str (x : Str)
  | tup (l : List AV) | lst (l : List AV) | scr (l : List Int) | loc (n : Nat)
inductive Ob where
  | lst (l : List AV)
structure Sto where
  fl : Nat
  ob : List Ob
/-- a result: a value, a list just made, a list that a name owns -/
inductive R where
  | v (a : AV) | tl (l : List AV) | bo (l : List AV)
inductive Rs (α : Type) where
  | ok (a : α) (s : Sto) | exc (c : Str) (fs : List AV) (s : Sto) | stuck
inductive Sl where
  | no | v (a : AV) | own (l : List AV)
abbrev Env := List Sl

def Rs.bind {α β : Type} (r : Rs α) (f : α → Sto → Rs β) : Rs β := match r with
  | .ok a s => f a s
  | .exc c fs s => .exc c fs s
  | .stuck => .stuck
def Rs.of {α : Type} (o : Option α) (s : Sto) : Rs α := match o with
  | some a => .ok a s
  | none => .stuck
@[simp] theorem Rs.bind_ok {α β : Type} (a : α) (s : Sto) (f : α → Sto → Rs β) : (Rs.ok a s).bind f = f a s := id rfl
@[simp] theorem Rs.bind_exc {α β : Type} (c : Str) (fs : List AV) (s : Sto) (f : α → Sto → Rs β) : (Rs.exc c fs s : Rs α).bind f = .exc c fs s := id rfl
@[simp] theorem Rs.bind_stuck {α β : Type} (f : α → Sto → Rs β) : (Rs.stuck : Rs α).bind f = .stuck := id rfl
@[simp] theorem Rs.of_some {α : Type} (a : α) (s : Sto) : Rs.of (some a) s = .ok a s := id rfl
@[simp] theorem Rs.of_none {α : Type} (s : Sto) : Rs.of (none : Option α) s = .stuck := id rfl

/-- a list just made is from now on a list that nobody writes -/
def fz : R → R
  | .tl l => .v (.lst l)
  | r => r

/-! ### the words of the language -/
inductive Bop where | add | sub | mul | fdiv | mod | pow
  deriving DecidableEq
inductive Cop where | eq | ne | lt | le | gt | ge | isn | notn | inn | notin
  deriving DecidableEq
inductive Ty where | int | bool | str | tuple | list
  deriving DecidableEq
inductive Bi where | len | sum | min | max | tuple | list
  deriving DecidableEq
inductive Tg where
  | nm (i : Nat) | tp (is : List Nat)

mutual
inductive E (F : Type) where
  | var (i : Nat)
  | cst (c : AV)
  | glb (x : Str) (c : AV)
  | tup (es : Es F)
  | lst (es : Es F)
  | bin (o : Bop) (a b : E F)
  | cmp (o : Cop) (a b : E F)
  | ch2 (o p : Cop) (a b c : E F)
  | ch3 (o p q : Cop) (a b c d : E F)
  | and (es : Es F)
  | or (es : Es F)
  | not (a : E F)
  | ife (c a b : E F)
  | sub (a i : E F)
  | slc (a : E F) (lo hi : OE F)
  | isi (a : E F) (t : Ty)
  | isis (a : E F) (ts : List Ty)
  | bi (f : Bi) (es : Es F)
  | call (f : F) (es : Es F)
  | lc (t : Tg) (it : It F) (c : OE F) (e : E F)
inductive Es (F : Type) where
  | nil | cons (e : E F) (es : Es F)
inductive OE (F : Type) where
  | none | some (e : E F)
inductive It (F : Type) where
  | seq (e : E F) | rng (n : Nat) (es : Es F) | rev (a : E F) | zip (es : Es F) | enum (es : Es F)
end

mutual
inductive S (F : Type) where
  | set (i : Nat) (e : E F)
  | own (i : Nat) (e : E F)
  | heap (i : Nat) (e : E F)
  | unp (is : List Nat) (e : E F)
  | mv (i j : Nat)
  | frz (i : Nat)
  | app (i : Nat) (e : E F)
  | ext (i : Nat) (e : E F)
  | putO (i : Nat) (k e : E F)
  | putL (a k e : E F)
  | appL (a e : E F)
  | expr (e : E F)
  | ret (e : E F)
  | retV (i : Nat)
  | retN
  | ife (c : E F) (a b : Ss F)
  | for_ (t : Tg) (it : It F) (b : Ss F)
  | never
inductive Ss (F : Type) where
  | nil | cons (s : S F) (ss : Ss F)
end
structure Fn (F : Type) where
  ps : Nat
  ns : Nat
  body : Ss F

/-! ### operations -/
def seqOf (s : Sto) : R → Option (List AV)
  | .v (.tup l) => some l
  | .v (.lst l) => some l
  | .v (.loc n) => match s.ob[n]? with
    | some (.lst l) => some l
    | none => none
  | .tl l => some l
  | .bo l => some l
  | .v (.scr l) => some (l.map .int)
  | _ => none
def isTup : R → Bool
  | .v (.tup _) => true
  | _ => false
mutual
/-- data without numbers of the store -/
def toD : AV → Option PyData
  | .non => some .none
  | .bl b => some (.bool b)
  | .int i => some (.int i)
  | .str x => some (.str x)
  | .tup l => (toDs l).map .tuple
  | .lst l => (toDs l).map .list
  | .scr l => some (.list (l.map .int))
  | .loc _ => none
def toDs : List AV → Option (List PyData)
  | [] => some []
  | a :: l => match toD a, toDs l with
    | some d, some ds => some (d :: ds)
    | _, _ => none
end
def dat (s : Sto) : R → Option PyData
  | .v (.loc n) => match s.ob[n]? with
    | some (.lst l) => (toDs l).map .list
    | none => none
  | .v a => toD a
  | .tl l => (toDs l).map .list
  | .bo l => (toDs l).map .list
def eqR (s : Sto) (x y : R) : Option Bool := match dat s x, dat s y with
  | some d, some e => if SeqAt.shaped d && SeqAt.shaped e then some (PyData.eqv d e) else none
  | _, _ => none
def isNon : R → Bool
  | .v .non => true
  | _ => false
def flatA : AV → Bool
  | .non => true
  | .bl _ => true
  | .int _ => true
  | .str _ => true
  | _ => false
def cmpR (s : Sto) : Cop → R → R → Option Bool
  | .eq, x, y => eqR s x y
  | .ne, x, y => (eqR s x y).map (!·)
  | .isn, x, .v .non => some (isNon x)
  | .notn, x, .v .non => some (!isNon x)
  | .lt, .v (.int i), .v (.int j) => some (decide (i < j))
  | .le, .v (.int i), .v (.int j) => some (decide (i ≤ j))
  | .gt, .v (.int i), .v (.int j) => some (decide (j < i))
  | .ge, .v (.int i), .v (.int j) => some (decide (j ≤ i))
  | _, _, _ => none
def mulOk (i j : Int) : Bool := decide (-(2 ^ 64) < i ∧ i < 2 ^ 64) || decide (-(2 ^ 64) < j ∧ j < 2 ^ 64)
def binR (s : Sto) : Bop → R → R → Option R
  | .add, .v (.int i), .v (.int j) => some (.v (.int (i + j)))
  | .sub, .v (.int i), .v (.int j) => some (.v (.int (i - j)))
  | .mul, .v (.int i), .v (.int j) => if mulOk i j then some (.v (.int (i * j))) else none
  | .fdiv, .v (.int i), .v (.int j) => if decide (0 < j) && decide (j < 1073741824) then some (.v (.int (i / j))) else none
  | .mod, .v (.int i), .v (.int j) => if decide (0 < j) then some (.v (.int (i % j))) else none
  | .pow, .v (.int i), .v (.int j) => if decide (0 ≤ j) && decide (j ≤ 1000000) && decide (i.natAbs < 2 ^ 64) then some (.v (.int (i ^ j.toNat))) else none
  | .add, .v (.tup a), .v (.tup b) => if decide (a.length + b.length ≤ sizeLine) then some (.v (.tup (a ++ b))) else none
  | .add, .v (.str a), .v (.str b) => if decide (a.length + b.length ≤ sizeLine) then some (.v (.str (a ++ b))) else none
  | _, _, _ => none
def subR (s : Sto) (x y : R) : Option R := match y with
  | .v (.int i) => match seqOf s x with
    | some l => (atI l i).map .v
    | none => match x with
      | .v (.str z) => if decide (z.length ≤ sizeLine) then (atI z.cps.toList i).map fun c => .v (.str ⟨#[c]⟩) else none
      | _ => none
  | _ => none
/-- the items of xs[lo:hi] -/
def cutA {A : Type} (xs : List A) (lo hi : Option Int) : List A := (xs.drop (HT.sIx xs.length 0 lo)).take (HT.sIx xs.length xs.length hi - HT.sIx xs.length 0 lo)
def slcR (s : Sto) (x : R) (l h : Option Int) : Option R := match x with
  | .v (.tup xs) => some (.v (.tup (cutA xs l h)))
  | .v (.str z) => if decide (z.length ≤ sizeLine) then some (.v (.str (cutS z l h))) else none
  | x => match seqOf s x with
    | some xs => some (.tl (cutA xs l h))
    | none => none
/-- kinds of values -/
inductive Kd where | non | bool | int | str | tuple | list
  deriving DecidableEq
def kdOf (s : Sto) : R → Option Kd
  | .v .non => some .non
  | .v (.bl _) => some .bool
  | .v (.int _) => some .int
  | .v (.str _) => some .str
  | .v (.tup _) => some .tuple
  | .v (.lst _) => some .list
  | .v (.scr _) => some .list
  | .v (.loc n) => match s.ob[n]? with
    | some (.lst _) => some .list
    | none => none
  | .tl _ => some .list
  | .bo _ => some .list
def kdOk : Kd → Ty → Bool
  | .int, .int => true
  | .bool, .int => true
  | .bool, .bool => true
  | .str, .str => true
  | .tuple, .tuple => true
  | .list, .list => true
  | _, _ => false
def intsOf : List AV → Option (List Int)
  | [] => some []
  | .int i :: l => (intsOf l).map (i :: ·)
  | _ :: _ => none
def biR (s : Sto) : Bi → List R → Option R
  | .len, [x] => match seqOf s x with
    | some l => some (.v (.int l.length))
    | none => match x with
      | .v (.str z) => if decide (z.length ≤ sizeLine) then some (.v (.int z.length)) else none
      | _ => none
  | .sum, [x] => if isTup x then none else match seqOf s x with
    | some l => (intsOf l).map fun ns => .v (.int ns.sum)
    | none => none
  | .min, [.v (.int i), .v (.int j)] => some (.v (.int (if j < i then j else i)))
  | .max, [.v (.int i), .v (.int j)] => some (.v (.int (if j > i then j else i)))
  | .tuple, [x] => match seqOf s x with
    | some l => if isTup x then some (.v (.tup l)) else some (.v (.tup l))
    | none => none
  | .list, [x] => match seqOf s x with
    | some l => some (.tl l)
    | none => none
  | _, _ => none
/-- what a walk gives, turn by turn -/
def seqV : AV → Option (List AV)
  | .tup l => some l
  | .lst l => some l
  | .scr l => some (l.map .int)
  | _ => none
def itV : AV → Option (List AV)
  | .str z => some (z.cps.toList.map fun c => .str ⟨#[c]⟩)
  | .tup l => some l
  | .lst l => some l
  | .scr l => some (l.map .int)
  | _ => none
def isTupA : AV → Bool
  | .tup _ => true
  | _ => false
def smallI (i : Int) : Bool := decide (-(2 ^ 62) ≤ i) && decide (i < 2 ^ 62)
def rngL (a b : Int) : List AV := (List.range (b - a).toNat).map fun (k : Nat) => .int (a + k)
def rngR : Nat → List R → Option (List AV)
  | 1, [.v (.int j)] => if smallI j then some (rngL 0 j) else none
  | 2, [.v (.int i), .v (.int j)] => if smallI i && smallI j then some (rngL i j) else none
  | 3, [.v (.int i), .v (.int j), .v (.int c)] => if decide (c ≠ 0) && decide (c.natAbs < 1073741824) && Builtin.Range.small i j c && decide (0 ≤ Builtin.Range.rangeSize i j c) then some ((List.range (Builtin.Range.rangeSize i j c).toNat).map fun (k : Nat) => .int (i + k * c)) else none
  | _, _ => none
def zipR : List R → Option (List AV)
  | [.v a, .v b] => match seqV a, seqV b with
    | some l, some m => if isTupA a == isTupA b then some ((l.zip m).map fun p => .tup [p.1, p.2]) else none
    | _, _ => none
  | _ => none
def enumR : List R → Option (List AV)
  | [.v a] => match seqV a with
    | some l => if isTupA a then none else some (((List.range l.length).zip l).map fun p => .tup [.int (p.1 : Nat), p.2])
    | none => none
  | _ => none

/-! ### the evaluation -/
def setT (env : Env) : Tg → AV → Option Env
  | .nm i, a => some (env.set i (.v a))
  | .tp is, .tup l => if is.length = l.length then some ((is.zip l).foldl (fun e p => e.set p.1 (.v p.2)) env) else none
  | _, _ => none
def wipeT (env : Env) : Tg → Env
  | .nm i => env.set i .no
  | .tp is => is.foldl (fun e i => e.set i .no) env
def rd (env : Env) (i : Nat) : Option R := match env[i]? with
  | some (.v a) => some (.v a)
  | some (.own l) => some (.bo l)
  | _ => none
abbrev Cf (F : Type) := F → List AV → Sto → Rs R
def toA : R → Option AV
  | .v a => some a
  | _ => none
def toAs : List R → Option (List AV)
  | [] => some []
  | r :: l => match toA r, toAs l with
    | some a, some as => some (a :: as)
    | _, _ => none
/-- a comprehension's loop -/
def lcL (f : AV → Sto → Rs (Option AV)) : List AV → List AV → Sto → Rs (List AV)
  | acc, [], s => .ok acc s
  | acc, x :: l, s => (f x s).bind fun o s => match o with
    | some a => if acc.length < sizeLine then lcL f (acc ++ [a]) l s else .stuck
    | none => lcL f acc l s
/-- no exception leaves -/
def noX {α : Type} : Rs α → Rs α
  | .exc _ _ _ => .stuck
  | r => r
def bl? : R → Option Bool
  | .v (.bl b) => some b
  | _ => none
section
variable {F : Type} (C : Cf F)
mutual
def ev (env : Env) : E F → Sto → Rs R
  | .var i, s => .of (rd env i) s
  | .cst c, s => .ok (.v c) s
  | .glb _ c, s => .ok (.v c) s
  | .tup es, s => (evs env es s).bind fun rs s => .of ((toAs rs).bind fun l => if l.length ≤ sizeLine then some (.v (.tup l)) else none) s
  | .lst es, s => (evs env es s).bind fun rs s => .of ((toAs rs).bind fun l => if l.length ≤ sizeLine then some (.tl l) else none) s
  | .bin o a b, s => (ev env a s).bind fun x s => (ev env b s).bind fun y s => .of (binR s o (fz x) (fz y)) s
  | .cmp o a b, s => (ev env a s).bind fun x s => (ev env b s).bind fun y s => .of ((cmpR s o (fz x) (fz y)).map fun k => .v (.bl k)) s
  | .ch2 o p a b c, s => (ev env a s).bind fun x s => (ev env b s).bind fun y s => (Rs.of (cmpR s o (fz x) (fz y)) s).bind fun k s => match k with
    | false => .ok (.v (.bl false)) s
    | true => (ev env c s).bind fun z s => .of ((cmpR s p (fz y) (fz z)).map fun k => .v (.bl k)) s
  | .ch3 o p q a b c d, s => (ev env a s).bind fun x s => (ev env b s).bind fun y s => (Rs.of (cmpR s o (fz x) (fz y)) s).bind fun k s => match k with
    | false => .ok (.v (.bl false)) s
    | true => (ev env c s).bind fun z s => (Rs.of (cmpR s p (fz y) (fz z)) s).bind fun k s => match k with
      | false => .ok (.v (.bl false)) s
      | true => (ev env d s).bind fun u s => .of ((cmpR s q (fz z) (fz u)).map fun k => .v (.bl k)) s
  | .and es, s => evAnd env es s
  | .or es, s => evOr env es s
  | .not a, s => (ev env a s).bind fun x s => .of ((bl? x).map fun k => .v (.bl (!k))) s
  | .ife c a b, s => (ev env c s).bind fun x s => (Rs.of (bl? x) s).bind fun k s => match k with
    | true => ev env a s
    | false => ev env b s
  | .sub a i, s => (ev env a s).bind fun x s => (ev env i s).bind fun y s => .of (subR s (fz x) (fz y)) s
  | .slc a lo hi, s => (ev env a s).bind fun x s => (evo env lo s).bind fun l s => (evo env hi s).bind fun h s => .of (slcR s (fz x) l h) s
  | .isi a t, s => (ev env a s).bind fun x s => .of ((kdOf s x).map fun d => .v (.bl (kdOk d t))) s
  | .isis a ts, s => (ev env a s).bind fun x s => .of ((kdOf s x).map fun d => .v (.bl (ts.any fun t => kdOk d t))) s
  | .bi f es, s => (evs env es s).bind fun rs s => .of (biR s f rs) s
  | .call f es, s => (evs env es s).bind fun rs s => (Rs.of (toAs rs) s).bind fun l s => C f l s
  | .lc t it c e, s => (evi env it s).bind fun l s => (lcL (fun x s => (Rs.of (setT (wipeT env t) t x) s).bind fun env1 s => noX ((evc env1 c s).bind fun k s => match k with
      | false => .ok none s
      | true => (ev env1 e s).bind fun r s => (Rs.of (toA (fz r)) s).bind fun a s => .ok (some a) s)) [] l s).bind fun l s => .ok (.tl l) s
def evs (env : Env) : Es F → Sto → Rs (List R)
  | .nil, s => .ok [] s
  | .cons e es, s => (ev env e s).bind fun r s => (evs env es s).bind fun l s => .ok (fz r :: l) s
def evo (env : Env) : OE F → Sto → Rs (Option Int)
  | .none, s => .ok none s
  | .some e, s => (ev env e s).bind fun r s => match r with
    | .v (.int i) => .ok (some i) s
    | _ => .stuck
def evc (env : Env) : OE F → Sto → Rs Bool
  | .none, s => .ok true s
  | .some e, s => (ev env e s).bind fun r s => .of (bl? r) s
def evAnd (env : Env) : Es F → Sto → Rs R
  | .nil, _ => .stuck
  | .cons e .nil, s => (ev env e s).bind fun r s => .of ((bl? r).map fun k => .v (.bl k)) s
  | .cons e es, s => (ev env e s).bind fun x s => (Rs.of (bl? x) s).bind fun k s => match k with
    | true => evAnd env es s
    | false => .ok (.v (.bl false)) s
def evOr (env : Env) : Es F → Sto → Rs R
  | .nil, _ => .stuck
  | .cons e .nil, s => (ev env e s).bind fun r s => .of ((bl? r).map fun k => .v (.bl k)) s
  | .cons e es, s => (ev env e s).bind fun x s => (Rs.of (bl? x) s).bind fun k s => match k with
    | true => .ok (.v (.bl true)) s
    | false => evOr env es s
/-- what a walk gives -/
def evi (env : Env) : It F → Sto → Rs (List AV)
  | .seq e, s => (ev env e s).bind fun x s => .of ((toA (fz x)).bind itV) s
  | .rng n es, s => (evs env es s).bind fun rs s => .of (rngR n rs) s
  | .rev a, s => (ev env a s).bind fun x s => .of ((toA (fz x)).bind fun a => (seqV a).map List.reverse) s
  | .zip es, s => (evs env es s).bind fun rs s => .of (zipR rs) s
  | .enum es, s => (evs env es s).bind fun rs s => .of (enumR rs) s
end

/-- what a statement ends with -/
inductive Fl where
  | nx | rt (r : R)
def wr (s : Sto) (n : Nat) (f : List AV → Option (List AV)) : Option Sto := if n < s.fl then none else match s.ob[n]? with
  | some (.lst l) => (f l).map fun l' => { s with ob := s.ob.set n (.lst l') }
  | none => none
def isLoc (s : Sto) : R → Option Nat
  | .v (.loc n) => match s.ob[n]? with
    | some (.lst _) => some n
    | none => none
  | _ => none
/-- a loop's turns -/
def forL (f : Env → AV → Sto → Rs (Fl × Env)) : List AV → Env → Sto → Rs (Fl × Env)
  | [], env, s => .ok (.nx, env) s
  | x :: l, env, s => (f env x s).bind fun p s => match p.1 with
    | .nx => forL f l p.2 s
    | .rt r => .ok (.rt r, p.2) s
mutual
def ex (env : Env) : S F → Sto → Rs (Fl × Env)
  | .set i e, s => (ev C env e s).bind fun r s => (Rs.of (toA (fz r)) s).bind fun a s => .ok (.nx, env.set i (.v a)) s
  | .own i e, s => (ev C env e s).bind fun r s => match r with
    | .tl l => .ok (.nx, env.set i (.own l)) s
    | _ => .stuck
  | .heap i e, s => (ev C env e s).bind fun r s => match r with
    | .tl l => .ok (.nx, env.set i (.v (.loc s.ob.length))) { s with ob := s.ob ++ [.lst l] }
    | _ => .stuck
  | .unp is e, s => (ev C env e s).bind fun r s => match r with
    | .v (.tup l) => if is.length = l.length then .ok (.nx, (is.zip l).foldl (fun e p => e.set p.1 (.v p.2)) env) s else .stuck
    | _ => .stuck
  | .mv i j, s => match env[j]? with
    | some (.own l) => .ok (.nx, (env.set j .no).set i (.v (.lst l))) s
    | _ => .stuck
  | .frz i, s => match env[i]? with
    | some (.own l) => .ok (.nx, env.set i (.v (.lst l))) s
    | _ => .stuck
  | .app i e, s => match env[i]? with
    | some (.own l) => (ev C env e s).bind fun r s => (Rs.of (toA (fz r)) s).bind fun a s => if l.length < sizeLine then .ok (.nx, env.set i (.own (l ++ [a]))) s else .stuck
    | _ => .stuck
  | .ext i e, s => match env[i]? with
    | some (.own l) => (ev C env e s).bind fun r s => match fz r with
      | .v (.lst m) => if l.length + m.length ≤ sizeLine then .ok (.nx, env.set i (.own (l ++ m))) s else .stuck
      | _ => .stuck
    | _ => .stuck
  | .putO i k e, s => (ev C env e s).bind fun r s => (Rs.of (toA (fz r)) s).bind fun a s => match env[i]? with
    | some (.own l) => (ev C env k s).bind fun y s => match y with
      | .v (.int j) => (match ixN l.length j with
        | some n => .ok (.nx, env.set i (.own (l.set n a))) s
        | none => .stuck)
      | _ => .stuck
    | _ => .stuck
  | .putL o k e, s => (ev C env e s).bind fun r s => (Rs.of (toA (fz r)) s).bind fun a s => (ev C env o s).bind fun x s => (ev C env k s).bind fun y s => match x, y with
    | .v (.loc n), .v (.int j) => (Rs.of (wr s n fun l => (ixN l.length j).map fun m => l.set m a) s).bind fun s' _ => .ok (.nx, env) s'
    | _, _ => .stuck
  | .appL o e, s => (ev C env o s).bind fun x s => match isLoc s x with
    | some n => (ev C env e s).bind fun r s => (Rs.of (toA (fz r)) s).bind fun a s => (Rs.of (wr s n fun l => if l.length < sizeLine then some (l ++ [a]) else none) s).bind fun s' _ => .ok (.nx, env) s'
    | none => .stuck
  | .expr e, s => (ev C env e s).bind fun _ s => .ok (.nx, env) s
  | .ret e, s => (ev C env e s).bind fun r s => match r with
    | .bo _ => .stuck
    | r => .ok (.rt r, env) s
  | .retV i, s => match env[i]? with
    | some (.own l) => .ok (.rt (.tl l), env) s
    | _ => .stuck
  | .retN, s => .ok (.rt (.v .non), env) s
  | .ife c a b, s => (ev C env c s).bind fun r s => (Rs.of (bl? r) s).bind fun k s => match k with
    | true => exs env a s
    | false => exs env b s
  | .for_ t it b, s => (evi C env it s).bind fun l s => forL (fun env x s => (Rs.of (setT env t x) s).bind fun env s => exs env b s) l env s
  | .never, _ => .stuck
def exs (env : Env) : Ss F → Sto → Rs (Fl × Env)
  | .nil, s => .ok (.nx, env) s
  | .cons st ss, s => (ex env st s).bind fun p s => match p.1 with
    | .nx => exs p.2 ss s
    | .rt r => .ok (.rt r, p.2) s
end
end

def call {F : Type} (tb : F → Fn F) : Nat → Cf F
  | 0, _, _, _ => .stuck
  | d + 1, f, l, s => if l.length = (tb f).ps then (exs (call tb d) (l.map .v ++ List.replicate ((tb f).ns - (tb f).ps) .no) (tb f).body s).bind fun p s => match p.1 with
      | .nx => .ok (.v .non) s
      | .rt r => .ok r s
    else .stuck
end EV

set_option maxRecDepth 100000
set_option maxHeartbeats 2000000
namespace EV
open PySem PySem.Spec PyProof.Rows L2
/-! ### the words against the text -/
def tyName : Ty → String
  | .int => "int" | .bool => "bool" | .str => "str" | .tuple => "tuple" | .list => "list"
def biName : Bi → Str
  | .len => "len" | .sum => "sum" | .min => "min" | .max => "max" | .tuple => "tuple" | .list => "list"
def bopOp : Bop → Operator
  | .add => .Add | .sub => .Sub | .mul => .Mult | .fdiv => .FloorDiv | .mod => .Mod | .pow => .Pow
def copOp : Cop → CmpOp
  | .eq => .Eq | .ne => .NotEq | .lt => .Lt | .le => .LtE | .gt => .Gt | .ge => .GtE | .isn => .Is | .notn => .IsNot | .inn => .In | .notin => .NotIn
def visB (sc : Scope) (x : Str) : Bool := match sc.names.lookup x with
  | some .local => true
  | some .cell => true
  | some .free => true
  | _ => false
def gloB (sc : Scope) (x : Str) : Bool := decide (sc.names.lookup x = some .globalImplicit) && !(x == ("__debug__" : Str)) && !(x == ("__name__" : Str))
def locB (fnB : Bool) (sc : Scope) (x : Str) : Bool := match sc.names.lookup x with
  | some .local => true
  | some .cell => fnB
  | _ => false
def cstB : AV → Const → Bool
  | .non, .none => true
  | .bl b, .bool c => b == c
  | .int i, .int j => decide (i = j)
  | .str x, .str y => decide (x = y)
  | _, _ => false
def nameB (N : List Str) (fnB : Bool) (sc : Scope) (i : Nat) : Expr → Bool
  | .Name x _ => decide (N[i]? = some x) && locB fnB sc x
  | _ => false
def namesB (N : List Str) (fnB : Bool) (sc : Scope) : List Nat → List Expr → Bool
  | [], [] => true
  | i :: is, e :: es => nameB N fnB sc i e && namesB N fnB sc is es
  | _, _ => false
def tgB (N : List Str) (fnB : Bool) (sc : Scope) : Tg → Expr → Bool
  | .nm i, e => nameB N fnB sc i e
  | .tp is, .Tuple es _ _ => namesB N fnB sc is es
  | _, _ => false
def slots : Tg → List Nat
  | .nm i => [i]
  | .tp is => is
def ownOf (N : List Str) (t : Tg) : List (Str × Nat) := (slots t).map fun i => (N.getD i Str.empty, i)
def isTyName (sc : Scope) (t : Ty) : Expr → Bool
  | .Name x _ => decide (x = Str.ofString (tyName t)) && gloB sc x
  | _ => false
def tyNames (sc : Scope) : List Ty → List Expr → Bool
  | [], [] => true
  | t :: ts, e :: es => isTyName sc t e && tyNames sc ts es
  | _, _ => false
def itTg {F : Type} : It F → Expr → Bool
  | .zip _, .Tuple _ _ _ => true
  | .enum _, .Tuple _ _ _ => true
  | .zip _, _ => false
  | .enum _, _ => false
  | _, _ => true
mutual
/-- may stand as a test -/
def tst {F : Type} : E F → Bool
  | .ife _ _ _ => false
  | .not a => tst a
  | .and es => tsts es
  | .or es => tsts es
  | _ => true
def tsts {F : Type} : Es F → Bool
  | .nil => true
  | .cons e es => tst e && tsts es
end
section
variable {F : Type} (nm : F → Str) (cs : List (Str × Const)) (N : List Str)
mutual
def okE (sc : Scope) : E F → Expr → Bool
  | .var i, .Name x _ => decide (N[i]? = some x) && visB sc x && !(x == ("__debug__" : Str)) && !(x == ("__classdict__" : Str))
  | .cst c, .Constant k _ _ => cstB c k
  | .glb x c, .Name y _ => decide (x = y) && gloB sc y && (match cs.lookup x with
    | some k => cstB c k
    | none => false)
  | .tup es, .Tuple xs _ _ => okEs sc es xs
  | .lst es, .List xs _ => okEs sc es xs
  | .bin o a b, .BinOp x q y _ => decide (q = bopOp o) && okE sc a x && okE sc b y
  | .cmp o a b, .Compare x [q] [y] _ => decide (q = copOp o) && okE sc a x && okE sc b y
  | .ch2 o p a b c, .Compare x [q, r] [y, z] _ => decide (q = copOp o) && decide (r = copOp p) && okE sc a x && okE sc b y && okE sc c z
  | .ch3 o p q a b c d, .Compare x [o', p', q'] [y, z, u] _ => decide (o' = copOp o) && decide (p' = copOp p) && decide (q' = copOp q) && okE sc a x && okE sc b y && okE sc c z && okE sc d u
  | .and es, .BoolOp .And xs _ => okEs sc es xs
  | .or es, .BoolOp .Or xs _ => okEs sc es xs
  | .not a, .UnaryOp .Not x _ => okE sc a x
  | .ife c a b, .IfExp z x y _ => tst c && okE sc c z && okE sc a x && okE sc b y
  | .slc a lo hi, .Subscript x (.Slice l h none _) _ => okE sc a x && okO sc lo l && okO sc hi h
  | .sub a i, .Subscript x y _ => okE sc a x && okE sc i y
  | .isi a t, .Call (.Name f _) [x, y] [] _ => decide (f = ("isinstance" : Str)) && gloB sc f && okE sc a x && isTyName sc t y
  | .isis a ts, .Call (.Name f _) [x, .Tuple ys _ _] [] _ => decide (ts.length ≤ sizeLine) && decide (f = ("isinstance" : Str)) && gloB sc f && okE sc a x && tyNames sc ts ys
  | .bi f es, .Call (.Name g _) (x :: xs) [] _ => decide (g = biName f) && gloB sc g && okEs sc es (x :: xs)
  | .call f es, .Call (.Name g _) (x :: xs) [] _ => decide (g = nm f) && gloB sc g && okEs sc es (x :: xs)
  | .lc t it c e, .ListComp elt [⟨tg, iter, ifs, asy⟩] scope _ => decide (asy = 0) && okI sc it iter && blkC N sc scope (ownOf N t) && tgB N false (relS scope sc) t tg && okC (relS scope sc) c ifs && okE (relS scope sc) e elt && itTg it tg
  | _, _ => false
def okEs (sc : Scope) : Es F → List Expr → Bool
  | .nil, [] => true
  | .cons e es, x :: xs => okE sc e x && okEs sc es xs
  | _, _ => false
def okO (sc : Scope) : OE F → Option Expr → Bool
  | .none, none => true
  | .some e, some x => okE sc e x
  | _, _ => false
def okI (sc : Scope) : It F → Expr → Bool
  | .seq e, x => okE sc e x
  | .rng n es, .Call (.Name g _) (x :: xs) [] _ => decide (xs.length + 1 = n ∧ n ≤ 3) && decide (g = ("range" : Str)) && gloB sc g && okEs sc es (x :: xs)
  | .rev a, .Call (.Name g _) [x] [] _ => decide (g = ("reversed" : Str)) && gloB sc g && okE sc a x
  | .zip es, .Call (.Name g _) [x, y] [] _ => decide (g = ("zip" : Str)) && gloB sc g && okEs sc es [x, y]
  | .enum es, .Call (.Name g _) [x] [] _ => decide (g = ("enumerate" : Str)) && gloB sc g && okEs sc es [x]
  | _, _ => false
def okC (sc : Scope) : OE F → List Expr → Bool
  | .none, [] => true
  | .some e, [x] => tst e && okE sc e x
  | _, _ => false
end
def isCall : Expr → Bool
  | .Call _ _ _ _ => true
  | _ => false
def isTupE : Expr → Bool
  | .Tuple _ _ _ => true
  | .ListComp _ _ _ _ => true
  | .SetComp _ _ _ _ => true
  | .DictComp _ _ _ _ _ => true
  | _ => false
def name1 : List Expr → Option (Str × Pos)
  | [.Name x p] => some (x, p)
  | _ => none
theorem name1_ok {ts : List Expr} {x : Str} {p : Pos} (h : name1 ts = some (x, p)) : ts = [.Name x p] := by
  unfold name1 at h
  split at h
  · cases h; rfl
  · cases h
def sub1 : List Expr → Option (Expr × Expr × Pos)
  | [.Subscript x y p] => some (x, y, p)
  | _ => none
theorem sub1_ok {ts : List Expr} {x y : Expr} {p : Pos} (h : sub1 ts = some (x, y, p)) : ts = [.Subscript x y p] := by
  unfold sub1 at h
  split at h
  · cases h; rfl
  · cases h
def tup1 : List Expr → Option (List Expr × Nat × Pos)
  | [.Tuple es k p] => some (es, k, p)
  | _ => none
theorem tup1_ok {ts es : List Expr} {k : Nat} {p : Pos} (h : tup1 ts = some (es, k, p)) : ts = [.Tuple es k p] := by
  unfold tup1 at h
  split at h
  · cases h; rfl
  · cases h
/-- x.a(v) -/
def meth1 : Expr → Option (Expr × Str × Pos × Expr × Pos)
  | .Call (.Attribute x a ap) [v] [] cp => some (x, a, ap, v, cp)
  | _ => none
theorem meth1_ok {e x v : Expr} {a : Str} {ap cp : Pos} (h : meth1 e = some (x, a, ap, v, cp)) : e = .Call (.Attribute x a ap) [v] [] cp := by
  unfold meth1 at h
  split at h
  · cases h; rfl
  · cases h
section
variable {F : Type} (nm : F → Str) (cs : List (Str × Const)) (N : List Str)
mutual
def okS (sc : Scope) : S F → Stmt → Bool
  | .set i e, .Assign ts v _ => (match name1 ts with
    | some (x, p) => nameB N true sc i (.Name x p) && okE nm cs N sc e v
    | none => false)
  | .own i e, .Assign ts v _ => (match name1 ts with
    | some (x, p) => nameB N true sc i (.Name x p) && okE nm cs N sc e v
    | none => false)
  | .heap i e, .Assign ts v _ => (match name1 ts with
    | some (x, p) => nameB N true sc i (.Name x p) && okE nm cs N sc e v
    | none => false)
  | .mv i j, .Assign ts v _ => (match name1 ts with
    | some (x, p) => nameB N true sc i (.Name x p) && okE nm cs N sc (.var j) v
    | none => false)
  | .unp is e, .Assign ts v _ => (match tup1 ts with
    | some (es, _, _) => namesB N true sc is es && !isTupE v && okE nm cs N sc e v
    | none => false)
  | .putO i k e, .Assign ts v _ => (match sub1 ts with
    | some (x, y, _) => okE nm cs N sc (.var i) x && okE nm cs N sc k y && !isTupE v && okE nm cs N sc e v
    | none => false)
  | .putL o k e, .Assign ts v _ => (match sub1 ts with
    | some (x, y, _) => okE nm cs N sc o x && okE nm cs N sc k y && !isTupE v && okE nm cs N sc e v
    | none => false)
  | .app i e, .Expr c _ => (match meth1 c with
    | some (x, a, ap, v, cp) => (ap.endLine == cp.line) && decide (a = ("append" : Str)) && okE nm cs N sc (.var i) x && okE nm cs N sc e v
    | none => false)
  | .ext i e, .Expr c _ => (match meth1 c with
    | some (x, a, ap, v, cp) => (ap.endLine == cp.line) && decide (a = ("extend" : Str)) && okE nm cs N sc (.var i) x && okE nm cs N sc e v
    | none => false)
  | .appL o e, .Expr c _ => (match meth1 c with
    | some (x, a, ap, v, cp) => (ap.endLine == cp.line) && decide (a = ("append" : Str)) && okE nm cs N sc o x && okE nm cs N sc e v
    | none => false)
  | .expr e, .Expr v _ => isCall v && okE nm cs N sc e v
  | .ret e, .Return (some v) _ => okE nm cs N sc e v
  | .retV i, .Return (some v) _ => okE nm cs N sc (.var i) v
  | .retN, .Return none _ => true
  | .ife c a b, .If z x y _ => tst c && okE nm cs N sc c z && okSs sc a x && okSs sc b y
  | .for_ t it b, .For tg iter body [] _ => tgB N true sc t tg && okI nm cs N sc it iter && okSs sc b body && itTg it tg
  | .never, _ => true
  | _, _ => false
def okSs (sc : Scope) : Ss F → List Stmt → Bool
  | .nil, [] => true
  | .cons (.frz _) ss, xs => okSs sc ss xs
  | .cons s ss, x :: xs => okS sc s x && okSs sc ss xs
  | _, _ => false
end
def nodupB : List Str → Bool
  | [] => true
  | x :: l => !(l.contains x) && nodupB l
end
end
end EV

set_option maxRecDepth 100000
set_option maxHeartbeats 2000000
namespace EV
open PySem PySem.Spec PyProof.Rows L2
/-! ### worlds -/
/-- where the objects of the store stand; addresses that no value may name as a list; the store; the heap -/
structure Wd where
  ro : List Addr
  fb : List Addr
  st : Sto
  H : Hp
/-- the script: frozen, or written -/
def ScrAt (K : PySem.W.Frag) (H : Hp) (a : Addr) (xs : List V) : Prop := (∃ o, H a = some (.frz o (.lst xs))) ∨
    ∃ (o : Obj) (its : Array Value) (n : Nat), K.lookup a = some o ∧ o.cls = .type "list" ∧ o.dict = none ∧ o.data = .seq its n ∧ its.size ≤ sizeLine ∧ Vals xs its.toList
theorem ScrAt.sq {K : PySem.W.Frag} {H : Hp} {a : Addr} {xs : List V} (h : ScrAt K H a xs) : SqL K H a xs := by
  rcases h with ⟨o, h⟩ | h
  · exact .inl (.inr ⟨o, h⟩)
  · exact .inr h
mutual
inductive RA (K : PySem.W.Frag) (ro fb : List Addr) (H : Hp) : AV → V → Prop
  | non : RA K ro fb H .non .non
  | bl (b : Bool) : RA K ro fb H (.bl b) (.bl b)
  | int (i : Int) : RA K ro fb H (.int i) (.int i)
  | str (x : Str) : RA K ro fb H (.str x) (.str x)
  | tup {a : Addr} {vs : List V} {l : List AV} : SqT K H a vs → RAs K ro fb H l vs → RA K ro fb H (.tup l) (.ref a)
  | lst {a : Addr} {vs : List V} {l : List AV} : H a = some (.lst vs) → a ∉ fb → RAs K ro fb H l vs → RA K ro fb H (.lst l) (.ref a)
  | scr {a : Addr} {l : List Int} : ScrAt K H a (l.map V.int) → RA K ro fb H (.scr l) (.ref a)
  | loc {a : Addr} {n : Nat} : ro[n]? = some a → RA K ro fb H (.loc n) (.ref a)
inductive RAs (K : PySem.W.Frag) (ro fb : List Addr) (H : Hp) : List AV → List V → Prop
  | nil : RAs K ro fb H [] []
  | cons {a : AV} {v : V} {l : List AV} {vs : List V} : RA K ro fb H a v → RAs K ro fb H l vs → RAs K ro fb H (a :: l) (v :: vs)
end
section
variable {K : PySem.W.Frag} {ro ro' fb fb' : List Addr} {H H' : Hp}
mutual
theorem RA.mono (hT : ∀ a vs, SqT K H a vs → SqT K H' a vs) (hL : ∀ a vs, H a = some (.lst vs) → a ∉ fb → H' a = some (.lst vs) ∧ a ∉ fb') (hS : ∀ a vs, ScrAt K H a vs → ScrAt K H' a vs)
    (hr : ∀ (n : Nat) (a : Addr), ro[n]? = some a → ro'[n]? = some a) : ∀ (x : AV) (v : V), RA K ro fb H x v → RA K ro' fb' H' x v
  | .non, _, h => by cases h; exact .non
  | .bl _, _, h => by cases h; exact .bl _
  | .int _, _, h => by cases h; exact .int _
  | .str _, _, h => by cases h; exact .str _
  | .tup l, _, h => by
    cases h with
    | tup h1 h2 => exact .tup (hT _ _ h1) (RAs.mono hT hL hS hr l _ h2)
  | .lst l, _, h => by
    cases h with
    | lst h1 h2 h3 => exact .lst (hL _ _ h1 h2).1 (hL _ _ h1 h2).2 (RAs.mono hT hL hS hr l _ h3)
  | .scr _, _, h => by
    cases h with
    | scr h1 => exact .scr (hS _ _ h1)
  | .loc _, _, h => by
    cases h with
    | loc h1 => exact .loc (hr _ _ h1)
theorem RAs.mono (hT : ∀ a vs, SqT K H a vs → SqT K H' a vs) (hL : ∀ a vs, H a = some (.lst vs) → a ∉ fb → H' a = some (.lst vs) ∧ a ∉ fb') (hS : ∀ a vs, ScrAt K H a vs → ScrAt K H' a vs)
    (hr : ∀ (n : Nat) (a : Addr), ro[n]? = some a → ro'[n]? = some a) : ∀ (l : List AV) (vs : List V), RAs K ro fb H l vs → RAs K ro' fb' H' l vs
  | [], _, h => by cases h; exact .nil
  | x :: l, _, h => by
    cases h with
    | cons h1 h2 => exact .cons (RA.mono hT hL hS hr x _ h1) (RAs.mono hT hL hS hr l _ h2)
end
theorem RAs.length : ∀ {l : List AV} {vs : List V}, RAs K ro fb H l vs → l.length = vs.length
  | _, _, .nil => rfl
  | _, _, .cons _ h => congrArg Nat.succ (RAs.length h)
theorem RAs.get : ∀ {l : List AV} {vs : List V} {i : Nat} {x : AV}, RAs K ro fb H l vs → l[i]? = some x → ∃ v, vs[i]? = some v ∧ RA K ro fb H x v
  | _, _, _, _, .nil, e => by simp at e
  | _, _, 0, _, .cons r _, e => by simp at e; subst e; exact ⟨_, rfl, r⟩
  | _, _, i + 1, x, .cons _ t, e => by
    obtain ⟨u, h1, h2⟩ := RAs.get (i := i) (x := x) t (by simpa using e)
    exact ⟨u, by simpa using h1, h2⟩
theorem RAs.getV {l : List AV} {vs : List V} {i : Nat} {v : V} (h : RAs K ro fb H l vs) (e : vs[i]? = some v) : ∃ x, l[i]? = some x ∧ RA K ro fb H x v := by
  have hl := h.length
  obtain ⟨hi, _⟩ := List.getElem?_eq_some_iff.mp e
  have e2 : l[i]? = some (l[i]'(by omega)) := by simp
  obtain ⟨u, h1, h2⟩ := h.get e2
  rw [e] at h1; cases h1
  exact ⟨_, e2, h2⟩
theorem RAs.append : ∀ {l m : List AV} {vs ws : List V}, RAs K ro fb H l vs → RAs K ro fb H m ws → RAs K ro fb H (l ++ m) (vs ++ ws)
  | _, _, _, _, .nil, s => s
  | _, _, _, _, .cons r t, s => .cons r (RAs.append t s)
theorem RAs.take : ∀ {l : List AV} {vs : List V} (n : Nat), RAs K ro fb H l vs → RAs K ro fb H (l.take n) (vs.take n)
  | _, _, 0, _ => by simp; exact .nil
  | _, _, _ + 1, .nil => .nil
  | _, _, n + 1, .cons r t => .cons r (RAs.take n t)
theorem RAs.drop : ∀ {l : List AV} {vs : List V} (n : Nat), RAs K ro fb H l vs → RAs K ro fb H (l.drop n) (vs.drop n)
  | _, _, 0, r => r
  | _, _, _ + 1, .nil => .nil
  | _, _, n + 1, .cons _ t => RAs.drop n t
theorem RAs.reverse : ∀ {l : List AV} {vs : List V}, RAs K ro fb H l vs → RAs K ro fb H l.reverse vs.reverse
  | _, _, .nil => .nil
  | _, _, .cons r t => by
    rw [List.reverse_cons, List.reverse_cons]
    exact (RAs.reverse t).append (.cons r .nil)
theorem RAs.set {x : AV} {v : V} (r : RA K ro fb H x v) : ∀ {l : List AV} {vs : List V} (i : Nat), RAs K ro fb H l vs → RAs K ro fb H (l.set i x) (vs.set i v)
  | _, _, _, .nil => .nil
  | _, _, 0, .cons _ t => .cons r t
  | _, _, i + 1, .cons q t => .cons q (RAs.set r i t)
theorem RAs.cut {l : List AV} {vs : List V} (lo hi : Option Int) (h : RAs K ro fb H l vs) : RAs K ro fb H (cutA l lo hi) (cutV vs lo hi) := by
  unfold cutA cutV
  rw [h.length]
  exact (h.drop _).take _
theorem RAs.ints : ∀ {l : List Int}, RAs K ro fb H (l.map .int) (l.map V.int)
  | [] => .nil
  | i :: l => .cons (.int i) RAs.ints
theorem RAs.of_ints : ∀ {l : List AV} {vs : List V} {ns : List Int}, RAs K ro fb H l vs → intsOf l = some ns → vs = ns.map V.int
  | _, _, ns, .nil, e => by
    have e' : some [] = some ns := e
    cases e'; rfl
  | _, _, ns, .cons (a := a) (l := l) r t, e => by
    cases a with
    | int i =>
      cases r
      have e' : (intsOf l).map (i :: ·) = some ns := e
      cases q : intsOf l with
      | none => rw [q] at e'; cases e'
      | some ms =>
        rw [q] at e'
        have e2 : i :: ms = ns := Option.some.inj e'
        subst e2
        rw [RAs.of_ints t q]
        rfl
    | _ => cases e
end

/-- from the one world to the other -/
structure Ext (w w' : Wd) : Prop where
  ro : ∃ l, w'.ro = w.ro ++ l ∧ ∀ a ∈ l, w.H a = none
  keep : ∀ b o, w.H b = some o → b ∉ w.ro → w'.H b = some o
  tup : ∀ b xs, w.H b = some (.tup xs) → w'.H b = some (.tup xs)
  frz : ∀ b o u, w.H b = some (.frz o u) → w'.H b = some (.frz o u)
  dom : ∀ b, w'.H b = none → w.H b = none
  fb : ∀ b ∈ w.fb, b ∈ w'.fb
  new : ∀ b ∈ w'.fb, b ∈ w.fb ∨ w.H b = none
/-- what stands in the store -/
def RO (K : PySem.W.Frag) (w : Wd) (a : Addr) : Ob → Prop
  | .lst l => ∃ vs, w.H a = some (.lst vs) ∧ RAs K w.ro w.fb w.H l vs
structure WOK (K : PySem.W.Frag) (w : Wd) : Prop where
  sub : ∀ a ∈ w.ro, a ∈ w.fb
  dom : ∀ a ∈ w.fb, w.H a ≠ none
  nd : w.ro.Nodup
  len : w.ro.length = w.st.ob.length
  obj : ∀ (n : Nat) (o : Ob) (a : Addr), w.st.ob[n]? = some o → w.ro[n]? = some a → RO K w a o
abbrev RW (K : PySem.W.Frag) (w : Wd) (x : AV) (v : V) : Prop := RA K w.ro w.fb w.H x v
abbrev RWs (K : PySem.W.Frag) (w : Wd) (l : List AV) (vs : List V) : Prop := RAs K w.ro w.fb w.H l vs
section
variable {K : PySem.W.Frag} {w w' w1 w2 : Wd}
theorem Ext.refl (w : Wd) : Ext w w := ⟨⟨[], by simp, by simp⟩, fun _ _ h _ => h, fun _ _ h => h, fun _ _ _ h => h, fun _ h => h, fun _ h => h, fun _ h => .inl h⟩
theorem Ext.noro (e : Ext w w') {b : Addr} (h : w.H b ≠ none) (n : b ∉ w.ro) : b ∉ w'.ro := by
  obtain ⟨l, e1, e2⟩ := e.ro
  rw [e1]
  intro q
  rcases List.mem_append.mp q with q | q
  · exact n q
  · exact h (e2 b q)
theorem Ext.trans (e : Ext w w1) (e' : Ext w1 w2) : Ext w w2 where
  ro := by
    obtain ⟨l, h1, h2⟩ := e.ro
    obtain ⟨m, h3, h4⟩ := e'.ro
    refine ⟨l ++ m, by rw [h3, h1, List.append_assoc], fun a ha => ?_⟩
    rcases List.mem_append.mp ha with q | q
    · exact h2 a q
    · exact e.dom a (h4 a q)
  keep := fun b o h n => e'.keep b o (e.keep b o h n) (e.noro (by rw [h]; simp) n)
  tup := fun b xs h => e'.tup b xs (e.tup b xs h)
  frz := fun b o u h => e'.frz b o u (e.frz b o u h)
  dom := fun b h => e.dom b (e'.dom b h)
  fb := fun b h => e'.fb b (e.fb b h)
  new := fun b h => by
    rcases e'.new b h with q | q
    · exact e.new b q
    · exact .inr (e.dom b q)
theorem Ext.ix (e : Ext w w') {n : Nat} {a : Addr} (h : w.ro[n]? = some a) : w'.ro[n]? = some a := by
  obtain ⟨l, h1, _⟩ := e.ro
  rw [h1, List.getElem?_append_left (List.getElem?_eq_some_iff.mp h).1]
  exact h
theorem sqT_ext (e : Ext w w') {a : Addr} {xs : List V} (h : SqT K w.H a xs) : SqT K w'.H a xs := by
  rcases h with (h | ⟨o, h⟩) | h
  · exact .inl (.inl (e.tup _ _ h))
  · exact .inl (.inr ⟨o, e.frz _ _ _ h⟩)
  · exact .inr h
theorem scr_ext (e : Ext w w') {a : Addr} {xs : List V} (h : ScrAt K w.H a xs) : ScrAt K w'.H a xs := by
  rcases h with ⟨o, h⟩ | h
  · exact .inl ⟨o, e.frz _ _ _ h⟩
  · exact .inr h
theorem lst_ext (ok : WOK K w) (e : Ext w w') {a : Addr} {xs : List V} (h : w.H a = some (.lst xs)) (n : a ∉ w.fb) : w'.H a = some (.lst xs) ∧ a ∉ w'.fb := by
  refine ⟨e.keep _ _ h fun q => n (ok.sub _ q), fun q => ?_⟩
  rcases e.new _ q with q | q
  · exact n q
  · rw [h] at q; cases q
theorem RA.ext (ok : WOK K w) (e : Ext w w') {x : AV} {v : V} (h : RW K w x v) : RW K w' x v :=
  RA.mono (fun _ _ q => sqT_ext e q) (fun _ _ q n => lst_ext ok e q n) (fun _ _ q => scr_ext e q) (fun _ _ q => e.ix q) x v h
theorem RAs.ext (ok : WOK K w) (e : Ext w w') {l : List AV} {vs : List V} (h : RWs K w l vs) : RWs K w' l vs :=
  RAs.mono (fun _ _ q => sqT_ext e q) (fun _ _ q n => lst_ext ok e q n) (fun _ _ q => scr_ext e q) (fun _ _ q => e.ix q) l vs h
end

/-- a result -/
def RR (K : PySem.W.Frag) (w w' : Wd) : R → V → Prop
  | .v a, v => RW K w' a v
  | .tl l, v => ∃ a vs, v = .ref a ∧ w'.H a = some (.lst vs) ∧ RWs K w' l vs ∧ a ∈ w'.fb ∧ a ∉ w'.ro ∧ w.H a = none
  | .bo l, v => ∃ a vs, v = .ref a ∧ w'.H a = some (.lst vs) ∧ RWs K w' l vs ∧ a ∈ w'.fb ∧ a ∉ w'.ro
/-- what it holds -/
def RC (K : PySem.W.Frag) (w : Wd) : R → V → Prop
  | .v (.lst l), v => ∃ a vs, v = .ref a ∧ w.H a = some (.lst vs) ∧ RWs K w l vs
  | .v a, v => RW K w a v
  | .tl l, v => ∃ a vs, v = .ref a ∧ w.H a = some (.lst vs) ∧ RWs K w l vs
  | .bo l, v => ∃ a vs, v = .ref a ∧ w.H a = some (.lst vs) ∧ RWs K w l vs
/-- a def's entry's names -/
structure REnv (K : PySem.W.Frag) (w0 w : Wd) (env : Env) (σ : L2.St) : Prop where
  len : env.length = σ.length
  val : ∀ (i : Nat) (a : AV), env[i]? = some (.v a) → ∃ v, σ[i]? = some (some v) ∧ RW K w a v
  own : ∀ (i : Nat) (l : List AV), env[i]? = some (.own l) → ∃ a vs, σ[i]? = some (some (.ref a)) ∧ w.H a = some (.lst vs) ∧ RWs K w l vs ∧ a ∈ w.fb ∧ a ∉ w.ro ∧ w0.H a = none
  inj : ∀ (i j : Nat) (l m : List AV) (a : Addr), env[i]? = some (.own l) → env[j]? = some (.own m) → σ[i]? = some (some (.ref a)) → σ[j]? = some (some (.ref a)) → i = j
section
variable {K : PySem.W.Frag} {w w' w0 w1 w2 : Wd} {env : Env} {σ : L2.St}
theorem RR.ext (e1 : Ext w w1) (ok : WOK K w1) (e : Ext w1 w2) {r : R} {v : V} (h : RR K w w1 r v) : RR K w w2 r v := by
  cases r with
  | v a => exact RA.ext ok e h
  | tl l =>
    obtain ⟨a, vs, rfl, h1, h2, h3, h4, h5⟩ := h
    exact ⟨a, vs, rfl, e.keep _ _ h1 h4, h2.ext ok e, e.fb _ h3, e.noro (by rw [h1]; simp) h4, h5⟩
  | bo l =>
    obtain ⟨a, vs, rfl, h1, h2, h3, h4⟩ := h
    exact ⟨a, vs, rfl, e.keep _ _ h1 h4, h2.ext ok e, e.fb _ h3, e.noro (by rw [h1]; simp) h4⟩
theorem RR.back (e : Ext w w1) {r : R} {v : V} (h : RR K w1 w2 r v) : RR K w w2 r v := by
  cases r with
  | v a => exact h
  | tl l =>
    obtain ⟨a, vs, rfl, q1, q2, q3, q4, q5⟩ := h
    exact ⟨a, vs, rfl, q1, q2, q3, q4, e.dom _ q5⟩
  | bo l => exact h
theorem RR.rc {r : R} {v : V} (h : RR K w w1 r v) : RC K w1 (fz r) v := by
  cases r with
  | v a =>
    cases a with
    | lst l =>
      cases h with
      | lst h1 h2 h3 => exact ⟨_, _, rfl, h1, h3⟩
    | _ => exact h
  | tl l =>
    obtain ⟨a, vs, rfl, h1, h2, _⟩ := h
    exact ⟨a, vs, rfl, h1, h2⟩
  | bo l =>
    obtain ⟨a, vs, rfl, h1, h2, _⟩ := h
    exact ⟨a, vs, rfl, h1, h2⟩
theorem REnv.ext (ok : WOK K w) (e : Ext w w') (h : REnv K w0 w env σ) : REnv K w0 w' env σ where
  len := h.len
  val := fun i a q => by
    obtain ⟨v, h1, h2⟩ := h.val i a q
    exact ⟨v, h1, h2.ext ok e⟩
  own := fun i l q => by
    obtain ⟨a, vs, h1, h2, h3, h4, h5, h6⟩ := h.own i l q
    exact ⟨a, vs, h1, e.keep _ _ h2 h5, h3.ext ok e, e.fb _ h4, e.noro (by rw [h2]; simp) h5, h6⟩
  inj := h.inj
/-- a just made list is let be -/
theorem freeze (e : Ext w w1) (ok : WOK K w1) {r : R} {v : V} (h : RR K w w1 r v) (kf : ∀ a ∈ w.fb, w.H a ≠ none) : ∃ w2, w2.H = w1.H ∧ w2.st = w1.st ∧ Ext w w2 ∧ WOK K w2 ∧ RR K w w2 (fz r) v := by
  cases r with
  | v a => exact ⟨w1, rfl, rfl, e, ok, h⟩
  | bo l => exact ⟨w1, rfl, rfl, e, ok, h⟩
  | tl l =>
    obtain ⟨a, vs, rfl, h1, h2, h3, h4, h5⟩ := h
    have m : ∀ (l : List AV) (vs : List V), RAs K w1.ro w1.fb w1.H l vs → RAs K w1.ro (w1.fb.filter (· ≠ a)) w1.H l vs := fun l vs q =>
      RAs.mono (fun _ _ q => q) (fun b _ q n => ⟨q, fun z => n (List.mem_filter.mp z).1⟩) (fun _ _ q => q) (fun _ _ q => q) l vs q
    refine ⟨⟨w1.ro, w1.fb.filter (· ≠ a), w1.st, w1.H⟩, rfl, rfl, ⟨e.ro, e.keep, e.tup, e.frz, e.dom, fun b hb => ?_, fun b hb => e.new b (List.mem_filter.mp hb).1⟩, ⟨fun b hb => ?_, fun b hb => ok.dom b (List.mem_filter.mp hb).1, ok.nd, ok.len, fun n o b q1 q2 => ?_⟩, ?_⟩
    · refine List.mem_filter.mpr ⟨e.fb b hb, ?_⟩
      have : b ≠ a := by rintro rfl; exact kf b hb h5
      simpa using this
    · refine List.mem_filter.mpr ⟨ok.sub b hb, ?_⟩
      have : b ≠ a := by rintro rfl; exact h4 hb
      simpa using this
    · have z := ok.obj n o b q1 q2
      cases o with
      | lst l' =>
        obtain ⟨vs', z1, z2⟩ := z
        exact ⟨vs', z1, m _ _ z2⟩
    · show RA K w1.ro (w1.fb.filter (· ≠ a)) w1.H (.lst l) (.ref a)
      exact .lst h1 (by simp) (m _ _ h2)
/-- a new object that nobody writes through the store -/
theorem Ext.laid {p : Addr} {o : HO} (hp : w.H p = none) : Ext w ⟨w.ro, w.fb, w.st, upd w.H p o⟩ :=
  ⟨⟨[], by simp, by simp⟩, fun b _ h _ => by show upd w.H p o b = _; rw [upd_ne (ne_of_none h hp)]; exact h, fun b _ h => by show upd w.H p o b = _; rw [upd_ne (ne_of_none h hp)]; exact h,
    fun b _ _ h => by show upd w.H p o b = _; rw [upd_ne (ne_of_none h hp)]; exact h, fun b h => by
      by_cases q : b = p
      · rw [q]; exact hp
      · have h' : upd w.H p o b = none := h
        rw [upd_ne q] at h'; exact h', fun _ h => h, fun _ h => .inl h⟩
theorem RAs.laid (ok : WOK K w) {p : Addr} {o : HO} (hp : w.H p = none) {l : List AV} {vs : List V} (h : RWs K w l vs) : RAs K w.ro w.fb (upd w.H p o) l vs := RAs.ext ok (Ext.laid (o := o) hp) h
theorem WOK.laid (ok : WOK K w) {p : Addr} {o : HO} (hp : w.H p = none) : WOK K ⟨w.ro, w.fb, w.st, upd w.H p o⟩ := by
  refine ⟨ok.sub, fun a h q => ok.dom a h ((Ext.laid (o := o) hp).dom a q), ok.nd, ok.len, fun n ob a h1 h2 => ?_⟩
  have z := ok.obj n ob a h1 h2
  cases ob with
  | lst l =>
    obtain ⟨vs, z1, z2⟩ := z
    refine ⟨vs, ?_, z2.laid ok hp⟩
    show upd w.H p o a = _
    rw [upd_ne (ne_of_none z1 hp)]; exact z1
/-- a new list -/
theorem Ext.laidF {p : Addr} {o : HO} (hp : w.H p = none) : Ext w ⟨w.ro, p :: w.fb, w.st, upd w.H p o⟩ :=
  have e := Ext.laid (w := w) (o := o) hp
  ⟨e.ro, e.keep, e.tup, e.frz, e.dom, fun _ h => List.mem_cons_of_mem _ h, fun b h => by
    rcases List.mem_cons.mp h with rfl | h
    · exact .inr hp
    · exact .inl h⟩
theorem WOK.laidF (ok : WOK K w) {p : Addr} {o : HO} (hp : w.H p = none) : WOK K ⟨w.ro, p :: w.fb, w.st, upd w.H p o⟩ := by
  have ok2 := ok.laid (o := o) hp
  have e := Ext.laidF (w := w) (o := o) hp
  refine ⟨fun b h => List.mem_cons_of_mem _ (ok.sub b h), fun a h => ?_, ok.nd, ok.len, fun n ob a h1 h2 => ?_⟩
  · rcases List.mem_cons.mp h with rfl | h
    · show upd w.H a o a ≠ none
      rw [upd_same]; simp
    · exact ok2.dom a h
  · have z := ok.obj n ob a h1 h2
    cases ob with
    | lst l =>
      obtain ⟨vs, z1, z2⟩ := z
      refine ⟨vs, ?_, z2.ext ok e⟩
      show upd w.H p o a = _
      rw [upd_ne (ne_of_none z1 hp)]; exact z1
theorem noin (ok : WOK K w) {p : Addr} (hp : w.H p = none) : p ∉ w.ro := fun q => ok.dom p (ok.sub p q) hp
/-- a result of an operation that only lays new objects: a tuple .. -/
theorem res_tup (ok : WOK K w) {p : Addr} (hp : w.H p = none) {l : List AV} {vs : List V} (h : RWs K w l vs) : RA K w.ro w.fb (upd w.H p (.tup vs)) (.tup l) (.ref p) := .tup (.inl (.inl upd_same)) (h.laid ok hp)
/-- .. a list -/
theorem res_lst (ok : WOK K w) {p : Addr} (hp : w.H p = none) {l : List AV} {vs : List V} (h : RWs K w l vs) : RR K w ⟨w.ro, p :: w.fb, w.st, upd w.H p (.lst vs)⟩ (.tl l) (.ref p) :=
  ⟨p, vs, rfl, upd_same, h.ext ok (Ext.laidF hp), List.mem_cons_self, noin ok hp, hp⟩
end
end EV

set_option maxRecDepth 100000
set_option maxHeartbeats 2000000
namespace EV
open PySem PySem.Spec PyProof.Rows L2
/-! ### what the walk says of the words -/
theorem PE.weak {X : Cx} {e : Expr} {t t' : TE} (h : PE X e t) (k : ∀ σ H Q, t' σ H Q → t σ H Q) : PE X e t' := ⟨fun pins s σ H Q I q => h.run pins s σ H Q I (k σ H Q q)⟩
theorem PT.weak {X : Cx} {e : Expr} {t t' : TT} (h : PT X e t) (k : ∀ σ H Q, t' σ H Q → t σ H Q) : PT X e t' := ⟨fun pins s σ H Q I q => h.run pins s σ H Q I (k σ H Q q)⟩
theorem PW.weak {X : Cx} {e : Expr} {t t' : TT} (h : PW X e t) (k : ∀ σ H Q, t' σ H Q → t σ H Q) : PW X e t' := ⟨fun wh pins s σ H Q I q => h.run wh pins s σ H Q I (k σ H Q q)⟩
theorem PA.weak {X : Cx} {e : List Expr} {t t' : TA} (h : PA X e t) (k : ∀ σ H Q, t' σ H Q → t σ H Q) : PA X e t' := ⟨fun pos pins s σ H Q I q => h.run pos pins s σ H Q I (k σ H Q q)⟩
theorem PS.weak {X : Cx} {e : Stmt} {t t' : TS} (h : PS X e t) (k : ∀ D σ H, t' D σ H → t D σ H) : PS X e t' := ⟨fun pins s σ H Q I q => h.run pins s σ H Q I (k Q σ H q)⟩
theorem PSs.weak {X : Cx} {e : List Stmt} {t t' : TS} (h : PSs X e t) (k : ∀ D σ H, t' D σ H → t D σ H) : PSs X e t' := ⟨fun pins s σ H Q I q => h.run pins s σ H Q I (k Q σ H q)⟩
theorem PI.weak {X : Cx} {tg e : Expr} {t t' : TI} (h : PI X tg e t) (k : ∀ σ H Q, t' σ H Q → t σ H Q) : PI X tg e t' := ⟨fun pins s σ H Q I q => h.run pins s σ H Q I (k σ H Q q)⟩
theorem PI.or {X : Cx} {tg e : Expr} {t t' : TI} (h : PI X tg e t) (h' : PI X tg e t') : PI X tg e (fun σ H R => t σ H R ∨ t' σ H R) := ⟨fun pins s σ H Q I q => by
  rcases q with q | q
  · exact h.run pins s σ H Q I q
  · exact h'.run pins s σ H Q I q⟩

/-- an evaluation meets its ends -/
def Sat (K : PySem.W.Frag) {α : Type} (w : Wd) (r : Rs α) (P : α → Wd → Prop) (Z : Str → List AV → Wd → Prop) : Prop := match r with
  | .ok a s => ∀ w', w'.st = s → Ext w w' → WOK K w' → P a w'
  | .exc c fs s => ∀ w', w'.st = s → Ext w w' → WOK K w' → Z c fs w'
  | .stuck => False
section
variable {K : PySem.W.Frag} {α β : Type} {w w1 : Wd} {P P' : α → Wd → Prop} {Z : Str → List AV → Wd → Prop}
theorem Sat.mono {r : Rs α} (e : Ext w w1) (h : Sat K w r P Z) : Sat K w1 r P Z := by
  cases r with
  | ok a s => exact fun w' h1 h2 h3 => h w' h1 (e.trans h2) h3
  | exc c fs s => exact fun w' h1 h2 h3 => h w' h1 (e.trans h2) h3
  | stuck => exact h
theorem Sat.bind {r : Rs α} {f : α → Sto → Rs β} {Q : β → Wd → Prop} (h : Sat K w (r.bind f) Q Z) : Sat K w r (fun a w' => Ext w w' ∧ WOK K w' ∧ Sat K w' (f a w'.st) Q Z) Z := by
  cases r with
  | ok a s =>
    intro w' h1 h2 h3
    refine ⟨h2, h3, ?_⟩
    rw [h1]
    exact Sat.mono h2 h
  | exc c fs s => exact h
  | stuck => exact h
theorem Sat.bindF {r : Rs α} {f : α → Sto → Rs β} {Q : β → Wd → Prop} (h : Sat K w (r.bind f) Q Z) : Sat K w r (fun a w' => Ext w w' ∧ WOK K w' ∧ ∀ w2, Ext w w2 → w2.st = w'.st → Sat K w2 (f a w2.st) Q Z) Z := by
  cases r with
  | ok a s =>
    intro w' h1 h2 h3
    refine ⟨h2, h3, fun w2 e2 e3 => ?_⟩
    rw [e3, h1]
    exact Sat.mono e2 h
  | exc c fs s => exact h
  | stuck => exact h
theorem Sat.bindB {r : Rs α} {f : α → Sto → Rs β} {Q : β → Wd → Prop} (e : Ext w w1) (h : Sat K w (r.bind f) Q Z) : Sat K w1 r (fun a w' => Ext w1 w' ∧ WOK K w' ∧ Sat K w (f a w'.st) Q Z) Z := by
  cases r with
  | ok a s =>
    intro w' h1 h2 h3
    refine ⟨h2, h3, ?_⟩
    rw [h1]
    exact h
  | exc c fs s => exact fun w' h1 h2 h3 => h w' h1 (e.trans h2) h3
  | stuck => exact h
theorem Sat.imp {r : Rs α} (h : Sat K w r P Z) (k : ∀ a w', P a w' → P' a w') : Sat K w r P' Z := by
  cases r with
  | ok a s => exact fun w' h1 h2 h3 => k _ _ (h w' h1 h2 h3)
  | exc c fs s => exact h
  | stuck => exact h
theorem Sat.of_ {o : Option α} {s : Sto} (h : Sat K w (Rs.of o s) P Z) (hs : w.st = s) (ok : WOK K w) : ∃ a, o = some a ∧ P a w := by
  cases o with
  | none => exact (h : False).elim
  | some a => exact ⟨a, rfl, h w hs (Ext.refl w) ok⟩
theorem Sat.of2 {o : Option α} {s : Sto} (h : Sat K w (Rs.of o s) P Z) (hs : w.st = s) : ∃ a, o = some a ∧ ∀ w', w'.st = s → Ext w w' → WOK K w' → P a w' := by
  cases o with
  | none => exact (h : False).elim
  | some a => exact ⟨a, rfl, h⟩
theorem Sat.here {a : α} {s : Sto} (h : Sat K w (Rs.ok a s) P Z) (hs : w.st = s) (ok : WOK K w) : P a w := h w hs (Ext.refl w) ok
end
/-- where the defs stand -/
structure Glo (F : Type) where
  adr : F → Addr
  fd : F → FuncData
  ps : F → List Str
  nm : F → Str
  cl : Str → Addr
def RX {F : Type} (G : Glo F) (w : Wd) (c : Str) (fs : List AV) (cv : Value) (d : Option Addr) : Prop := cv = .ref (G.cl c)
def xq {F : Type} (G : Glo F) (XW : XK) : Str → List AV → Wd → Prop := fun c fs w => ∀ cv d, RX G w c fs cv d → XW cv d w.H
def spF {F : Type} (K : PySem.W.Frag) (G : Glo F) (C : Cf F) (f : F) : Sp := fun vs H Q XW => vs.length = (G.ps f).length ∧ ∃ w l, w.H = H ∧ WOK K w ∧ RWs K w l vs ∧ Sat K w (C f l w.st) (fun r w' => ∀ v, RR K w w' r v → Q v w'.H) (xq G XW)
def bNames : List Str := ["len", "sum", "min", "max", "tuple", "list", "isinstance", "range", "reversed", "zip", "enumerate", "int", "bool", "str", "sorted", "dict", "set"]
structure XOk {F : Type} (G : Glo F) (C : Cf F) (cs : List (Str × Const)) (N : List Str) (k : Nat) (X : Cx) (XW : XK) (fnB : Bool) : Prop where
  hN : X.N = N
  hc : X.calm = true
  nd : X.N.Nodup
  room : Room k X.A
  tk : Takes X (fun c d _ H => XW c d H)
  fns : ∀ f, FnOk X.prog X.w X.K X.mg X.base (L2.CX X.prog X.w) k (G.adr f) (G.fd f) (G.ps f) (spF X.K G C f)
  mgf : ∀ f, X.mg (G.nm f) = some (.ref (G.adr f))
  kp : ∀ f, PySem.W.keepIn X.K (.ref (G.adr f)) = true
  bd : ∀ f, Binds X.K (G.fd f) (G.ps f) []
  len : ∀ f l s, C f l s ≠ .stuck → l.length = (G.ps f).length
  blt : ∀ x ∈ bNames, X.mg x = none
  cst : ∀ x c, cs.lookup x = some c → (∃ i t, c = .int i ∧ X.mg x = some (.int i t)) ∨ ∃ y t, c = .str y ∧ X.mg x = some (.str y t)
  fnb : fnB = true → ∀ x, X.fn x = true
section
variable {F : Type} (G : Glo F) (C : Cf F) (cs : List (Str × Const)) (N : List Str) (k : Nat)
def tEv (K : PySem.W.Frag) (XW : XK) (e : E F) : TE := fun σ H Q => ∃ w w0 env, w.H = H ∧ WOK K w ∧ REnv K w0 w env σ ∧ Sat K w (ev C env e w.st) (fun r w' => ∀ v, RR K w w' r v → Q v w'.H) (xq G XW)
def tEvT (K : PySem.W.Frag) (XW : XK) (e : E F) : TT := fun σ H Q => ∃ w w0 env, w.H = H ∧ WOK K w ∧ REnv K w0 w env σ ∧ Sat K w (ev C env e w.st) (fun r w' => ∃ b, r = .v (.bl b) ∧ Q b w'.H) (xq G XW)
def tEvs (K : PySem.W.Frag) (XW : XK) (es : Es F) : TA := fun σ H Q => ∃ w w0 env, w.H = H ∧ WOK K w ∧ REnv K w0 w env σ ∧ Sat K w (evs C env es w.st) (fun rs w' => ∀ vs, Paired (RR K w w') rs vs → Q vs w'.H) (xq G XW)
def GoodE (e : E F) : Prop := ∀ (sc : Scope) (ast : Expr) (X : Cx) (XW : XK) (fnB : Bool), okE G.nm cs N sc e ast = true → XOk G C cs N k X XW fnB → X.env.scope = sc → PE X ast (tEv G C X.K XW e)
end
section
variable {F : Type} {G : Glo F} {C : Cf F} {cs : List (Str × Const)} {N : List Str} {k : Nat}
theorem and_t {a b : Bool} (h : (a && b) = true) : a = true ∧ b = true := Bool.and_eq_true_iff.mp h
theorem visB_ok {sc : Scope} {x : Str} (h : visB sc x = true) : Vis sc x := by
  unfold visB at h
  split at h
  · exact .inl (by assumption)
  · exact .inr (.inl (by assumption))
  · exact .inr (.inr (by assumption))
  · cases h
theorem not_f {b : Bool} (h : (!b) = true) : b = false := by cases b <;> simp_all
theorem good_var (i : Nat) : GoodE G C cs N k (.var i) := by
  intro sc ast X XW fnB h xo hsc
  cases ast with
  | Name x p =>
    have h : (decide (N[i]? = some x) && visB sc x && !(x == ("__debug__" : Str)) && !(x == ("__classdict__" : Str))) = true := h
    obtain ⟨h, h4⟩ := and_t h
    obtain ⟨h, h3⟩ := and_t h
    obtain ⟨h1, h2⟩ := and_t h
    have h1 := of_decide_eq_true h1
    subst hsc
    refine PE.weak (pe_var (i := i) (by rw [xo.hN]; exact h1) (visB_ok h2) (not_f h3) (not_f h4)) fun σ H Q q => ?_
    obtain ⟨w, w0, env, rfl, ok, en, q⟩ := q
    obtain ⟨r, hr, q⟩ := q.of_ rfl ok
    unfold rd at hr
    cases e : env[i]? with
    | none => rw [e] at hr; cases hr
    | some s =>
      rw [e] at hr
      cases s with
      | no => cases hr
      | v a =>
        cases hr
        obtain ⟨v, h1, h2⟩ := en.val i a e
        exact ⟨v, h1, q v h2⟩
      | own l =>
        cases hr
        obtain ⟨a, vs, h1, h2, h3, h4, h5, h6⟩ := en.own i l e
        exact ⟨_, h1, q _ ⟨a, vs, rfl, h2, h3, h4, h5⟩⟩
  | _ => cases (show false = true from h)
theorem good_cst (c : AV) : GoodE G C cs N k (.cst c) := by
  intro sc ast X XW fnB h xo hsc
  cases ast with
  | Constant y j p =>
    replace h : cstB c y = true := h
    have go : ∀ {v : V}, (∀ w : Wd, RW X.K w c v) → PE X (.Constant y j p) (tC v) → PE X (.Constant y j p) (tEv G C X.K XW (.cst c)) := fun {v} hv hp => by
      refine PE.weak hp fun σ H Q q => ?_
      obtain ⟨w, w0, env, rfl, ok, en, q⟩ := q
      exact (q.here rfl ok) v (hv w)
    cases c with
    | non => cases y <;> first | (cases (show false = true from h); done) | exact go (fun _ => .non) pe_non
    | bl b =>
      cases y <;> first | (cases (show false = true from h); done) | skip
      rename_i d
      have e : b = d := by simpa [cstB] using h
      subst e
      exact go (fun _ => .bl b) pe_bl
    | int i =>
      cases y <;> first | (cases (show false = true from h); done) | skip
      rename_i d
      have e : i = d := of_decide_eq_true h
      subst e
      exact go (fun _ => .int i) pe_int
    | str i =>
      cases y <;> first | (cases (show false = true from h); done) | skip
      rename_i d
      have e : i = d := of_decide_eq_true h
      subst e
      exact go (fun _ => .str i) pe_str
    | _ => cases y <;> cases (show false = true from h)
  | _ => cases (show false = true from h)
theorem good_glb (x : Str) (c : AV) : GoodE G C cs N k (.glb x c) := by
  intro sc ast X XW fnB h xo hsc
  cases ast with
  | Name y p =>
    replace h : (decide (x = y) && gloB sc y && (match cs.lookup x with
      | some k => cstB c k
      | none => false)) = true := h
    obtain ⟨h, h3⟩ := and_t h
    obtain ⟨h1, h2⟩ := and_t h
    have h1 := of_decide_eq_true h1
    subst h1 hsc
    unfold gloB at h2
    obtain ⟨h2, h5⟩ := and_t h2
    obtain ⟨h2, h4⟩ := and_t h2
    have g : Gl X x := (of_decide_eq_true h2 : X.env.scope.names.lookup x = some .globalImplicit)
    cases e : cs.lookup x with
    | none => rw [e] at h3; cases h3
    | some q =>
      rw [e] at h3
      rcases xo.cst x q e with ⟨i, t, rfl, hm⟩ | ⟨z, t, rfl, hm⟩
      · cases c with
        | int j =>
          have e : j = i := of_decide_eq_true h3
          subst e
          refine PE.weak (pe_glob (v := .int j) g hm ⟨t, rfl⟩ (not_f h4)) fun σ H Q q => ?_
          obtain ⟨w, w0, env, rfl, ok, en, q⟩ := q
          exact (q.here rfl ok) _ (.int j)
        | _ => cases h3
      · cases c with
        | str j =>
          have e : j = z := of_decide_eq_true h3
          subst e
          refine PE.weak (pe_glob (v := .str j) g hm ⟨t, rfl⟩ (not_f h4)) fun σ H Q q => ?_
          obtain ⟨w, w0, env, rfl, ok, en, q⟩ := q
          exact (q.here rfl ok) _ (.str j)
        | _ => cases h3
  | _ => cases (show false = true from h)
/-! ### two in a row -/
theorem two {K : PySem.W.Frag} {XW : XK} {a b : E F} {σ : L2.St} {Q : V → V → Hp → Prop} {w w0 : Wd} {env : Env} {f : R → R → Sto → Rs R} {P : R → Wd → Prop} (ok : WOK K w) (en : REnv K w0 w env σ)
    (h : Sat K w ((ev C env a w.st).bind fun x s => (ev C env b s).bind fun y s => f x y s) P (xq G XW))
    (k : ∀ x y v u w', Ext w w' → WOK K w' → REnv K w0 w' env σ → RR K w w' x v → RR K w w' y u → Sat K w' (f x y w'.st) P (xq G XW) → Q v u w'.H) :
    tEv G C K XW a σ w.H fun v H1 => tEv G C K XW b σ H1 fun u H2 => Q v u H2 := by
  refine ⟨w, w0, env, rfl, ok, en, h.bind.imp fun x w1 ⟨e1, ok1, h1⟩ v rx => ⟨w1, w0, env, rfl, ok1, en.ext ok e1, h1.bind.imp fun y w2 ⟨e2, ok2, h2⟩ u ry => ?_⟩⟩
  exact k x y v u w2 (e1.trans e2) ok2 (en.ext ok (e1.trans e2)) (rx.ext e1 ok1 e2) (ry.back e1) h2
/-- the answers of an operation -/
def Ans (K : PySem.W.Frag) (w : Wd) (r : R) (Q : V → Hp → Prop) : Prop := ∀ w', w'.st = w.st → Ext w w' → WOK K w' → ∀ v, RR K w w' r v → Q v w'.H
theorem ans_of {K : PySem.W.Frag} {XW : XK} {w w1 : Wd} {o : Option R} {Q : V → Hp → Prop} (e : Ext w w1) (h : Sat K w1 (Rs.of o w1.st) (fun r w' => ∀ v, RR K w w' r v → Q v w'.H) (xq G XW)) : ∃ r, o = some r ∧ Ans K w1 r Q := by
  obtain ⟨r, hr, h⟩ := h.of2 rfl
  exact ⟨r, hr, fun w2 h1 h2 h3 v rv => h w2 h1 h2 h3 v (rv.back e)⟩
theorem two_of {K : PySem.W.Frag} {XW : XK} {a b : E F} {σ : L2.St} {Q : VK} {Q' : V → V → Hp → Prop} {w w0 : Wd} {env : Env} {g : Sto → R → R → Option R} (ok : WOK K w) (en : REnv K w0 w env σ)
    (h : Sat K w ((ev C env a w.st).bind fun x s => (ev C env b s).bind fun y s => Rs.of (g s x y) s) (fun r w' => ∀ v, RR K w w' r v → Q v w'.H) (xq G XW))
    (k : ∀ x y v u w' r, WOK K w' → RC K w' (fz x) v → RC K w' (fz y) u → g w'.st x y = some r → Ans K w' r Q → Q' v u w'.H) :
    tEv G C K XW a σ w.H fun v H1 => tEv G C K XW b σ H1 fun u H2 => Q' v u H2 :=
  two ok en h fun x y v u w' e1 ok1 en1 rx ry h => by
    obtain ⟨r, hr, h⟩ := ans_of e1 h
    exact k x y v u w' r ok1 rx.rc ry.rc hr h
/-! ### operators -/
theorem RC.int {K : PySem.W.Frag} {w : Wd} {i : Int} {v : V} (h : RC K w (.v (.int i)) v) : v = .int i := by
  have h : RW K w (.int i) v := h
  cases h; rfl
theorem RC.str {K : PySem.W.Frag} {w : Wd} {i : Str} {v : V} (h : RC K w (.v (.str i)) v) : v = .str i := by
  have h : RW K w (.str i) v := h
  cases h; rfl
theorem RC.bl {K : PySem.W.Frag} {w : Wd} {i : Bool} {v : V} (h : RC K w (.v (.bl i)) v) : v = .bl i := by
  have h : RW K w (.bl i) v := h
  cases h; rfl
theorem RC.tup {K : PySem.W.Frag} {w : Wd} {l : List AV} {v : V} (h : RC K w (.v (.tup l)) v) : ∃ a vs, v = .ref a ∧ SqT K w.H a vs ∧ RWs K w l vs := by
  have h : RW K w (.tup l) v := h
  cases h with
  | tup h1 h2 => exact ⟨_, _, rfl, h1, h2⟩
theorem Ans.val {K : PySem.W.Frag} {w : Wd} {a : AV} {v : V} {Q : V → Hp → Prop} (h : Ans K w (.v a) Q) (ok : WOK K w) (r : RW K w a v) : Q v w.H := h w rfl (Ext.refl w) ok v r
theorem Ans.tup {K : PySem.W.Frag} {w : Wd} {l : List AV} {vs : List V} {p : Addr} {Q : V → Hp → Prop} (h : Ans K w (.v (.tup l)) Q) (ok : WOK K w) (r : RWs K w l vs) (hp : w.H p = none) : Q (.ref p) (upd w.H p (.tup vs)) :=
  h ⟨w.ro, w.fb, w.st, upd w.H p (.tup vs)⟩ rfl (Ext.laid hp) (ok.laid hp) _ (res_tup ok hp r)
theorem Ans.lst {K : PySem.W.Frag} {w : Wd} {l : List AV} {vs : List V} {p : Addr} {Q : V → Hp → Prop} (h : Ans K w (.tl l) Q) (ok : WOK K w) (r : RWs K w l vs) (hp : w.H p = none) : Q (.ref p) (upd w.H p (.lst vs)) :=
  h ⟨w.ro, p :: w.fb, w.st, upd w.H p (.lst vs)⟩ rfl (Ext.laidF hp) (ok.laidF hp) _ (res_lst ok hp r)
def rBin (K : PySem.W.Frag) : Bop → R2
  | .add => fun x y H Q => (rI0 fun i j => .int (i + j)) x y H Q ∨ rCatA K x y H Q ∨ ∃ i j, x = .str i ∧ y = .str j ∧ i.length + j.length ≤ sizeLine ∧ Q (.str (i ++ j)) H
  | .sub => rI0 fun i j => .int (i - j)
  | .mul => rI CMul fun i j => .int (i * j)
  | .fdiv => rI CDiv fun i j => .int (i / j)
  | .mod => rI (fun _ j => 0 < j) fun i j => .int (i % j)
  | .pow => rI CPow fun i j => .int (i ^ j.toNat)
theorem op_bin {X : Cx} : ∀ o : Bop, OpR X (binaryOp (bopOp o)) (rBin X.K o)
  | .add => op_add.or (op_catA.or op_add_str)
  | .sub => op_sub
  | .mul => op_mul
  | .fdiv => op_fdiv
  | .mod => op_mod
  | .pow => op_pow
theorem bin_ok {K : PySem.W.Frag} {w : Wd} {o : Bop} {x y r : R} {v u : V} {Q : V → Hp → Prop} (ok : WOK K w) (e : binR w.st o x y = some r) (rx : RC K w x v) (ry : RC K w y u) (h : Ans K w r Q) : rBin K o v u w.H Q := by
  unfold binR at e
  split at e
  · cases e
    have := rx.int; have := ry.int; subst_vars
    exact .inl ⟨_, _, rfl, rfl, h.val ok (.int _)⟩
  · cases e
    have := rx.int; have := ry.int; subst_vars
    exact ⟨_, _, rfl, rfl, h.val ok (.int _)⟩
  · split at e
    · cases e
      have := rx.int; have := ry.int; subst_vars
      rename_i c
      refine ⟨_, _, rfl, rfl, ?_, h.val ok (.int _)⟩
      unfold mulOk at c
      simpa [CMul] using c
    · cases e
  · split at e
    · cases e
      have := rx.int; have := ry.int; subst_vars
      rename_i c
      refine ⟨_, _, rfl, rfl, ?_, h.val ok (.int _)⟩
      simpa [CDiv] using c
    · cases e
  · split at e
    · cases e
      have := rx.int; have := ry.int; subst_vars
      rename_i c
      exact ⟨_, _, rfl, rfl, of_decide_eq_true c, h.val ok (.int _)⟩
    · cases e
  · split at e
    · cases e
      have := rx.int; have := ry.int; subst_vars
      rename_i c
      refine ⟨_, _, rfl, rfl, ?_, h.val ok (.int _)⟩
      simpa [CPow, and_assoc] using c
    · cases e
  · split at e
    · cases e
      obtain ⟨a, vs, rfl, h1, h2⟩ := rx.tup
      obtain ⟨b, us, rfl, h3, h4⟩ := ry.tup
      rename_i c
      have c := of_decide_eq_true c
      refine .inr (.inl ⟨a, b, vs, us, rfl, rfl, h1, h3, by rw [← h2.length, ← h4.length]; exact c, fun z => ?_, fun _ z => ?_, fun _ _ p hp => ?_⟩)
      · subst z
        cases h2
        exact h.val ok (.tup h3 h4)
      · subst z
        cases h4
        rw [List.append_nil] at h
        exact h.val ok (.tup h1 h2)
      · exact h.tup ok (h2.append h4) hp
    · cases e
  · split at e
    · cases e
      have := rx.str; have := ry.str; subst_vars
      rename_i c
      exact .inr (.inr ⟨_, _, rfl, rfl, of_decide_eq_true c, h.val ok (.str _)⟩)
    · cases e
  · cases e
theorem good_bin (o : Bop) {a b : E F} (ha : GoodE G C cs N k a) (hb : GoodE G C cs N k b) : GoodE G C cs N k (.bin o a b) := by
  intro sc ast X XW fnB h xo hsc
  cases ast with
  | BinOp x q y p =>
    replace h : (decide (q = bopOp o) && okE G.nm cs N sc a x && okE G.nm cs N sc b y) = true := h
    obtain ⟨h, h3⟩ := and_t h
    obtain ⟨h1, h2⟩ := and_t h
    have h1 := of_decide_eq_true h1
    subst h1
    refine PE.weak (pe_op (op_bin o) (ha sc x X XW fnB h2 xo hsc) (hb sc y X XW fnB h3 xo hsc)) fun σ H Q q => ?_
    obtain ⟨w, w0, env, rfl, ok, en, q⟩ := q
    exact two_of (Q' := fun v u H2 => rBin X.K o v u H2 Q) ok en q fun x y v u w' r ok1 rx ry hr h => bin_ok ok1 hr rx ry h
  | _ => cases (show false = true from h)
/-! ### comparisons -/
section
variable {K : PySem.W.Frag} {ro fb : List Addr} {H : Hp}
theorem dpInts : ∀ l : List Int, DpAll K H (l.map V.int) (l.map PyData.int)
  | [] => .nil
  | i :: l => .cons (.int i) (dpInts l)
mutual
theorem toD_dp : ∀ (a : AV) (d : PyData) (v : V), toD a = some d → RA K ro fb H a v → Dp K H v d
  | .non, d, v, e, h => by
    cases h
    cases (show some PyData.none = some d from e)
    exact .non
  | .bl b, d, v, e, h => by
    cases h
    cases (show some (PyData.bool b) = some d from e)
    exact .bl b
  | .int b, d, v, e, h => by
    cases h
    cases (show some (PyData.int b) = some d from e)
    exact .int b
  | .str b, d, v, e, h => by
    cases h
    cases (show some (PyData.str b) = some d from e)
    exact .str b
  | .tup l, d, v, e, h => by
    cases h with
    | tup h1 h2 =>
      obtain ⟨ds, q1, q2⟩ := Option.map_eq_some_iff.mp (show (toDs l).map PyData.tuple = some d from e)
      subst q2
      exact .tup h1 (toDs_dp l ds _ q1 h2)
  | .lst l, d, v, e, h => by
    cases h with
    | lst h1 _ h2 =>
      obtain ⟨ds, q1, q2⟩ := Option.map_eq_some_iff.mp (show (toDs l).map PyData.list = some d from e)
      subst q2
      exact .lst (SqL.of h1) (toDs_dp l ds _ q1 h2)
  | .scr l, d, v, e, h => by
    cases h with
    | scr h1 =>
      cases (show some (PyData.list (l.map .int)) = some d from e)
      exact .lst h1.sq (dpInts l)
  | .loc _, d, v, e, h => by cases (show none = some d from e)
theorem toDs_dp : ∀ (l : List AV) (ds : List PyData) (vs : List V), toDs l = some ds → RAs K ro fb H l vs → DpAll K H vs ds
  | [], ds, vs, e, h => by
    cases h
    cases (show some [] = some ds from e)
    exact .nil
  | a :: l, ds, vs, e, h => by
    cases h with
    | cons h1 h2 =>
      have e : (match toD a, toDs l with
        | some d, some ds => some (d :: ds)
        | _, _ => none) = some ds := e
      cases q1 : toD a with
      | none => rw [q1] at e; cases e
      | some d =>
        cases q2 : toDs l with
        | none => rw [q1, q2] at e; cases e
        | some dl =>
          rw [q1, q2] at e
          cases e
          exact .cons (toD_dp a d _ q1 h1) (toDs_dp l dl _ q2 h2)
end
end
theorem dat_dp {K : PySem.W.Frag} {w : Wd} {x : R} {v : V} {d : PyData} (ok : WOK K w) (e : dat w.st x = some d) (h : RC K w x v) : Dp K w.H v d := by
  have lst : ∀ l : List AV, (toDs l).map PyData.list = some d → (∃ a vs, v = .ref a ∧ w.H a = some (.lst vs) ∧ RWs K w l vs) → Dp K w.H v d := fun l e h => by
    obtain ⟨a, vs, rfl, h1, h2⟩ := h
    obtain ⟨ds, q1, q2⟩ := Option.map_eq_some_iff.mp e
    subst q2
    exact .lst (SqL.of h1) (toDs_dp l ds _ q1 h2)
  cases x with
  | tl l => exact lst l e h
  | bo l => exact lst l e h
  | v a =>
    cases a with
    | lst l => exact lst l e h
    | loc n =>
      have h : RW K w (.loc n) v := h
      cases h with
      | loc h1 =>
        have e : (match w.st.ob[n]? with
          | some (.lst l) => (toDs l).map .list
          | none => none) = some d := e
        cases q : w.st.ob[n]? with
        | none => rw [q] at e; cases e
        | some o =>
          rw [q] at e
          cases o with
          | lst l =>
            obtain ⟨vs, z1, z2⟩ := ok.obj n _ _ q h1
            exact lst l e ⟨_, vs, rfl, z1, z2⟩
    | _ => exact toD_dp _ d v e h
theorem eqR_ok {K : PySem.W.Frag} {w : Wd} {x y : R} {v u : V} {b : Bool} (ok : WOK K w) (e : eqR w.st x y = some b) (rx : RC K w x v) (ry : RC K w y u) :
    ∃ d e, Dp K w.H v d ∧ Dp K w.H u e ∧ SeqAt.shaped d = true ∧ SeqAt.shaped e = true ∧ PyData.eqv d e = b := by
  unfold eqR at e
  cases q1 : dat w.st x with
  | none => rw [q1] at e; cases e
  | some d =>
    cases q2 : dat w.st y with
    | none => rw [q1, q2] at e; cases e
    | some d' =>
      rw [q1, q2] at e
      simp only at e
      split at e
      · rename_i c
        obtain ⟨c1, c2⟩ := and_t c
        exact ⟨d, d', dat_dp ok q1 rx, dat_dp ok q2 ry, c1, c2, Option.some.inj e⟩
      · cases e
def rCmp (K : PySem.W.Frag) : Cop → R2
  | .eq => rEqD K
  | .ne => rNeD K
  | .isn => fun x y H Q => y = .non ∧ Q (.bl (decide (x = .non))) H
  | .notn => fun x y H Q => y = .non ∧ Q (.bl (!decide (x = .non))) H
  | .lt => rI0 fun i j => .bl (decide (i < j))
  | .le => rI0 fun i j => .bl (decide (i ≤ j))
  | .gt => rI0 fun i j => .bl (decide (j < i))
  | .ge => rI0 fun i j => .bl (decide (j ≤ i))
  | .inn => fun _ _ _ _ => False
  | .notin => fun _ _ _ _ => False
theorem op_cmp {X : Cx} (hu : X.A.units + 64 < cLine) : ∀ o : Cop, OpR X (compareOp (copOp o)) (rCmp X.K o)
  | .eq => op_eqD hu
  | .ne => op_neD hu
  | .isn => op_isN
  | .notn => op_notN
  | .lt => op_lt
  | .le => op_le
  | .gt => op_gt
  | .ge => op_ge
  | .inn => fun _ _ _ _ _ _ _ _ _ _ _ _ h => False.elim h
  | .notin => fun _ _ _ _ _ _ _ _ _ _ _ _ h => False.elim h
theorem isNon_ok {K : PySem.W.Frag} {w : Wd} {x : R} {v : V} (h : RC K w x v) : isNon x = decide (v = .non) := by
  have no : ∀ {l : List AV}, (∃ a vs, v = .ref a ∧ w.H a = some (.lst vs) ∧ RWs K w l vs) → false = decide (v = .non) := fun {l} h => by
    obtain ⟨a, vs, rfl, _⟩ := h
    rfl
  cases x with
  | tl l => exact no h
  | bo l => exact no h
  | v a =>
    cases a with
    | lst l => exact no h
    | non =>
      have h : RW K w .non v := h
      cases h; rfl
    | bl b =>
      have h : RW K w (.bl b) v := h
      cases h; rfl
    | int b =>
      have h : RW K w (.int b) v := h
      cases h; rfl
    | str b =>
      have h : RW K w (.str b) v := h
      cases h; rfl
    | tup b =>
      have h : RW K w (.tup b) v := h
      cases h; rfl
    | scr b =>
      have h : RW K w (.scr b) v := h
      cases h; rfl
    | loc b =>
      have h : RW K w (.loc b) v := h
      cases h; rfl
theorem RC.non {K : PySem.W.Frag} {w : Wd} {v : V} (h : RC K w (.v .non) v) : v = .non := by
  have h : RW K w .non v := h
  cases h; rfl
theorem cmp_ok {K : PySem.W.Frag} {w : Wd} {o : Cop} {x y : R} {v u : V} {b : Bool} {Q : VK} (ok : WOK K w) (e : cmpR w.st o x y = some b) (rx : RC K w x v) (ry : RC K w y u) (h : Q (.bl b) w.H) : rCmp K o v u w.H Q := by
  unfold cmpR at e
  split at e
  · obtain ⟨d, d', h1, h2, h3, h4, h5⟩ := eqR_ok ok e rx ry
    exact ⟨d, d', h1, h2, h3, h4, by rw [h5]; exact h⟩
  · obtain ⟨c, q1, q2⟩ := Option.map_eq_some_iff.mp e
    obtain ⟨d, d', h1, h2, h3, h4, h5⟩ := eqR_ok ok q1 rx ry
    exact ⟨d, d', h1, h2, h3, h4, by rw [h5, q2]; exact h⟩
  · cases e
    have := ry.non; subst this
    exact ⟨rfl, by rw [← isNon_ok rx]; exact h⟩
  · cases e
    have := ry.non; subst this
    exact ⟨rfl, by rw [← isNon_ok rx]; exact h⟩
  · cases e
    have := rx.int; have := ry.int; subst_vars
    exact ⟨_, _, rfl, rfl, h⟩
  · cases e
    have := rx.int; have := ry.int; subst_vars
    exact ⟨_, _, rfl, rfl, h⟩
  · cases e
    have := rx.int; have := ry.int; subst_vars
    exact ⟨_, _, rfl, rfl, h⟩
  · cases e
    have := rx.int; have := ry.int; subst_vars
    exact ⟨_, _, rfl, rfl, h⟩
  · cases e
/-! ### what is no part of the language -/
section
variable {nm : F → Str} {sc : Scope} {e : E F} {y : Expr}
theorem okE_star (h : okE nm cs N sc e y = true) (es : List Expr) (env : PySem.Env) : starEach (y :: es) env = (false, eval y env) :: starEach es env := by
  cases y with
  | Starred v p => cases e <;> cases (show false = true from h)
  | _ => rfl
theorem okE_mark (h : okE nm cs N sc e y = true) (op : CmpOp) : behindInMarks op y = false := by
  cases y with
  | Set v p => cases e <;> cases (show false = true from h)
  | _ => rfl
theorem okE_iter (h : okE nm cs N sc e y = true) (env : PySem.Env) (x : Value) : foldedSetIterable y env x = pure x := by
  cases y with
  | Set v p => cases e <;> cases (show false = true from h)
  | _ => rfl
end
/-! ### tests -/
def GoodT (G : Glo F) (C : Cf F) (cs : List (Str × Const)) (N : List Str) (k : Nat) (e : E F) : Prop := tst e = true → ∀ (sc : Scope) (ast : Expr) (X : Cx) (XW : XK) (fnB : Bool), okE G.nm cs N sc e ast = true → XOk G C cs N k X XW fnB → X.env.scope = sc → PT X ast (tEvT G C X.K XW e)
theorem pt_of {X : Cx} {XW : XK} {ast : Expr} {e : E F} (h : PE X ast (tEv G C X.K XW e)) (he : ∀ whole, isTrue ast X.env whole = (do let v ← whole; standAt ast.pos; holding [v] (truthy v))) : PT X ast (tEvT G C X.K XW e) := by
  refine PT.weak (pt_val h he) fun σ H Q q => ?_
  obtain ⟨w, w0, env, rfl, ok, en, q⟩ := q
  refine ⟨w, w0, env, rfl, ok, en, q.imp fun r w' ⟨b, e, q⟩ v rv => ?_⟩
  subst e
  have rv : RW X.K w' (.bl b) v := rv
  cases rv
  exact ⟨b, rfl, q⟩
theorem tstP {t : TE} {X : Cx} {XW : XK} {e : E F} (h : ∀ σ H Q, tEv G C X.K XW e σ H Q → t σ H Q) : ∀ σ H Q, tEvT G C X.K XW e σ H Q → tTest t σ H Q := fun σ H Q q => h σ H _ (by
  obtain ⟨w, w0, env, rfl, ok, en, q⟩ := q
  refine ⟨w, w0, env, rfl, ok, en, q.imp fun r w' ⟨b, e, q⟩ v rv => ?_⟩
  subst e
  have rv : RW X.K w' (.bl b) v := rv
  cases rv
  exact ⟨b, rfl, q⟩)
theorem two_c {K : PySem.W.Frag} {XW : XK} {a b : E F} {σ : L2.St} {o : Cop} {Q : VK} {w w0 : Wd} {env : Env} (ok : WOK K w) (en : REnv K w0 w env σ)
    (h : Sat K w (ev C env (.cmp o a b) w.st) (fun r w' => ∀ v, RR K w w' r v → Q v w'.H) (xq G XW)) :
    tEv G C K XW a σ w.H fun v H1 => tEv G C K XW b σ H1 fun u H2 => rCmp K o v u H2 Q :=
  two_of (g := fun s x y => (cmpR s o (fz x) (fz y)).map fun k => .v (.bl k)) ok en h fun x y v u w' r ok1 rx ry hr h => by
    obtain ⟨c, q1, q2⟩ := Option.map_eq_some_iff.mp hr
    subst q2
    exact cmp_ok ok1 q1 rx ry (h.val ok1 (.bl c))
theorem good_cmp (o : Cop) {a b : E F} (ha : GoodE G C cs N k a) (hb : GoodE G C cs N k b) : GoodE G C cs N k (.cmp o a b) ∧ GoodT G C cs N k (.cmp o a b) := by
  have go : ∀ (sc : Scope) (ast : Expr) (X : Cx) (XW : XK) (fnB : Bool), okE G.nm cs N sc (.cmp o a b) ast = true → XOk G C cs N k X XW fnB → X.env.scope = sc → ∃ x y p, ast = .Compare x [copOp o] [y] p ∧ PE X x (tEv G C X.K XW a) ∧ PE X y (tEv G C X.K XW b) ∧ behindInMarks (copOp o) y = false := by
    intro sc ast X XW fnB h xo hsc
    cases ast with
    | Compare x qs ys p =>
      match qs, ys, h with
      | [q], [y], h =>
        replace h : (decide (q = copOp o) && okE G.nm cs N sc a x && okE G.nm cs N sc b y) = true := h
        obtain ⟨h, h3⟩ := and_t h
        obtain ⟨h1, h2⟩ := and_t h
        have h1 := of_decide_eq_true h1
        subst h1
        exact ⟨x, y, p, rfl, ha sc x X XW fnB h2 xo hsc, hb sc y X XW fnB h3 xo hsc, okE_mark h3 _⟩
    | _ => cases (show false = true from h)
  refine ⟨fun sc ast X XW fnB h xo hsc => ?_, fun _ sc ast X XW fnB h xo hsc => ?_⟩
  · obtain ⟨x, y, p, rfl, h1, h2, h3⟩ := go sc ast X XW fnB h xo hsc
    refine PE.weak (pe_cmpR (op_cmp xo.room.units o) h1 h2 h3) fun σ H Q q => ?_
    obtain ⟨w, w0, env, rfl, ok, en, q⟩ := q
    exact two_c ok en q
  · obtain ⟨x, y, p, rfl, h1, h2, h3⟩ := go sc ast X XW fnB h xo hsc
    refine PT.weak (pt_cmpR (op_cmp xo.room.units o) h1 h2 h3) (tstP fun σ H Q q => ?_)
    obtain ⟨w, w0, env, rfl, ok, en, q⟩ := q
    exact two_c ok en q
theorem Sat.ofB {K : PySem.W.Frag} {w : Wd} {o : Option Bool} {f : Bool → Sto → Rs R} {P : R → Wd → Prop} {Z : Str → List AV → Wd → Prop} (h : Sat K w ((Rs.of o w.st).bind f) P Z) : ∃ c, o = some c ∧ Sat K w (f c w.st) P Z := by
  cases o with
  | none => exact (h : False).elim
  | some c => exact ⟨c, rfl, h⟩
theorem chain_ok {K : PySem.W.Frag} {XW : XK} {a b : E F} {σ : L2.St} {o : Cop} {Q : VK} {w w0 : Wd} {env : Env} {f : R → Sto → Rs R} (ok : WOK K w) (en : REnv K w0 w env σ)
    (h : Sat K w ((ev C env a w.st).bind fun x s => (ev C env b s).bind fun y s => (Rs.of (cmpR s o (fz x) (fz y)) s).bind fun k s => match k with
      | false => .ok (.v (.bl false)) s
      | true => f y s) (fun r w' => ∀ v, RR K w w' r v → Q v w'.H) (xq G XW)) {Q' : V → V → Hp → Prop}
    (k : ∀ y u w', Ext w w' → WOK K w' → REnv K w0 w' env σ → RR K w w' y u → Sat K w' (f y w'.st) (fun r w2 => ∀ v, RR K w' w2 r v → Q v w2.H) (xq G XW) → ∀ v, Q' v u w'.H) :
    tEv G C K XW a σ w.H fun v H1 => tEv G C K XW b σ H1 fun u H2 => rCmp K o v u H2 fun z H3 => ∃ k, z = .bl k ∧ (if k = true then Q' v u H3 else Q (.bl false) H3) :=
  two ok en h fun x y v u w' e1 ok1 en1 rx ry h => by
    obtain ⟨c, hc, h⟩ := Sat.ofB h
    refine cmp_ok ok1 hc rx.rc ry.rc ⟨c, rfl, ?_⟩
    cases c with
    | false =>
      refine iteF ?_
      exact (h.here rfl ok1) _ (.bl false)
    | true =>
      refine iteT (k y u w' e1 ok1 en1 ry (h.imp fun r w2 q v rv => q v (rv.back e1)) v)
/-- .. o3 d -/
def tChain3 (r r' r'' : R2) (ta tb tc td : TE) : TE := fun σ H Q => ta σ H fun x H1 => tb σ H1 fun y H2 => r x y H2 fun z H3 => ∃ k, z = .bl k ∧
  (if k = true then (tc σ H3 fun w' H4 => r' y w' H4 fun z2 H5 => ∃ k2, z2 = .bl k2 ∧ (if k2 = true then td σ H5 fun u H6 => r'' w' u H6 Q else Q (.bl false) H5)) else Q (.bl false) H3)
section
variable {X : Cx} {a b c d : Expr} {ta tb tc td : TE} {pos : Pos}
theorem pe_chain3 {op op' op'' : CmpOp} {r r' r'' : R2} (ho : OpR X (compareOp op) r) (ho' : OpR X (compareOp op') r') (ho'' : OpR X (compareOp op'') r'') (ha : PE X a ta) (hb : PE X b tb) (hc : PE X c tc) (hd : PE X d td)
    (hm : lastMarks [op, op', op''] [b, c, d] = false) : PE X (.Compare a [op, op', op''] [b, c, d] pos) (tChain3 r r' r'' ta tb tc td) := by
  refine ⟨fun pins s σ H Q I h => ?_⟩
  refine Compare_chain (thn (ha.run pins s σ H _ I h) fun v s1 ⟨x, H1, I1, r1, q1⟩ => chain_link (thn (hb.run pins s1 σ H1 _ I1 q1) fun u s2 ⟨y, H2, I2, r2, q2⟩ =>
    thn (ho pins s2 σ H2 x y v u _ I2 r1 r2 q2) fun d s3 ⟨z, H3, I3, r3, k, e, q3⟩ => ?_)) hm
  subst e
  cases r3
  refine wpAny_truthy_bool ?_
  cases k with
  | false => exact ite_ff ⟨.bl false, H3, I3, rfl, q3⟩
  | true =>
    refine ite_tt (chain_link (thn (hc.run pins s3 σ H3 _ I3 q3) fun w' s4 ⟨z', H4, I4, r4, q4⟩ => thn (ho' pins s4 σ H4 y z' u w' _ I4 r2 r4 q4) fun d2 s5 ⟨z2, H5, I5, r5, k2, e2, q5⟩ => ?_))
    subst e2
    cases r5
    refine wpAny_truthy_bool ?_
    cases k2 with
    | false => exact ite_ff ⟨.bl false, H5, I5, rfl, q5⟩
    | true => exact ite_tt (chain_last (thn (hd.run pins s5 σ H5 _ I5 q5) fun w6 s6 ⟨z6, H6, I6, r6, q6⟩ => ho'' pins s6 σ H6 z' z6 w' w6 Q I6 r4 r6 q6))
theorem pt_chain3 {op op' op'' : CmpOp} {r r' r'' : R2} (ho : OpR X (compareOp op) r) (ho' : OpR X (compareOp op') r') (ho'' : OpR X (compareOp op'') r'') (ha : PE X a ta) (hb : PE X b tb) (hc : PE X c tc) (hd : PE X d td)
    (hm : lastMarks [op, op', op''] [b, c, d] = false) : PT X (.Compare a [op, op', op''] [b, c, d] pos) (tTest (tChain3 r r' r'' ta tb tc td)) := by
  refine ⟨fun pins s σ H Q I h => ?_⟩
  refine isTrue_chain (thn (ha.run pins s σ H _ I h) fun v s1 ⟨x, H1, I1, r1, q1⟩ => test_link (thn (hb.run pins s1 σ H1 _ I1 q1) fun u s2 ⟨y, H2, I2, r2, q2⟩ =>
    thn (ho pins s2 σ H2 x y v u _ I2 r1 r2 q2) fun d s3 ⟨z, H3, I3, r3, k, e, q3⟩ => ?_)) hm
  subst e
  cases r3
  refine wpAny_truthy_bool ?_
  cases k with
  | false =>
    obtain ⟨k', e', q'⟩ := q3
    cases e'
    exact ite_ff ⟨H3, I3, q'⟩
  | true =>
    refine ite_tt (test_link (thn (hc.run pins s3 σ H3 _ I3 q3) fun w' s4 ⟨z', H4, I4, r4, q4⟩ => thn (ho' pins s4 σ H4 y z' u w' _ I4 r2 r4 q4) fun d2 s5 ⟨z2, H5, I5, r5, k2, e2, q5⟩ => ?_))
    subst e2
    cases r5
    refine wpAny_truthy_bool ?_
    cases k2 with
    | false =>
      obtain ⟨k', e', q'⟩ := q5
      cases e'
      exact ite_ff ⟨H5, I5, q'⟩
    | true =>
      refine ite_tt (test_last (thn (hd.run pins s5 σ H5 _ I5 q5) fun w6 s6 ⟨z6, H6, I6, r6, q6⟩ => thn (ho'' pins s6 σ H6 z' z6 w' w6 _ I6 r4 r6 q6) fun d' s7 ⟨z7, H7, I7, r7, k7, e7, q7⟩ => ?_))
      subst e7
      cases r7
      exact wpAny_truthy_bool ⟨H7, I7, q7⟩
end
theorem RR.rcx {K : PySem.W.Frag} {w w1 w2 : Wd} {r : R} {v : V} (h : RR K w w1 r v) (e1 : Ext w w1) (ok : WOK K w1) (e : Ext w1 w2) : RC K w2 (fz r) v := (h.ext e1 ok e).rc
/-- the last link -/
theorem link_ok {K : PySem.W.Frag} {XW : XK} {c : E F} {σ : L2.St} {o : Cop} {Q : VK} {w w1 w0 : Wd} {env : Env} {y : R} {u : V} (e : Ext w w1) (ok : WOK K w1) (en : REnv K w0 w1 env σ) (ry : RR K w w1 y u)
    (h : Sat K w1 ((ev C env c w1.st).bind fun z s => Rs.of ((cmpR s o (fz y) (fz z)).map fun k => R.v (.bl k)) s) (fun r w2 => ∀ v, RR K w1 w2 r v → Q v w2.H) (xq G XW)) :
    tEv G C K XW c σ w1.H fun t H4 => rCmp K o u t H4 Q :=
  ⟨w1, w0, env, rfl, ok, en, h.bind.imp fun z w2 ⟨e2, ok2, h2⟩ t rz => by
    obtain ⟨r, hr, h3⟩ := ans_of e2 h2
    obtain ⟨c, q1, q2⟩ := Option.map_eq_some_iff.mp hr
    subst q2
    exact cmp_ok ok2 q1 (ry.rcx e ok e2) rz.rc (h3.val ok2 (.bl c))⟩
theorem link2_ok {K : PySem.W.Frag} {XW : XK} {c d : E F} {σ : L2.St} {p q : Cop} {Q : VK} {w w1 w0 : Wd} {env : Env} {y : R} {u : V} (e : Ext w w1) (ok : WOK K w1) (en : REnv K w0 w1 env σ) (ry : RR K w w1 y u)
    (h : Sat K w1 ((ev C env c w1.st).bind fun z s => (Rs.of (cmpR s p (fz y) (fz z)) s).bind fun k s => match k with
      | false => .ok (.v (.bl false)) s
      | true => (ev C env d s).bind fun u s => .of ((cmpR s q (fz z) (fz u)).map fun k => .v (.bl k)) s) (fun r w2 => ∀ v, RR K w1 w2 r v → Q v w2.H) (xq G XW)) :
    tEv G C K XW c σ w1.H fun t H4 => rCmp K p u t H4 fun z2 H5 => ∃ k2, z2 = .bl k2 ∧ (if k2 = true then tEv G C K XW d σ H5 fun u H6 => rCmp K q t u H6 Q else Q (.bl false) H5) :=
  ⟨w1, w0, env, rfl, ok, en, h.bind.imp fun z w2 ⟨e2, ok2, h2⟩ t rz => by
    obtain ⟨c, hc, h3⟩ := Sat.ofB h2
    refine cmp_ok ok2 hc (ry.rcx e ok e2) rz.rc ⟨c, rfl, ?_⟩
    cases c with
    | false => exact iteF ((h3.here rfl ok2) _ (.bl false))
    | true => exact iteT (link_ok e2 ok2 (en.ext ok e2) rz (h3.imp fun r w3 q v rv => q v (rv.back e2)))⟩
theorem two_ch2 {K : PySem.W.Frag} {XW : XK} {a b c : E F} {σ : L2.St} {o p : Cop} {Q : VK} (q : tEv G C K XW (.ch2 o p a b c) σ H Q) :
    tChain (rCmp K o) (rCmp K p) (tEv G C K XW a) (tEv G C K XW b) (tEv G C K XW c) σ H Q := by
  obtain ⟨w, w0, env, rfl, ok, en, q⟩ := q
  exact chain_ok ok en q fun y u w' e1 ok1 en1 ry h v => link_ok e1 ok1 en1 ry h
theorem two_ch3 {K : PySem.W.Frag} {XW : XK} {a b c d : E F} {σ : L2.St} {o p q : Cop} {Q : VK} (z : tEv G C K XW (.ch3 o p q a b c d) σ H Q) :
    tChain3 (rCmp K o) (rCmp K p) (rCmp K q) (tEv G C K XW a) (tEv G C K XW b) (tEv G C K XW c) (tEv G C K XW d) σ H Q := by
  obtain ⟨w, w0, env, rfl, ok, en, z⟩ := z
  exact chain_ok ok en z fun y u w' e1 ok1 en1 ry h v => link2_ok e1 ok1 en1 ry h
theorem good_ch2 (o p : Cop) {a b c : E F} (ha : GoodE G C cs N k a) (hb : GoodE G C cs N k b) (hc : GoodE G C cs N k c) : GoodE G C cs N k (.ch2 o p a b c) ∧ GoodT G C cs N k (.ch2 o p a b c) := by
  have go : ∀ (sc : Scope) (ast : Expr) (X : Cx) (XW : XK) (fnB : Bool), okE G.nm cs N sc (.ch2 o p a b c) ast = true → XOk G C cs N k X XW fnB → X.env.scope = sc → ∃ x y z ps, ast = .Compare x [copOp o, copOp p] [y, z] ps ∧ PE X x (tEv G C X.K XW a) ∧ PE X y (tEv G C X.K XW b) ∧ PE X z (tEv G C X.K XW c) ∧ lastMarks [copOp o, copOp p] [y, z] = false := by
    intro sc ast X XW fnB h xo hsc
    cases ast with
    | Compare x qs ys ps =>
      match qs, ys, h with
      | [q, r], [y, z], h =>
        replace h : (decide (q = copOp o) && decide (r = copOp p) && okE G.nm cs N sc a x && okE G.nm cs N sc b y && okE G.nm cs N sc c z) = true := h
        obtain ⟨h, h5⟩ := and_t h
        obtain ⟨h, h4⟩ := and_t h
        obtain ⟨h, h3⟩ := and_t h
        obtain ⟨h1, h2⟩ := and_t h
        have h1 := of_decide_eq_true h1
        have h2 := of_decide_eq_true h2
        subst h1 h2
        exact ⟨x, y, z, ps, rfl, ha sc x X XW fnB h3 xo hsc, hb sc y X XW fnB h4 xo hsc, hc sc z X XW fnB h5 xo hsc, okE_mark h5 _⟩
    | _ => cases (show false = true from h)
  refine ⟨fun sc ast X XW fnB h xo hsc => ?_, fun _ sc ast X XW fnB h xo hsc => ?_⟩
  · obtain ⟨x, y, z, ps, rfl, h1, h2, h3, h4⟩ := go sc ast X XW fnB h xo hsc
    exact PE.weak (pe_chain (op_cmp xo.room.units o) (op_cmp xo.room.units p) h1 h2 h3 h4) fun σ H Q q => two_ch2 q
  · obtain ⟨x, y, z, ps, rfl, h1, h2, h3, h4⟩ := go sc ast X XW fnB h xo hsc
    exact PT.weak (pt_chain (op_cmp xo.room.units o) (op_cmp xo.room.units p) h1 h2 h3 h4) (tstP fun σ H Q q => two_ch2 q)
theorem good_ch3 (o p q : Cop) {a b c d : E F} (ha : GoodE G C cs N k a) (hb : GoodE G C cs N k b) (hc : GoodE G C cs N k c) (hd : GoodE G C cs N k d) : GoodE G C cs N k (.ch3 o p q a b c d) ∧ GoodT G C cs N k (.ch3 o p q a b c d) := by
  have go : ∀ (sc : Scope) (ast : Expr) (X : Cx) (XW : XK) (fnB : Bool), okE G.nm cs N sc (.ch3 o p q a b c d) ast = true → XOk G C cs N k X XW fnB → X.env.scope = sc → ∃ x y z u ps, ast = .Compare x [copOp o, copOp p, copOp q] [y, z, u] ps ∧ PE X x (tEv G C X.K XW a) ∧ PE X y (tEv G C X.K XW b) ∧ PE X z (tEv G C X.K XW c) ∧ PE X u (tEv G C X.K XW d) ∧ lastMarks [copOp o, copOp p, copOp q] [y, z, u] = false := by
    intro sc ast X XW fnB h xo hsc
    cases ast with
    | Compare x qs ys ps =>
      match qs, ys, h with
      | [o', p', q'], [y, z, u], h =>
        replace h : (decide (o' = copOp o) && decide (p' = copOp p) && decide (q' = copOp q) && okE G.nm cs N sc a x && okE G.nm cs N sc b y && okE G.nm cs N sc c z && okE G.nm cs N sc d u) = true := h
        obtain ⟨h, h7⟩ := and_t h
        obtain ⟨h, h6⟩ := and_t h
        obtain ⟨h, h5⟩ := and_t h
        obtain ⟨h, h4⟩ := and_t h
        obtain ⟨h, h3⟩ := and_t h
        obtain ⟨h1, h2⟩ := and_t h
        have h1 := of_decide_eq_true h1
        have h2 := of_decide_eq_true h2
        have h3 := of_decide_eq_true h3
        subst h1 h2 h3
        exact ⟨x, y, z, u, ps, rfl, ha sc x X XW fnB h4 xo hsc, hb sc y X XW fnB h5 xo hsc, hc sc z X XW fnB h6 xo hsc, hd sc u X XW fnB h7 xo hsc, okE_mark h7 _⟩
    | _ => cases (show false = true from h)
  refine ⟨fun sc ast X XW fnB h xo hsc => ?_, fun _ sc ast X XW fnB h xo hsc => ?_⟩
  · obtain ⟨x, y, z, u, ps, rfl, h1, h2, h3, h4, h5⟩ := go sc ast X XW fnB h xo hsc
    exact PE.weak (pe_chain3 (op_cmp xo.room.units o) (op_cmp xo.room.units p) (op_cmp xo.room.units q) h1 h2 h3 h4 h5) fun σ H Q q => two_ch3 q
  · obtain ⟨x, y, z, u, ps, rfl, h1, h2, h3, h4, h5⟩ := go sc ast X XW fnB h xo hsc
    exact PT.weak (pt_chain3 (op_cmp xo.room.units o) (op_cmp xo.room.units p) (op_cmp xo.room.units q) h1 h2 h3 h4 h5) (tstP fun σ H Q q => two_ch3 q)
/-! ### not, and, or -/
theorem bl_of {r : R} {b : Bool} (h : bl? r = some b) : r = .v (.bl b) := by
  unfold bl? at h
  split at h
  · cases h; rfl
  · cases h
theorem Sat.bl {K : PySem.W.Frag} {α : Type} {w : Wd} {r : R} {f : Bool → Sto → Rs α} {P : α → Wd → Prop} {Z : Str → List AV → Wd → Prop} (h : Sat K w ((Rs.of (bl? r) w.st).bind f) P Z) : ∃ c, r = .v (.bl c) ∧ Sat K w (f c w.st) P Z := by
  cases e : bl? r with
  | none => rw [e] at h; exact (h : False).elim
  | some c =>
    rw [e] at h
    exact ⟨c, bl_of e, h⟩
theorem Sat.blm {K : PySem.W.Frag} {w : Wd} {r : R} {f : Bool → Bool} {P : R → Wd → Prop} {Z : Str → List AV → Wd → Prop} (ok : WOK K w) (h : Sat K w (Rs.of ((bl? r).map fun k => R.v (.bl (f k))) w.st) P Z) : ∃ c, r = .v (.bl c) ∧ P (.v (.bl (f c))) w := by
  cases e : bl? r with
  | none => rw [e] at h; exact (h : False).elim
  | some c =>
    rw [e] at h
    exact ⟨c, bl_of e, h w rfl (Ext.refl w) ok⟩
theorem good_not {a : E F} (ha : GoodE G C cs N k a) (ht : GoodT G C cs N k a) : GoodE G C cs N k (.not a) ∧ GoodT G C cs N k (.not a) := by
  refine ⟨fun sc ast X XW fnB h xo hsc => ?_, fun t sc ast X XW fnB h xo hsc => ?_⟩
  · cases ast with
    | UnaryOp o x p =>
      cases o with
      | Not =>
        refine PE.weak (pe_not (ha sc x X XW fnB h xo hsc)) fun σ H Q q => ?_
        obtain ⟨w, w0, env, rfl, ok, en, q⟩ := q
        refine ⟨w, w0, env, rfl, ok, en, q.bind.imp fun r w1 ⟨e1, ok1, h1⟩ v rv => ?_⟩
        obtain ⟨c, rfl, h2⟩ := Sat.blm ok1 h1
        have rv : RW X.K w1 (.bl c) v := rv
        cases rv
        exact ⟨c, rfl, h2 _ (.bl _)⟩
      | _ => cases (show false = true from h)
    | _ => cases (show false = true from h)
  · cases ast with
    | UnaryOp o x p =>
      cases o with
      | Not =>
        refine PT.weak (pt_not (ht t sc x X XW fnB h xo hsc)) fun σ H Q q => ?_
        obtain ⟨w, w0, env, rfl, ok, en, q⟩ := q
        refine ⟨w, w0, env, rfl, ok, en, q.bind.imp fun r w1 ⟨e1, ok1, h1⟩ => ?_⟩
        obtain ⟨c, rfl, b, h2, h3⟩ := Sat.blm ok1 h1
        cases h2
        exact ⟨c, rfl, h3⟩
      | _ => cases (show false = true from h)
    | _ => cases (show false = true from h)

def tLAnd (G : Glo F) (C : Cf F) (K : PySem.W.Frag) (XW : XK) (es : Es F) : TE := fun σ H Q => ∃ w w0 env, w.H = H ∧ WOK K w ∧ REnv K w0 w env σ ∧ Sat K w (evAnd C env es w.st) (fun r w' => ∀ v, RR K w w' r v → Q v w'.H) (xq G XW)
def tLAndT (G : Glo F) (C : Cf F) (K : PySem.W.Frag) (XW : XK) (es : Es F) : TT := fun σ H Q => ∃ w w0 env, w.H = H ∧ WOK K w ∧ REnv K w0 w env σ ∧ Sat K w (evAnd C env es w.st) (fun r w' => ∃ b, r = .v (.bl b) ∧ Q b w'.H) (xq G XW)
def GoodAnd (G : Glo F) (C : Cf F) (cs : List (Str × Const)) (N : List Str) (k : Nat) (es : Es F) : Prop := ∀ (sc : Scope) (xs : List Expr) (p : Pos) (X : Cx) (XW : XK) (fnB : Bool), okEs G.nm cs N sc es xs = true → XOk G C cs N k X XW fnB → X.env.scope = sc →
  (∀ b0 es', es = .cons b0 es' → PE X (.BoolOp .And xs p) (tLAnd G C X.K XW es)) ∧ (∀ b0 es', es = .cons b0 es' → tsts es = true → PW X (.BoolOp .And xs p) (tLAndT G C X.K XW es))
theorem good_and_one {a : E F} (ha : GoodE G C cs N k a) (ht : GoodT G C cs N k a) : GoodAnd G C cs N k (.cons a .nil) := by
  intro sc xs p X XW fnB h xo hsc
  match xs, h with
  | [x], h =>
    replace h : (okE G.nm cs N sc a x && okEs G.nm cs N sc .nil []) = true := h
    obtain ⟨h1, _⟩ := and_t h
    refine ⟨fun _ _ _ => PE.weak (pe_one (ha sc x X XW fnB h1 xo hsc)) fun σ H Q q => ?_, fun _ _ _ t => PW.weak (pw_and1 (ht (and_t t).1 sc x X XW fnB h1 xo hsc)) fun σ H Q q => ?_⟩
    · obtain ⟨w, w0, env, rfl, ok, en, q⟩ := q
      refine ⟨w, w0, env, rfl, ok, en, q.bind.imp fun r w1 ⟨e1, ok1, h1⟩ v rv => ?_⟩
      obtain ⟨c, rfl, h2⟩ := Sat.blm (f := fun k => k) ok1 h1
      exact h2 v rv
    · obtain ⟨w, w0, env, rfl, ok, en, q⟩ := q
      refine ⟨w, w0, env, rfl, ok, en, q.bind.imp fun r w1 ⟨e1, ok1, h1⟩ => ?_⟩
      obtain ⟨c, rfl, b, h2, h3⟩ := Sat.blm (f := fun k => k) ok1 h1
      cases h2
      exact ⟨_, rfl, h3⟩
  | x :: y :: ys, h =>
    replace h : (okE G.nm cs N sc a x && false) = true := h
    cases (and_t h).2
theorem good_and_cons {a b0 : E F} {es : Es F} (ha : GoodE G C cs N k a) (ht : GoodT G C cs N k a) (hs : GoodAnd G C cs N k (.cons b0 es)) : GoodAnd G C cs N k (.cons a (.cons b0 es)) := by
  intro sc xs p X XW fnB h xo hsc
  match xs, h with
  | [x], h =>
    replace h : (okE G.nm cs N sc a x && false) = true := h
    cases (and_t h).2
  | x :: y :: ys, h =>
    replace h : (okE G.nm cs N sc a x && okEs G.nm cs N sc (.cons b0 es) (y :: ys)) = true := h
    obtain ⟨h1, h2⟩ := and_t h
    obtain ⟨k1, k2⟩ := hs sc (y :: ys) p X XW fnB h2 xo hsc
    refine ⟨fun _ _ _ => PE.weak (pe_and (ha sc x X XW fnB h1 xo hsc) (k1 _ _ rfl)) fun σ H Q q => ?_, fun _ _ _ t => PW.weak (pw_and (ht (and_t t).1 sc x X XW fnB h1 xo hsc) (k2 _ _ rfl (and_t t).2)) fun σ H Q q => ?_⟩
    · obtain ⟨w, w0, env, rfl, ok, en, q⟩ := q
      refine ⟨w, w0, env, rfl, ok, en, q.bind.imp fun r w1 ⟨e1, ok1, h1⟩ v rv => ?_⟩
      obtain ⟨c, rfl, h2⟩ := Sat.bl h1
      have rv : RW X.K w1 (.bl c) v := rv
      cases rv
      refine ⟨c, rfl, ?_⟩
      cases c with
      | false => exact iteF ((h2.here rfl ok1) _ (.bl false))
      | true => exact iteT ⟨w1, w0, env, rfl, ok1, en.ext ok e1, h2.imp fun r w2 q v rv => q v (rv.back e1)⟩
    · obtain ⟨w, w0, env, rfl, ok, en, q⟩ := q
      refine ⟨w, w0, env, rfl, ok, en, q.bind.imp fun r w1 ⟨e1, ok1, h1⟩ => ?_⟩
      obtain ⟨c, rfl, h2⟩ := Sat.bl h1
      refine ⟨c, rfl, ?_⟩
      cases c with
      | false =>
        obtain ⟨b, q1, q2⟩ := h2.here rfl ok1
        cases q1
        exact iteF q2
      | true => exact iteT ⟨w1, w0, env, rfl, ok1, en.ext ok e1, h2⟩
theorem good_and {b0 : E F} {es : Es F} (hs : GoodAnd G C cs N k (.cons b0 es)) : GoodE G C cs N k (.and (.cons b0 es)) ∧ GoodT G C cs N k (.and (.cons b0 es)) := by
  refine ⟨fun sc ast X XW fnB h xo hsc => ?_, fun t sc ast X XW fnB h xo hsc => ?_⟩
  · cases ast with
    | BoolOp o xs p =>
      cases o with
      | And => exact (hs sc xs p X XW fnB h xo hsc).1 _ _ rfl
      | _ => cases (show false = true from h)
    | _ => cases (show false = true from h)
  · cases ast with
    | BoolOp o xs p =>
      cases o with
      | And => exact PW.pt ((hs sc xs p X XW fnB h xo hsc).2 _ _ rfl t)
      | _ => cases (show false = true from h)
    | _ => cases (show false = true from h)

def tLOr (G : Glo F) (C : Cf F) (K : PySem.W.Frag) (XW : XK) (es : Es F) : TE := fun σ H Q => ∃ w w0 env, w.H = H ∧ WOK K w ∧ REnv K w0 w env σ ∧ Sat K w (evOr C env es w.st) (fun r w' => ∀ v, RR K w w' r v → Q v w'.H) (xq G XW)
def tLOrT (G : Glo F) (C : Cf F) (K : PySem.W.Frag) (XW : XK) (es : Es F) : TT := fun σ H Q => ∃ w w0 env, w.H = H ∧ WOK K w ∧ REnv K w0 w env σ ∧ Sat K w (evOr C env es w.st) (fun r w' => ∃ b, r = .v (.bl b) ∧ Q b w'.H) (xq G XW)
def GoodOr (G : Glo F) (C : Cf F) (cs : List (Str × Const)) (N : List Str) (k : Nat) (es : Es F) : Prop := ∀ (sc : Scope) (xs : List Expr) (p : Pos) (X : Cx) (XW : XK) (fnB : Bool), okEs G.nm cs N sc es xs = true → XOk G C cs N k X XW fnB → X.env.scope = sc →
  (∀ b0 es', es = .cons b0 es' → PE X (.BoolOp .Or xs p) (tLOr G C X.K XW es)) ∧ (∀ b0 es', es = .cons b0 es' → tsts es = true → PW X (.BoolOp .Or xs p) (tLOrT G C X.K XW es))
theorem good_or_one {a : E F} (ha : GoodE G C cs N k a) (ht : GoodT G C cs N k a) : GoodOr G C cs N k (.cons a .nil) := by
  intro sc xs p X XW fnB h xo hsc
  match xs, h with
  | [x], h =>
    replace h : (okE G.nm cs N sc a x && okEs G.nm cs N sc .nil []) = true := h
    obtain ⟨h1, _⟩ := and_t h
    refine ⟨fun _ _ _ => PE.weak (pe_one (ha sc x X XW fnB h1 xo hsc)) fun σ H Q q => ?_, fun _ _ _ t => PW.weak (pw_or1 (ht (and_t t).1 sc x X XW fnB h1 xo hsc)) fun σ H Q q => ?_⟩
    · obtain ⟨w, w0, env, rfl, ok, en, q⟩ := q
      refine ⟨w, w0, env, rfl, ok, en, q.bind.imp fun r w1 ⟨e1, ok1, h1⟩ v rv => ?_⟩
      obtain ⟨c, rfl, h2⟩ := Sat.blm (f := fun k => k) ok1 h1
      exact h2 v rv
    · obtain ⟨w, w0, env, rfl, ok, en, q⟩ := q
      refine ⟨w, w0, env, rfl, ok, en, q.bind.imp fun r w1 ⟨e1, ok1, h1⟩ => ?_⟩
      obtain ⟨c, rfl, b, h2, h3⟩ := Sat.blm (f := fun k => k) ok1 h1
      cases h2
      exact ⟨_, rfl, h3⟩
  | x :: y :: ys, h =>
    replace h : (okE G.nm cs N sc a x && false) = true := h
    cases (and_t h).2
theorem good_or_cons {a b0 : E F} {es : Es F} (ha : GoodE G C cs N k a) (ht : GoodT G C cs N k a) (hs : GoodOr G C cs N k (.cons b0 es)) : GoodOr G C cs N k (.cons a (.cons b0 es)) := by
  intro sc xs p X XW fnB h xo hsc
  match xs, h with
  | [x], h =>
    replace h : (okE G.nm cs N sc a x && false) = true := h
    cases (and_t h).2
  | x :: y :: ys, h =>
    replace h : (okE G.nm cs N sc a x && okEs G.nm cs N sc (.cons b0 es) (y :: ys)) = true := h
    obtain ⟨h1, h2⟩ := and_t h
    obtain ⟨k1, k2⟩ := hs sc (y :: ys) p X XW fnB h2 xo hsc
    refine ⟨fun _ _ _ => PE.weak (pe_or (ha sc x X XW fnB h1 xo hsc) (k1 _ _ rfl)) fun σ H Q q => ?_, fun _ _ _ t => PW.weak (pw_or (ht (and_t t).1 sc x X XW fnB h1 xo hsc) (k2 _ _ rfl (and_t t).2)) fun σ H Q q => ?_⟩
    · obtain ⟨w, w0, env, rfl, ok, en, q⟩ := q
      refine ⟨w, w0, env, rfl, ok, en, q.bind.imp fun r w1 ⟨e1, ok1, h1⟩ v rv => ?_⟩
      obtain ⟨c, rfl, h2⟩ := Sat.bl h1
      have rv : RW X.K w1 (.bl c) v := rv
      cases rv
      refine ⟨c, rfl, ?_⟩
      cases c with
      | true => exact iteT ((h2.here rfl ok1) _ (.bl true))
      | false => exact iteF ⟨w1, w0, env, rfl, ok1, en.ext ok e1, h2.imp fun r w2 q v rv => q v (rv.back e1)⟩
    · obtain ⟨w, w0, env, rfl, ok, en, q⟩ := q
      refine ⟨w, w0, env, rfl, ok, en, q.bind.imp fun r w1 ⟨e1, ok1, h1⟩ => ?_⟩
      obtain ⟨c, rfl, h2⟩ := Sat.bl h1
      refine ⟨c, rfl, ?_⟩
      cases c with
      | true =>
        obtain ⟨b, q1, q2⟩ := h2.here rfl ok1
        cases q1
        exact iteT q2
      | false => exact iteF ⟨w1, w0, env, rfl, ok1, en.ext ok e1, h2⟩
theorem good_or {b0 : E F} {es : Es F} (hs : GoodOr G C cs N k (.cons b0 es)) : GoodE G C cs N k (.or (.cons b0 es)) ∧ GoodT G C cs N k (.or (.cons b0 es)) := by
  refine ⟨fun sc ast X XW fnB h xo hsc => ?_, fun t sc ast X XW fnB h xo hsc => ?_⟩
  · cases ast with
    | BoolOp o xs p =>
      cases o with
      | Or => exact (hs sc xs p X XW fnB h xo hsc).1 _ _ rfl
      | _ => cases (show false = true from h)
    | _ => cases (show false = true from h)
  · cases ast with
    | BoolOp o xs p =>
      cases o with
      | Or => exact PW.pt ((hs sc xs p X XW fnB h xo hsc).2 _ _ rfl t)
      | _ => cases (show false = true from h)
    | _ => cases (show false = true from h)

theorem PE.never {X : Cx} {e : Expr} {t : TE} (h : ∀ σ H Q, t σ H Q → False) : PE X e t := ⟨fun _ _ σ H Q _ q => (h σ H Q q).elim⟩
theorem PT.never {X : Cx} {e : Expr} {t : TT} (h : ∀ σ H Q, t σ H Q → False) : PT X e t := ⟨fun _ _ σ H Q _ q => (h σ H Q q).elim⟩
theorem good_and0 : GoodE G C cs N k (.and .nil) ∧ GoodT G C cs N k (.and .nil) :=
  ⟨fun sc ast X XW fnB h xo hsc => PE.never fun σ H Q ⟨_, _, _, _, _, _, q⟩ => q, fun _ sc ast X XW fnB h xo hsc => PT.never fun σ H Q ⟨_, _, _, _, _, _, q⟩ => q⟩
theorem good_or0 : GoodE G C cs N k (.or .nil) ∧ GoodT G C cs N k (.or .nil) :=
  ⟨fun sc ast X XW fnB h xo hsc => PE.never fun σ H Q ⟨_, _, _, _, _, _, q⟩ => q, fun _ sc ast X XW fnB h xo hsc => PT.never fun σ H Q ⟨_, _, _, _, _, _, q⟩ => q⟩
/-! ### a conditional -/
theorem good_ife {c a b : E F} (hc : GoodT G C cs N k c) (ha : GoodE G C cs N k a) (hb : GoodE G C cs N k b) : GoodE G C cs N k (.ife c a b) := by
  intro sc ast X XW fnB h xo hsc
  cases ast with
  | IfExp z x y p =>
    replace h : (tst c && okE G.nm cs N sc c z && okE G.nm cs N sc a x && okE G.nm cs N sc b y) = true := h
    obtain ⟨h, h4⟩ := and_t h
    obtain ⟨h, h3⟩ := and_t h
    obtain ⟨h1, h2⟩ := and_t h
    refine PE.weak (pe_ifExp (hc h1 sc z X XW fnB h2 xo hsc) (ha sc x X XW fnB h3 xo hsc) (hb sc y X XW fnB h4 xo hsc)) fun σ H Q q => ?_
    obtain ⟨w, w0, env, rfl, ok, en, q⟩ := q
    refine ⟨w, w0, env, rfl, ok, en, q.bind.imp fun r w1 ⟨e1, ok1, h1⟩ => ?_⟩
    obtain ⟨c, rfl, h2⟩ := Sat.bl h1
    refine ⟨c, rfl, ?_⟩
    cases c with
    | true => exact iteT ⟨w1, w0, env, rfl, ok1, en.ext ok e1, h2.imp fun r w2 q v rv => q v (rv.back e1)⟩
    | false => exact iteF ⟨w1, w0, env, rfl, ok1, en.ext ok e1, h2.imp fun r w2 q v rv => q v (rv.back e1)⟩
  | _ => cases (show false = true from h)
/-! ### subscripts, slices -/
theorem okE_ix {nm : F → Str} {sc : Scope} {e : E F} {y : Expr} (h : okE nm cs N sc e y = true) : PlainIx y := by
  cases y with
  | Slice a b c p => cases e <;> cases (show false = true from h)
  | _ => exact fun _ _ => rfl
theorem atI_get {A : Type} {l : List A} {i : Int} {a : A} (h : atI l i = some a) : ∃ j, ixN l.length i = some j ∧ l[j]? = some a := by
  unfold atI at h
  cases e : ixN l.length i with
  | none => rw [e] at h; cases h
  | some j => rw [e] at h; exact ⟨j, rfl, h⟩
theorem RAs.at {K : PySem.W.Frag} {ro fb : List Addr} {H : Hp} {l : List AV} {vs : List V} {i : Int} {a : AV} (h : RAs K ro fb H l vs) (e : atI l i = some a) : ∃ v, atI vs i = some v ∧ RA K ro fb H a v := by
  obtain ⟨j, h1, h2⟩ := atI_get e
  obtain ⟨v, h3, h4⟩ := h.get h2
  refine ⟨v, ?_, h4⟩
  unfold atI
  rw [← h.length, h1]
  exact h3
/-- a sequence's items, by the heap -/
theorem seq_ok {K : PySem.W.Frag} {w : Wd} {x : R} {v : V} {l : List AV} (ok : WOK K w) (e : seqOf w.st x = some l) (h : RC K w x v) : ∃ a vs, v = .ref a ∧ RWs K w l vs ∧ (isTup x = true → SqT K w.H a vs) ∧ (isTup x = false → SqL K w.H a vs) := by
  have lst : ∀ m : List AV, m = l → isTup x = false → (∃ a vs, v = .ref a ∧ w.H a = some (.lst vs) ∧ RWs K w m vs) → ∃ a vs, v = .ref a ∧ RWs K w l vs ∧ (isTup x = true → SqT K w.H a vs) ∧ (isTup x = false → SqL K w.H a vs) := fun m e z h => by
    obtain ⟨a, vs, rfl, h1, h2⟩ := h
    subst e
    exact ⟨a, vs, rfl, h2, fun q => (by rw [z] at q; cases q), fun _ => SqL.of h1⟩
  cases x with
  | tl m => exact lst m (Option.some.inj e) rfl h
  | bo m => exact lst m (Option.some.inj e) rfl h
  | v a =>
    cases a with
    | lst m => exact lst m (Option.some.inj e) rfl h
    | tup m =>
      obtain ⟨a, vs, rfl, h1, h2⟩ := RC.tup h
      have e : m = l := Option.some.inj e
      subst e
      exact ⟨a, vs, rfl, h2, fun _ => h1, fun q => by cases q⟩
    | scr m =>
      have h : RW K w (.scr m) v := h
      cases h with
      | scr h1 =>
        have e : m.map .int = l := Option.some.inj e
        subst e
        exact ⟨_, _, rfl, RAs.ints, (fun q => (by cases q)), (fun _ => h1.sq)⟩
    | loc n =>
      have h : RW K w (.loc n) v := h
      cases h with
      | loc h1 =>
        have e : (match w.st.ob[n]? with
          | some (.lst l) => some l
          | none => none) = some l := e
        cases q : w.st.ob[n]? with
        | none => rw [q] at e; cases e
        | some o =>
          rw [q] at e
          cases o with
          | lst m =>
            obtain ⟨vs, z1, z2⟩ := ok.obj n _ _ q h1
            exact lst m (Option.some.inj e) rfl ⟨_, vs, rfl, z1, z2⟩
    | _ => cases e
theorem seq_none {K : PySem.W.Frag} {w : Wd} {x : R} {v : V} (h : RC K w x v) : True := True.intro
theorem sub_ok {K : PySem.W.Frag} {w : Wd} {x y r : R} {v u : V} {Q : VK} (ok : WOK K w) (e : subR w.st x y = some r) (rx : RC K w x v) (ry : RC K w y u) (h : Ans K w r Q) : rIx K v u w.H Q := by
  unfold subR at e
  split at e
  · have := ry.int; subst this
    split at e
    · rename_i l q
      obtain ⟨a, q1, q2⟩ := Option.map_eq_some_iff.mp e
      subst q2
      obtain ⟨p, vs, rfl, h1, h2, h3⟩ := seq_ok ok q rx
      obtain ⟨z, h4, h5⟩ := h1.at q1
      cases t : isTup x with
      | true => exact .inr (.inl ⟨p, vs, _, z, rfl, rfl, h2 t, h4, h.val ok h5⟩)
      | false => exact .inl ⟨p, vs, _, z, rfl, rfl, h3 t, h4, h.val ok h5⟩
    · split at e
      · split at e
        · rename_i z c
          obtain ⟨a, q1, q2⟩ := Option.map_eq_some_iff.mp e
          subst q2
          have := rx.str; subst this
          exact .inr (.inr ⟨_, _, a, rfl, rfl, of_decide_eq_true c, q1, h.val ok (.str _)⟩)
        · cases e
      · cases e
  · cases e
theorem good_sub {a b : E F} (ha : GoodE G C cs N k a) (hb : GoodE G C cs N k b) : GoodE G C cs N k (.sub a b) := by
  intro sc ast X XW fnB h xo hsc
  cases ast with
  | Subscript x y p =>
    have h : (okE G.nm cs N sc a x && okE G.nm cs N sc b y) = true := h
    obtain ⟨h1, h2⟩ := and_t h
    refine PE.weak (pe_ix ix_seq (ha sc x X XW fnB h1 xo hsc) (hb sc y X XW fnB h2 xo hsc) (okE_ix h2)) fun σ H Q q => ?_
    obtain ⟨w, w0, env, rfl, ok, en, q⟩ := q
    exact two_of (g := fun s x y => subR s (fz x) (fz y)) (Q' := fun v u H2 => rIx X.K v u H2 Q) ok en q fun x y v u w' r ok1 rx ry hr h => sub_ok ok1 hr rx ry h
  | _ => cases (show false = true from h)
/-- a slice's part -/
def tEvo (G : Glo F) (C : Cf F) (K : PySem.W.Frag) (XW : XK) (e : OE F) : TO := fun σ H Q => ∃ w w0 env, w.H = H ∧ WOK K w ∧ REnv K w0 w env σ ∧ Sat K w (evo C env e w.st) (fun r w' => Q r w'.H) (xq G XW)
def GoodO (G : Glo F) (C : Cf F) (cs : List (Str × Const)) (N : List Str) (k : Nat) (e : OE F) : Prop := ∀ (sc : Scope) (o : Option Expr) (X : Cx) (XW : XK) (fnB : Bool), okO G.nm cs N sc e o = true → XOk G C cs N k X XW fnB → X.env.scope = sc → PO X o (tEvo G C X.K XW e)
theorem PO.weak {X : Cx} {e : Option Expr} {t t' : TO} (h : PO X e t) (k : ∀ σ H Q, t' σ H Q → t σ H Q) : PO X e t' := ⟨fun pins s σ H Q I q => h.run pins s σ H Q I (k σ H Q q)⟩
theorem good_onone : GoodO G C cs N k .none := by
  intro sc o X XW fnB h xo hsc
  cases o with
  | some x => cases (show false = true from h)
  | none =>
    refine PO.weak po_none fun σ H Q q => ?_
    obtain ⟨w, w0, env, rfl, ok, en, q⟩ := q
    exact q.here rfl ok
theorem good_osome {e : E F} (he : GoodE G C cs N k e) : GoodO G C cs N k (.some e) := by
  intro sc o X XW fnB h xo hsc
  cases o with
  | none => cases (show false = true from h)
  | some x =>
    refine PO.weak (po_some (he sc x X XW fnB h xo hsc)) fun σ H Q q => ?_
    obtain ⟨w, w0, env, rfl, ok, en, q⟩ := q
    refine ⟨w, w0, env, rfl, ok, en, q.bind.imp fun r w1 ⟨e1, ok1, h1⟩ v rv => ?_⟩
    split at h1
    · rename_i j _
      have rv : RW X.K w1 (.int j) v := rv
      cases rv
      exact ⟨j, rfl, h1.here rfl ok1⟩
    · exact (h1 : False).elim
def rSlc (K : PySem.W.Frag) : V → Option Int → Option Int → Hp → VK → Prop := fun x lo hi H Q => rSlA K x lo hi H Q ∨ rSlS x lo hi H Q ∨ rSlL K x lo hi H Q
theorem cutA_all {A : Type} {l : List A} {lo hi : Option Int} (h : HT.sIx l.length 0 lo = 0 ∧ HT.sIx l.length l.length hi = l.length) : cutA l lo hi = l := by
  unfold cutA
  rw [h.1, h.2]
  simp
theorem slc_ok {K : PySem.W.Frag} {w : Wd} {x r : R} {v : V} {l u : Option Int} {Q : VK} (ok : WOK K w) (e : slcR w.st x l u = some r) (rx : RC K w x v) (h : Ans K w r Q) : rSlc K v l u w.H Q := by
  unfold slcR at e
  split at e
  · cases e
    obtain ⟨a, vs, rfl, h1, h2⟩ := rx.tup
    refine .inl ⟨a, vs, rfl, h1, fun z => ?_, fun z p hp => ?_⟩
    · rw [← h2.length] at z
      rw [cutA_all z] at h
      exact h.val ok (.tup h1 h2)
    · exact h.tup ok (h2.cut l u) hp
  · split at e
    · cases e
      have := rx.str; subst this
      rename_i c
      exact .inr (.inl ⟨_, rfl, of_decide_eq_true c, h.val ok (.str _)⟩)
    · cases e
  · rename_i n1 n2
    split at e
    · rename_i xs q
      cases e
      obtain ⟨a, vs, rfl, h1, h2, h3⟩ := seq_ok ok q rx
      have t : isTup x = false := by
        cases x with
        | v a =>
          cases a with
          | tup m => exact (n1 m rfl).elim
          | _ => rfl
        | _ => rfl
      exact .inr (.inr ⟨a, vs, rfl, h3 t, fun p hp => h.lst ok (h1.cut l u) hp⟩)
    · cases e
theorem good_slc {a : E F} {lo hi : OE F} (ha : GoodE G C cs N k a) (hl : GoodO G C cs N k lo) (hu : GoodO G C cs N k hi) : GoodE G C cs N k (.slc a lo hi) := by
  intro sc ast X XW fnB h xo hsc
  cases ast with
  | Subscript x y p =>
    cases y with
    | Slice l u st p2 =>
      cases st with
      | some z => cases (show false = true from h)
      | none =>
        replace h : (okE G.nm cs N sc a x && okO G.nm cs N sc lo l && okO G.nm cs N sc hi u) = true := h
        obtain ⟨h, h3⟩ := and_t h
        obtain ⟨h1, h2⟩ := and_t h
        refine PE.weak (pe_slice (r := rSlc X.K) (sl_tupA.or (sl_str.or sl_list)) (ha sc x X XW fnB h1 xo hsc) (hl sc l X XW fnB h2 xo hsc) (hu sc u X XW fnB h3 xo hsc)) fun σ H Q q => ?_
        obtain ⟨w, w0, env, rfl, ok, en, q⟩ := q
        refine ⟨w, w0, env, rfl, ok, en, q.bind.imp fun x w1 ⟨e1, ok1, h1⟩ v rx => ?_⟩
        refine ⟨w1, w0, env, rfl, ok1, en.ext ok e1, h1.bind.imp fun lr w2 ⟨e2, ok2, h2⟩ => ?_⟩
        refine ⟨w2, w0, env, rfl, ok2, (en.ext ok e1).ext ok1 e2, h2.bind.imp fun hr w3 ⟨e3, ok3, h3⟩ => ?_⟩
        obtain ⟨r, hr2, h4⟩ := ans_of ((e1.trans e2).trans e3) h3
        exact slc_ok ok3 hr2 (rx.rcx e1 ok1 (e2.trans e3)) h4
    | _ => cases (show false = true from h)
  | _ => cases (show false = true from h)
/-! ### argument lists, displays -/
theorem pimp {α β : Type} {P P' : α → β → Prop} : ∀ {l : List α} {m : List β}, Paired P l m → (∀ a b, P a b → P' a b) → Paired P' l m
  | _, _, .nil, _ => .nil
  | _, _, .cons r t, f => .cons (f _ _ r) (pimp t f)
def GoodEs (G : Glo F) (C : Cf F) (cs : List (Str × Const)) (N : List Str) (k : Nat) (es : Es F) : Prop := ∀ (sc : Scope) (xs : List Expr) (X : Cx) (XW : XK) (fnB : Bool), okEs G.nm cs N sc es xs = true → XOk G C cs N k X XW fnB → X.env.scope = sc → PA X xs (tEvs G C X.K XW es)
theorem good_esnil : GoodEs G C cs N k .nil := by
  intro sc xs X XW fnB h xo hsc
  match xs, h with
  | [], h =>
    refine PA.weak pa_nil fun σ H Q q => ?_
    obtain ⟨w, w0, env, rfl, ok, en, q⟩ := q
    exact (q.here rfl ok) [] .nil
  | x :: xs, h => cases (show false = true from h)
theorem good_escons {e : E F} {es : Es F} (he : GoodE G C cs N k e) (hs : GoodEs G C cs N k es) : GoodEs G C cs N k (.cons e es) := by
  intro sc xs X XW fnB h xo hsc
  match xs, h with
  | [], h => cases (show false = true from h)
  | x :: xs, h =>
    replace h : (okE G.nm cs N sc e x && okEs G.nm cs N sc es xs) = true := h
    obtain ⟨h1, h2⟩ := and_t h
    refine PA.weak (pa_cons (he sc x X XW fnB h1 xo hsc) (hs sc xs X XW fnB h2 xo hsc) (okE_star h1 xs X.env)) fun σ H Q q => ?_
    obtain ⟨w, w0, env, rfl, ok, en, q⟩ := q
    refine ⟨w, w0, env, rfl, ok, en, q.bindF.imp fun r w1 ⟨e1, ok1, h1⟩ v rv => ?_⟩
    obtain ⟨w2, eH, eS, e2, ok2, rv2⟩ := freeze e1 ok1 rv ok.dom
    have h3 := h1 w2 e2 eS
    rw [← eH]
    refine ⟨w2, w0, env, rfl, ok2, en.ext ok e2, h3.bind.imp fun rs w3 ⟨e3, ok3, h4⟩ vs rr => ?_⟩
    exact (h4.here rfl ok3) (v :: vs) (.cons (rv2.ext e2 ok2 e3) (pimp rr fun a b z => z.back e2))
theorem toA_ok {K : PySem.W.Frag} {w w1 : Wd} {r : R} {v : V} {a : AV} (h : RR K w w1 r v) (e : toA r = some a) : RW K w1 a v := by
  cases r with
  | v b => cases e; exact h
  | tl l => cases e
  | bo l => cases e
theorem toAs_ok {K : PySem.W.Frag} {w w1 : Wd} : ∀ {rs : List R} {vs : List V} {l : List AV}, Paired (RR K w w1) rs vs → toAs rs = some l → RWs K w1 l vs
  | _, _, l, .nil, e => by
    cases (show some [] = some l from e)
    exact .nil
  | _, _, l, .cons (a := r) (l₁ := rs) h t, e => by
    have e : (match toA r, toAs rs with
      | some a, some as => some (a :: as)
      | _, _ => none) = some l := e
    cases q1 : toA r with
    | none => rw [q1] at e; cases e
    | some a =>
      cases q2 : toAs rs with
      | none => rw [q1, q2] at e; cases e
      | some as =>
        rw [q1, q2] at e
        cases e
        exact .cons (toA_ok h q1) (toAs_ok t q2)
theorem good_tup {es : Es F} (hs : GoodEs G C cs N k es) : GoodE G C cs N k (.tup es) := by
  intro sc ast X XW fnB h xo hsc
  cases ast with
  | Tuple xs j p =>
    refine PE.weak (pe_tup (hs sc xs X XW fnB h xo hsc)) fun σ H Q q => ?_
    obtain ⟨w, w0, env, rfl, ok, en, q⟩ := q
    refine ⟨w, w0, env, rfl, ok, en, q.bind.imp fun rs w1 ⟨e1, ok1, h1⟩ vs rr => ?_⟩
    obtain ⟨r, hr, h2⟩ := ans_of e1 h1
    obtain ⟨l, q1, q2⟩ := Option.bind_eq_some_iff.mp hr
    split at q2
    · rename_i c
      cases q2
      have rl := toAs_ok rr q1
      exact ⟨by rw [← rl.length]; exact c, fun p hp => h2.tup ok1 rl hp⟩
    · cases q2
  | _ => cases (show false = true from h)
theorem good_lst {es : Es F} (hs : GoodEs G C cs N k es) : GoodE G C cs N k (.lst es) := by
  intro sc ast X XW fnB h xo hsc
  cases ast with
  | List xs p =>
    refine PE.weak (pe_lst (hs sc xs X XW fnB h xo hsc)) fun σ H Q q => ?_
    obtain ⟨w, w0, env, rfl, ok, en, q⟩ := q
    refine ⟨w, w0, env, rfl, ok, en, q.bind.imp fun rs w1 ⟨e1, ok1, h1⟩ vs rr => ?_⟩
    obtain ⟨r, hr, h2⟩ := ans_of e1 h1
    obtain ⟨l, q1, q2⟩ := Option.bind_eq_some_iff.mp hr
    split at q2
    · rename_i c
      cases q2
      have rl := toAs_ok rr q1
      exact ⟨by rw [← rl.length]; exact c, fun p hp => h2.lst ok1 rl hp⟩
    · cases q2
  | _ => cases (show false = true from h)
/-! ### calls -/
theorem gloB_ok {X : Cx} {x : Str} (h : gloB X.env.scope x = true) : Gl X x ∧ (x == ("__debug__" : Str)) = false ∧ x ≠ ("__name__" : Str) := by
  unfold gloB at h
  obtain ⟨h, h3⟩ := and_t h
  obtain ⟨h1, h2⟩ := and_t h
  exact ⟨(of_decide_eq_true h1 : X.env.scope.names.lookup x = some .globalImplicit), not_f h2, fun z => by subst z; cases (not_f h3)⟩
theorem backTo_any {F : Type} {nm : F → Str} {cs : List (Str × Const)} {N : List Str} {sc : Scope} : ∀ {es : Es F} {xs : List Expr} {env : PySem.Env} {pos : Pos}, okEs nm cs N sc es xs = true → (backTo pos (starEach xs env)).any (·.1) = false
  | .nil, [], _, _, _ => rfl
  | .nil, _ :: _, _, _, h => by cases (show false = true from h)
  | .cons _ _, [], _, _, h => by cases (show false = true from h)
  | .cons e es, x :: xs, env, pos, h => by
    obtain ⟨h1, h2⟩ := and_t (show (okE nm cs N sc e x && okEs nm cs N sc es xs) = true from h)
    rw [okE_star h1]
    have ih := backTo_any (es := es) (xs := xs) (env := env) (pos := pos) h2
    simpa [backTo] using ih
theorem good_call (f : F) {es : Es F} (hs : GoodEs G C cs N k es) : GoodE G C cs N k (.call f es) := by
  intro sc ast X XW fnB h xo hsc
  cases ast with
  | Call fn xs kws p =>
    cases fn with
    | Name g p2 =>
      match xs, kws, h with
      | x :: xs, [], h =>
        replace h : (decide (g = G.nm f) && gloB sc g && okEs G.nm cs N sc es (x :: xs)) = true := h
        obtain ⟨h, h3⟩ := and_t h
        obtain ⟨h1, h2⟩ := and_t h
        have h1 := of_decide_eq_true h1
        subst hsc
        obtain ⟨g1, g2, g3⟩ := gloB_ok h2
        have hst : starEach (x :: xs) X.env = (false, eval x X.env) :: starEach xs X.env := by
          cases es with
          | nil => cases (show false = true from h3)
          | cons e es => exact okE_star (and_t (show (okE G.nm cs N X.env.scope e x && okEs G.nm cs N X.env.scope es xs) = true from h3)).1 xs X.env
        have hpl : (backTo p (starEach xs X.env)).any (·.1) = false := by
          cases es with
          | nil => cases (show false = true from h3)
          | cons e es => exact backTo_any (and_t (show (okE G.nm cs N X.env.scope e x && okEs G.nm cs N X.env.scope es xs) = true from h3)).2
        refine PE.weak (pe_call (dvs := []) (ds := []) (E := XW) (xo.fns f) xo.room g1 (by rw [h1]; exact xo.mgf f) (xo.kp f) (xo.bd f) .nil (passes_call xo.tk fun _ _ _ _ z => z) (hs _ (x :: xs) X XW fnB h3 xo rfl) g2 hst hpl) fun σ H Q q => ?_
        obtain ⟨w, w0, env, rfl, ok, en, q⟩ := q
        refine ⟨w, w0, env, rfl, ok, en, q.bind.imp fun rs w1 ⟨e1, ok1, h1⟩ vs rr => ?_⟩
        cases q1 : toAs rs with
        | none => rw [q1] at h1; exact (h1 : False).elim
        | some l =>
          rw [q1] at h1
          have rl := toAs_ok rr q1
          have h2 : Sat X.K w1 (C f l w1.st) (fun r w' => ∀ v, RR X.K w w' r v → Q v w'.H) (xq G XW) := h1
          rw [List.append_nil]
          refine ⟨?_, w1, l, rfl, ok1, rl, h2.imp fun r w2 q v rv => q v (rv.back e1)⟩
          rw [← rl.length]
          refine xo.len f l w1.st fun z => ?_
          rw [z] at h2
          exact h2
      | [], _, h => cases (show false = true from h)
      | _ :: _, _ :: _, h => cases (show false = true from h)
    | _ => cases (show false = true from h)
  | _ => cases (show false = true from h)
/-! ### built-ins -/
theorem boot_isi : bootBuiltins "isinstance" = some (.builtin "isinstance") := PyProof.Rows.boot_isinstance
theorem ty_boot : ∀ t : Ty, bootBuiltins (Str.ofString (tyName t)) = some (.type (tyName t))
  | .int => PyProof.Rows.boot_int
  | .bool => PyProof.Rows.boot_bool
  | .str => PyProof.Rows.boot_str
  | .tuple => PyProof.Rows.boot_tuple
  | .list => PyProof.Rows.boot_list
theorem ty_in : ∀ t : Ty, Str.ofString (tyName t) ∈ bNames
  | .int => by decide +kernel
  | .bool => by decide +kernel
  | .str => by decide +kernel
  | .tuple => by decide +kernel
  | .list => by decide +kernel
theorem ty_pe {X : Cx} {t : Ty} {y : Expr} (xo : XOk G C cs N k X XW fnB) (h : isTyName X.env.scope t y = true) : PE X y (tC (.ty (tyName t))) := by
  cases y with
  | Name x p =>
    replace h : (decide (x = Str.ofString (tyName t)) && gloB X.env.scope x) = true := h
    obtain ⟨h1, h2⟩ := and_t h
    have h1 := of_decide_eq_true h1
    obtain ⟨g1, g2, g3⟩ := gloB_ok h2
    subst h1
    exact pe_bltn (v := .ty (tyName t)) g1 (xo.blt _ (ty_in t)) (ty_boot t) rfl g3 g2
  | _ => cases (show false = true from h)
theorem ty_star {sc : Scope} {t : Ty} {y : Expr} (h : isTyName sc t y = true) (es : List Expr) (env : PySem.Env) : starEach (y :: es) env = (false, eval y env) :: starEach es env := by
  cases y with
  | Name x p => rfl
  | _ => cases (show false = true from h)
def kdName : Kd → String
  | .non => "NoneType" | .bool => "bool" | .int => "int" | .str => "str" | .tuple => "tuple" | .list => "list"
theorem kd_ok (d : Kd) (t : Ty) : kitB (kdName d) (tyName t) = some (kdOk d t) := by cases d <;> cases t <;> decide +kernel
theorem tyX_ok {K : PySem.W.Frag} {w : Wd} {x : R} {v : V} {d : Kd} (ok : WOK K w) (h : RC K w x v) (kn : kdOf w.st x = some d) : TyX K w.H v (.type (kdName d)) := by
  have lst : ∀ m : List AV, some Kd.list = some d → (∃ a vs, v = .ref a ∧ w.H a = some (.lst vs) ∧ RWs K w m vs) → TyX K w.H v (.type (kdName d)) := fun m e h => by
    obtain ⟨a, vs, rfl, h1, h2⟩ := h
    cases e
    exact .base (.lst h1)
  cases x with
  | tl m => exact lst m kn h
  | bo m => exact lst m kn h
  | v a =>
    cases a with
    | lst m => exact lst m kn h
    | non =>
      have h : RW K w .non v := h
      cases h
      cases kn
      exact .base .non
    | bl b =>
      have h : RW K w (.bl b) v := h
      cases h
      cases kn
      exact .base (.bl b)
    | int b =>
      have h : RW K w (.int b) v := h
      cases h
      cases kn
      exact .base (.int b)
    | str b =>
      have h : RW K w (.str b) v := h
      cases h
      cases kn
      exact .base (.str b)
    | tup m =>
      obtain ⟨a, vs, rfl, h1, h2⟩ := RC.tup h
      cases kn
      rcases h1 with (h1 | ⟨o, h1⟩) | ⟨o, its, n, h1, h3, _⟩
      · exact .base (.tup h1)
      · exact .fTuple h1
      · exact .kTuple h1 h3
    | scr m =>
      have h : RW K w (.scr m) v := h
      cases h with
      | scr h1 =>
        cases kn
        rcases h1 with ⟨o, h1⟩ | ⟨o, its, n, h1, h3, _⟩
        · exact .base (.frz h1)
        · exact .kList h1 h3
    | loc n =>
      have h : RW K w (.loc n) v := h
      cases h with
      | loc h1 =>
        have kn : (match w.st.ob[n]? with
          | some (.lst _) => some Kd.list
          | none => none) = some d := kn
        cases q : w.st.ob[n]? with
        | none => rw [q] at kn; cases kn
        | some o =>
          rw [q] at kn
          cases o with
          | lst m =>
            obtain ⟨vs, z1, z2⟩ := ok.obj n _ _ q h1
            exact lst m kn ⟨_, vs, rfl, z1, z2⟩
theorem kd_fz {s : Sto} {r : R} : kdOf s (fz r) = kdOf s r := by cases r <;> rfl
theorem good_isi {a : E F} (t : Ty) (ha : GoodE G C cs N k a) : GoodE G C cs N k (.isi a t) := by
  intro sc ast X XW fnB h xo hsc
  cases ast with
  | Call fn xs kws p =>
    cases fn with
    | Name g p2 =>
      match xs, kws, h with
      | [x, y], [], h =>
        replace h : (decide (g = ("isinstance" : Str)) && gloB sc g && okE G.nm cs N sc a x && isTyName sc t y) = true := h
        obtain ⟨h, h4⟩ := and_t h
        obtain ⟨h, h3⟩ := and_t h
        obtain ⟨h1, h2⟩ := and_t h
        have h1 := of_decide_eq_true h1
        subst hsc
        obtain ⟨g1, g2, g3⟩ := gloB_ok h2
        subst h1
        refine PE.weak (pe_callB call_isi g1 (xo.blt _ (by decide +kernel)) boot_isi (pa_cons (ha _ x X XW fnB h3 xo rfl) (pa_cons (ty_pe xo h4) pa_nil (ty_star h4 [] X.env)) (okE_star h3 [y] X.env)) g3 g2 (okE_star h3 [y] X.env) (by rw [ty_star h4]; rfl)) fun σ H Q q => ?_
        obtain ⟨w, w0, env, rfl, ok, en, q⟩ := q
        refine ⟨w, w0, env, rfl, ok, en, q.bind.imp fun r w1 ⟨e1, ok1, h1⟩ v rv => ?_⟩
        obtain ⟨r2, hr, h2⟩ := ans_of e1 h1
        obtain ⟨d, kn, e2⟩ := Option.map_eq_some_iff.mp hr
        subst e2
        rw [← kd_fz] at kn
        exact ⟨v, .ty (tyName t), _, _, _, rfl, .ty _, tyX_ok ok1 rv.rc kn, kit_ty (kd_ok d t), h2.val ok1 (.bl _)⟩
      | [], _, h => cases (show false = true from h)
      | [_], _, h => cases (show false = true from h)
      | _ :: _ :: _ :: _, _, h => cases (show false = true from h)
      | [_, _], _ :: _, h => cases (show false = true from h)
    | _ => cases (show false = true from h)
  | _ => cases (show false = true from h)
end
end EV

set_option maxRecDepth 100000
set_option maxHeartbeats 2000000
namespace EV
open PySem PySem.Spec PyProof.Rows L2
section
variable {F : Type} {G : Glo F} {C : Cf F} {cs : List (Str × Const)} {N : List Str} {k : Nat}
/-- written names of types -/
theorem tys_pa {X : Cx} {XW : XK} {fnB : Bool} (xo : XOk G C cs N k X XW fnB) : ∀ (ts : List Ty) (ys : List Expr), tyNames X.env.scope ts ys = true → PA X ys (fun σ H Q => Q (ts.map fun t => .ty (tyName t)) H)
  | [], [], _ => PA.weak pa_nil fun _ _ _ q => q
  | [], _ :: _, h => by cases (show false = true from h)
  | _ :: _, [], h => by cases (show false = true from h)
  | t :: ts, y :: ys, h => by
    obtain ⟨h1, h2⟩ := and_t (show (isTyName X.env.scope t y && tyNames X.env.scope ts ys) = true from h)
    exact PA.weak (pa_cons (ty_pe xo h1) (tys_pa xo ts ys h2) (ty_star h1 ys X.env)) fun _ _ _ q => q
theorem kitAny_ok {K : PySem.W.Frag} (d : Kd) : ∀ ts : List Ty, PySem.W.kitAny K (.type (kdName d)) (ts.map fun t => .type (tyName t)) = some (ts.any fun t => kdOk d t)
  | [] => rfl
  | t :: ts => by
    refine kitAny_cons (b := kdOk d t) (kit_ty (kd_ok d t)) (fun h => ?_) (fun h => ?_)
    · rw [kitAny_ok d ts, List.any_cons, h, Bool.false_or]
    · rw [List.any_cons, h, Bool.true_or]
theorem paired_cls : ∀ ts : List Ty, Paired ClsV (ts.map fun t => .ty (tyName t)) (ts.map fun t => .type (tyName t))
  | [] => .nil
  | t :: ts => .cons (.ty _) (paired_cls ts)
theorem good_isis {a : E F} (ts : List Ty) (ha : GoodE G C cs N k a) : GoodE G C cs N k (.isis a ts) := by
  intro sc ast X XW fnB h xo hsc
  cases ast with
  | Call fn xs kws p =>
    cases fn with
    | Name g p2 =>
      match xs, kws, h with
      | [x, y], [], h =>
        cases y with
        | Tuple ys kk tp =>
          replace h : (decide (ts.length ≤ sizeLine) && decide (g = ("isinstance" : Str)) && gloB sc g && okE G.nm cs N sc a x && tyNames sc ts ys) = true := h
          obtain ⟨h, h4⟩ := and_t h
          obtain ⟨h, h3⟩ := and_t h
          obtain ⟨h, h2⟩ := and_t h
          obtain ⟨hz, h1⟩ := and_t h
          have hz := of_decide_eq_true hz
          have h1 := of_decide_eq_true h1
          subst hsc
          obtain ⟨g1, g2, g3⟩ := gloB_ok h2
          subst h1
          refine PE.weak (pe_callB call_isiT g1 (xo.blt _ (by decide +kernel)) boot_isi (pa_cons (ha _ x X XW fnB h3 xo rfl) (pa_cons (pe_tup (tys_pa xo ts ys h4)) pa_nil (by rfl)) (okE_star h3 _ X.env)) g3 g2 (okE_star h3 _ X.env) (by rfl)) fun σ H Q q => ?_
          obtain ⟨w, w0, env, rfl, ok, en, q⟩ := q
          refine ⟨w, w0, env, rfl, ok, en, q.bind.imp fun r w1 ⟨e1, ok1, h1⟩ v rv => ?_⟩
          obtain ⟨r2, hr, h2⟩ := ans_of e1 h1
          obtain ⟨d, kn, e2⟩ := Option.map_eq_some_iff.mp hr
          subst e2
          rw [← kd_fz] at kn
          refine ⟨by rw [List.length_map]; exact hz, fun T hT => ?_⟩
          have eT := Ext.laid (w := w1) (o := .tup (ts.map fun t => .ty (tyName t))) hT
          have okT := ok1.laid (o := .tup (ts.map fun t => .ty (tyName t))) hT
          have kn' : kdOf (Wd.mk w1.ro w1.fb w1.st (upd w1.H T (.tup (ts.map fun t => .ty (tyName t))))).st (fz r) = some d := kn
          have rcT := (rv.ext e1 ok1 eT).rc
          exact ⟨v, T, _, _, _, _, rfl, upd_same, paired_cls ts, tyX_ok okT rcT kn', kitAny_ok d ts, h2 ⟨w1.ro, w1.fb, w1.st, upd w1.H T (.tup (ts.map fun t => .ty (tyName t)))⟩ rfl eT okT _ (.bl _)⟩
        | _ => cases (show false = true from h)
      | [], _, h => cases (show false = true from h)
      | [_], _, h => cases (show false = true from h)
      | _ :: y :: _ :: _, _, h => cases y <;> cases (show false = true from h)
      | [_, y], _ :: _, h => cases y <;> cases (show false = true from h)
    | _ => cases (show false = true from h)
  | _ => cases (show false = true from h)
/-! ### built-in functions -/
def rBi (K : PySem.W.Frag) : Bi → List V → Hp → VK → Prop
  | .len => fun xs H Q => ∃ x n, xs = [x] ∧ LenV K x H n ∧ Q (.int (n : Nat)) H
  | .sum => rSum K
  | .min => fun xs H Q => ∃ i j, xs = [.int i, .int j] ∧ Q (.int (if j < i then j else i)) H
  | .max => fun xs H Q => ∃ i j, xs = [.int i, .int j] ∧ Q (.int (if j > i then j else i)) H
  | .tuple => fun xs H Q => ∃ p ys, xs = [.ref p] ∧ ((SqL K H p ys ∧ ∀ l, H l = none → Q (.ref l) (upd H l (.tup ys))) ∨ (SqT K H p ys ∧ Q (.ref p) H))
  | .list => fun xs H Q => ∃ p ys, xs = [.ref p] ∧ (SqL K H p ys ∨ SqT K H p ys) ∧ ∀ l, H l = none → Q (.ref l) (upd H l (.lst ys))
theorem bi_pe {X : Cx} {XW : XK} {fnB : Bool} (xo : XOk G C cs N k X XW fnB) : ∀ (f : Bi) {e : Expr} {es : List Expr} {t : TA} {p pos : Pos}, Gl X (biName f) → PA X (e :: es) t → (biName f == ("__debug__" : Str)) = false → biName f ≠ "__name__" → starEach (e :: es) X.env = (false, eval e X.env) :: starEach es X.env → (backTo pos (starEach es X.env)).any (·.1) = false →
    PE X (.Call (.Name (biName f) p) (e :: es) [] pos) (tCB (rBi X.K f) t)
  | .len, _, _, _, _, _, g, ha, h1, h2, h3, h4 => pe_callB call_len g (xo.blt _ (by decide +kernel)) boot_len ha h2 h1 h3 h4
  | .sum, _, _, _, _, _, g, ha, h1, h2, h3, h4 => pe_callB (cr_sum xo.hc) g (xo.blt _ (by decide +kernel)) boot_sum ha h2 h1 h3 h4
  | .min, _, _, _, _, _, g, ha, h1, h2, h3, h4 => pe_callB (call_min2 xo.hc) g (xo.blt _ (by decide +kernel)) boot_min ha h2 h1 h3 h4
  | .max, _, _, _, _, _, g, ha, h1, h2, h3, h4 => pe_callB (call_max2 xo.hc) g (xo.blt _ (by decide +kernel)) boot_max ha h2 h1 h3 h4
  | .tuple, _, _, _, _, _, g, ha, h1, h2, h3, h4 => pe_callTy call_tuple_of g (xo.blt _ (by decide +kernel)) PyProof.Rows.boot_tuple ha h2 h1 h3 h4
  | .list, _, _, _, _, _, g, ha, h1, h2, h3, h4 => pe_callTy call_list_of g (xo.blt _ (by decide +kernel)) PyProof.Rows.boot_list ha h2 h1 h3 h4
/-- what arguments hold -/
theorem pair1 {α β : Type} {P : α → β → Prop} {x : α} {vs : List β} (h : Paired P [x] vs) : ∃ v, vs = [v] ∧ P x v := by
  cases h with
  | cons r t => cases t; exact ⟨_, rfl, r⟩
theorem pair2 {α β : Type} {P : α → β → Prop} {x y : α} {vs : List β} (h : Paired P [x, y] vs) : ∃ v u, vs = [v, u] ∧ P x v ∧ P y u := by
  cases h with
  | cons r t =>
    obtain ⟨u, rfl, q⟩ := pair1 t
    exact ⟨_, _, rfl, r, q⟩
theorem bi_ok {K : PySem.W.Frag} {w : Wd} {f : Bi} {rs : List R} {r : R} {vs : List V} {Q : VK} (ok : WOK K w) (e : biR w.st f rs = some r) (rr : Paired (RC K w) rs vs) (h : Ans K w r Q) : rBi K f vs w.H Q := by
  unfold biR at e
  split at e
  · obtain ⟨v, rfl, rx⟩ := pair1 rr
    split at e
    · rename_i l q
      cases e
      obtain ⟨a, ys, rfl, h1, h2, h3⟩ := seq_ok ok q rx
      refine ⟨_, l.length, rfl, ?_, h.val ok (.int _)⟩
      cases t : isTup _ with
      | true => exact .inr ⟨ys, h2 t, h1.length⟩
      | false => exact .inl ⟨ys, h3 t, h1.length⟩
    · split at e
      · split at e
        · rename_i c
          cases e
          have := rx.str; subst this
          exact ⟨_, _, rfl, ⟨of_decide_eq_true c, rfl⟩, h.val ok (.int _)⟩
        · cases e
      · cases e
  · obtain ⟨v, rfl, rx⟩ := pair1 rr
    rename_i x
    split at e
    · cases e
    · rename_i t
      have t : isTup x = false := by simpa using t
      split at e
      · rename_i l q
        obtain ⟨ns, q1, q2⟩ := Option.map_eq_some_iff.mp e
        subst q2
        obtain ⟨a, ys, rfl, h1, h2, h3⟩ := seq_ok ok q rx
        have e2 := h1.of_ints q1
        exact ⟨a, ns, rfl, by rw [← e2]; exact h3 t, h.val ok (.int _)⟩
      · cases e
  · cases e
    obtain ⟨v, u, rfl, rx, ry⟩ := pair2 rr
    have := rx.int; have := ry.int; subst_vars
    exact ⟨_, _, rfl, h.val ok (.int _)⟩
  · cases e
    obtain ⟨v, u, rfl, rx, ry⟩ := pair2 rr
    have := rx.int; have := ry.int; subst_vars
    exact ⟨_, _, rfl, h.val ok (.int _)⟩
  · obtain ⟨v, rfl, rx⟩ := pair1 rr
    rename_i x
    split at e
    · rename_i l q
      have e : some (R.v (.tup l)) = some r := by split at e <;> exact e
      cases e
      obtain ⟨a, ys, rfl, h1, h2, h3⟩ := seq_ok ok q rx
      cases t : isTup x with
      | true => exact ⟨a, ys, rfl, .inr ⟨h2 t, h.val ok (.tup (h2 t) h1)⟩⟩
      | false => exact ⟨a, ys, rfl, .inl ⟨h3 t, fun l hl => h.tup ok h1 hl⟩⟩
    · cases e
  · obtain ⟨v, rfl, rx⟩ := pair1 rr
    rename_i x
    split at e
    · rename_i l q
      cases e
      obtain ⟨a, ys, rfl, h1, h2, h3⟩ := seq_ok ok q rx
      refine ⟨a, ys, rfl, ?_, fun l hl => h.lst ok h1 hl⟩
      cases t : isTup x with
      | true => exact .inr (h2 t)
      | false => exact .inl (h3 t)
    · cases e
  · cases e
theorem rc_of_rr {K : PySem.W.Frag} {w w1 : Wd} {r : R} {v : V} (h : RR K w w1 r v) : RC K w1 r v := by
  cases r with
  | v a =>
    cases a with
    | lst l =>
      cases h with
      | lst h1 h2 h3 => exact ⟨_, _, rfl, h1, h3⟩
    | _ => exact h
  | tl l =>
    obtain ⟨a, vs, rfl, h1, h2, _⟩ := h
    exact ⟨a, vs, rfl, h1, h2⟩
  | bo l =>
    obtain ⟨a, vs, rfl, h1, h2, _⟩ := h
    exact ⟨a, vs, rfl, h1, h2⟩
theorem good_bi (f : Bi) {es : Es F} (hs : GoodEs G C cs N k es) : GoodE G C cs N k (.bi f es) := by
  intro sc ast X XW fnB h xo hsc
  cases ast with
  | Call fn xs kws p =>
    cases fn with
    | Name g p2 =>
      match xs, kws, h with
      | x :: xs, [], h =>
        replace h : (decide (g = biName f) && gloB sc g && okEs G.nm cs N sc es (x :: xs)) = true := h
        obtain ⟨h, h3⟩ := and_t h
        obtain ⟨h1, h2⟩ := and_t h
        have h1 := of_decide_eq_true h1
        subst hsc
        obtain ⟨g1, g2, g3⟩ := gloB_ok h2
        have hst : starEach (x :: xs) X.env = (false, eval x X.env) :: starEach xs X.env := by
          cases es with
          | nil => cases (show false = true from h3)
          | cons e es => exact okE_star (and_t (show (okE G.nm cs N X.env.scope e x && okEs G.nm cs N X.env.scope es xs) = true from h3)).1 xs X.env
        have hpl : (backTo p (starEach xs X.env)).any (·.1) = false := by
          cases es with
          | nil => cases (show false = true from h3)
          | cons e es => exact backTo_any (and_t (show (okE G.nm cs N X.env.scope e x && okEs G.nm cs N X.env.scope es xs) = true from h3)).2
        subst h1
        refine PE.weak (bi_pe xo f g1 (hs _ (x :: xs) X XW fnB h3 xo rfl) g2 g3 hst hpl) fun σ H Q q => ?_
        obtain ⟨w, w0, env, rfl, ok, en, q⟩ := q
        refine ⟨w, w0, env, rfl, ok, en, q.bind.imp fun rs w1 ⟨e1, ok1, h1⟩ vs rr => ?_⟩
        obtain ⟨r, hr, h2⟩ := ans_of e1 h1
        exact bi_ok ok1 hr (pimp rr fun a b z => rc_of_rr z) h2
      | [], _, h => cases (show false = true from h)
      | _ :: _, _ :: _, h => cases (show false = true from h)
    | _ => cases (show false = true from h)
  | _ => cases (show false = true from h)
end
end EV

set_option maxRecDepth 100000
set_option maxHeartbeats 2000000
namespace EV
open PySem PySem.Spec PyProof.Rows L2 RT RZ
/-! ### walks -/
def KV (K : PySem.W.Frag) (w : Wd) (ks : List (AV × V)) : Prop := ∀ p ∈ ks, RW K w p.1 p.2
def WalkA (K : PySem.W.Frag) (ks : List (AV × V)) (l : List AV) (J : L2.It) : Prop := ∃ (Gp : Hp → Prop) (Y : Nat → Hp → V → Hp → Prop), Walk J l.length Gp Y ∧ (∀ w, WOK K w → KV K w ks → Gp w.H) ∧
  ∀ (i : Nat) (x : V) (H' : Hp) (w : Wd), i < l.length → WOK K w → KV K w ks → Y i w.H x H' → ∃ a w', l[i]? = some a ∧ w'.H = H' ∧ w'.st = w.st ∧ Ext w w' ∧ WOK K w' ∧ RW K w' a x
theorem KV.ext {K : PySem.W.Frag} {w w' : Wd} {ks : List (AV × V)} (h : KV K w ks) (ok : WOK K w) (e : Ext w w') : KV K w' ks := fun p hp => RA.ext ok e (h p hp)
section
variable {K : PySem.W.Frag} {l m : List AV}
theorem kv1 {w : Wd} {a : AV} {v : V} : KV K w [(a, v)] ↔ RW K w a v := ⟨fun h => h (a, v) (by simp), fun h p hp => by
  have : p = (a, v) := by simpa using hp
  subst this; exact h⟩
theorem kv2 {w : Wd} {a b : AV} {v u : V} : KV K w [(a, v), (b, u)] ↔ RW K w a v ∧ RW K w b u := ⟨fun h => ⟨h (a, v) (by simp), h (b, u) (by simp)⟩, fun h p hp => by
  rcases List.mem_cons.mp hp with e | hp
  · subst e; exact h.1
  · have : p = (b, u) := by simpa using hp
    subst this; exact h.2⟩
/-- a list or a tuple as a value: its items by the heap -/
theorem seqV_ok {w : Wd} {a : AV} {v : V} (e : seqV a = some l) (h : RW K w a v) : ∃ p vs, v = .ref p ∧ vs.length = l.length ∧ RWs K w l vs ∧ (isTupA a = true → SqT K w.H p vs) ∧ (isTupA a = false → SqL K w.H p vs) := by
  cases a with
  | tup m =>
    cases e
    cases h with
    | tup h1 h2 => exact ⟨_, _, rfl, h2.length.symm, h2, fun _ => h1, fun q => by cases q⟩
  | lst m =>
    cases e
    cases h with
    | lst h1 h2 h3 => exact ⟨_, _, rfl, h3.length.symm, h3, fun q => (by cases q), fun _ => SqL.of h1⟩
  | scr m =>
    cases e
    cases h with
    | scr h1 => exact ⟨_, _, rfl, by simp, RAs.ints, fun q => (by cases q), fun _ => h1.sq⟩
  | _ => cases e
theorem seqL_ok {w : Wd} {a : AV} {p : Addr} (t : isTupA a = false) (e : seqV a = some l) (h : RW K w a (.ref p)) : ∃ vs, SqL K w.H p vs ∧ vs.length = l.length ∧ RWs K w l vs := by
  obtain ⟨q, vs, e1, h1, h2, h3, h4⟩ := seqV_ok e h
  cases e1
  exact ⟨vs, h4 t, h1, h2⟩
theorem seqT_ok {w : Wd} {a : AV} {p : Addr} (t : isTupA a = true) (e : seqV a = some l) (h : RW K w a (.ref p)) : ∃ vs, SqT K w.H p vs ∧ vs.length = l.length ∧ RWs K w l vs := by
  obtain ⟨q, vs, e1, h1, h2, h3, h4⟩ := seqV_ok e h
  cases e1
  exact ⟨vs, h3 t, h1, h2⟩
theorem get_lt {α : Type} {xs : List α} {i : Nat} (h : i < xs.length) : ∃ x, xs[i]? = some x := ⟨xs[i], by simp [h]⟩
theorem walkA_list {a : AV} {p : Addr} (t : isTupA a = false) (e : seqV a = some l) : WalkA K [(a, .ref p)] l (Itl K p) := by
  refine ⟨fun H => ∃ vs, SqL K H p vs ∧ vs.length = l.length, fun i H x H' => H' = H ∧ ∀ xs, SqL K H p xs → xs[i]? = some x, ⟨fun i H hi ⟨vs, q, z⟩ => ?_, fun H ⟨vs, q, z⟩ => ⟨vs, q, Nat.le_of_eq z⟩, fun _ _ _ _ _ _ y => y⟩, fun w ok kv => ?_, fun i x H' w hi ok kv y => ?_⟩
  · obtain ⟨x, hx⟩ := get_lt (xs := vs) (i := i) (by omega)
    exact ⟨vs, x, q, hx⟩
  · obtain ⟨vs, h1, h2, _⟩ := seqL_ok t e (kv1.mp kv)
    exact ⟨vs, h1, h2⟩
  · obtain ⟨vs, h1, h2, h3⟩ := seqL_ok t e (kv1.mp kv)
    obtain ⟨rfl, y⟩ := y
    obtain ⟨b, h4, h5⟩ := h3.getV (y vs h1)
    exact ⟨b, w, h4, rfl, rfl, Ext.refl w, ok, h5⟩
theorem walkA_tup {a : AV} {p : Addr} (t : isTupA a = true) (e : seqV a = some l) : WalkA K [(a, .ref p)] l (Itt K p) := by
  refine ⟨fun H => ∃ vs, SqT K H p vs ∧ vs.length = l.length, fun i H x H' => H' = H ∧ ∀ xs, SqT K H p xs → xs[i]? = some x, ⟨fun i H hi ⟨vs, q, z⟩ => ?_, fun H ⟨vs, q, z⟩ => ⟨vs, q, Nat.le_of_eq z⟩, fun _ _ _ _ _ _ y => y⟩, fun w ok kv => ?_, fun i x H' w hi ok kv y => ?_⟩
  · obtain ⟨x, hx⟩ := get_lt (xs := vs) (i := i) (by omega)
    exact ⟨vs, x, q, hx⟩
  · obtain ⟨vs, h1, h2, _⟩ := seqT_ok t e (kv1.mp kv)
    exact ⟨vs, h1, h2⟩
  · obtain ⟨vs, h1, h2, h3⟩ := seqT_ok t e (kv1.mp kv)
    obtain ⟨rfl, y⟩ := y
    obtain ⟨b, h4, h5⟩ := h3.getV (y vs h1)
    exact ⟨b, w, h4, rfl, rfl, Ext.refl w, ok, h5⟩
theorem rev_at {α : Type} {l : List α} {i : Nat} (h : i < l.length) : l.reverse[i]? = l[l.length - 1 - i]? := by
  rw [List.getElem?_reverse h]
theorem walkA_revL {a : AV} {p : Addr} (t : isTupA a = false) (e : seqV a = some l) : WalkA K [(a, .ref p)] l.reverse (Itv K p l.length) := by
  refine ⟨fun H => ∃ vs, SqL K H p vs ∧ vs.length = l.length, fun i H x H' => H' = H ∧ ∀ xs, SqL K H p xs → xs[l.length - 1 - i]? = some x, ⟨fun i H hi ⟨vs, q, z⟩ => ?_, fun H _ => by show l.length ≤ l.reverse.length; simp, fun _ _ _ _ _ _ y => y⟩, fun w ok kv => ?_, fun i x H' w hi ok kv y => ?_⟩
  · rw [List.length_reverse] at hi
    obtain ⟨x, hx⟩ := get_lt (xs := vs) (i := l.length - 1 - i) (by omega)
    exact ⟨hi, vs, x, q, hx⟩
  · obtain ⟨vs, h1, h2, _⟩ := seqL_ok t e (kv1.mp kv)
    exact ⟨vs, h1, h2⟩
  · rw [List.length_reverse] at hi
    obtain ⟨vs, h1, h2, h3⟩ := seqL_ok t e (kv1.mp kv)
    obtain ⟨rfl, y⟩ := y
    obtain ⟨b, h4, h5⟩ := h3.getV (y vs h1)
    exact ⟨b, w, by rw [rev_at hi]; exact h4, rfl, rfl, Ext.refl w, ok, h5⟩
theorem walkA_revT {a : AV} {p : Addr} (t : isTupA a = true) (e : seqV a = some l) : WalkA K [(a, .ref p)] l.reverse (ItvT K p l.length) := by
  refine ⟨fun H => ∃ vs, SqT K H p vs ∧ vs.length = l.length, fun i H x H' => H' = H ∧ ∀ xs, SqT K H p xs → xs[l.length - 1 - i]? = some x, ⟨fun i H hi ⟨vs, q, z⟩ => ?_, fun H _ => by show l.length ≤ l.reverse.length; simp, fun _ _ _ _ _ _ y => y⟩, fun w ok kv => ?_, fun i x H' w hi ok kv y => ?_⟩
  · rw [List.length_reverse] at hi
    obtain ⟨x, hx⟩ := get_lt (xs := vs) (i := l.length - 1 - i) (by omega)
    exact ⟨hi, vs, x, q, hx⟩
  · obtain ⟨vs, h1, h2, _⟩ := seqT_ok t e (kv1.mp kv)
    exact ⟨vs, h1, h2⟩
  · rw [List.length_reverse] at hi
    obtain ⟨vs, h1, h2, h3⟩ := seqT_ok t e (kv1.mp kv)
    obtain ⟨rfl, y⟩ := y
    obtain ⟨b, h4, h5⟩ := h3.getV (y vs h1)
    exact ⟨b, w, by rw [rev_at hi]; exact h4, rfl, rfl, Ext.refl w, ok, h5⟩
theorem walkA_str {z : Str} : WalkA K [] (z.cps.toList.map fun c => .str ⟨#[c]⟩) (Its z) := by
  refine ⟨fun _ => True, fun i H v H' => H' = H ∧ ∃ c, z.cps[i]? = some c ∧ v = .str ⟨#[c]⟩, ?_, fun _ _ _ => trivial, fun i x H' w hi ok kv y => ?_⟩
  · rw [List.length_map, Array.length_toList]
    exact walk_str
  · obtain ⟨rfl, c, h1, rfl⟩ := y
    refine ⟨.str ⟨#[c]⟩, w, ?_, rfl, rfl, Ext.refl w, ok, .str _⟩
    rw [List.getElem?_map, Array.getElem?_toList, h1]
    rfl
theorem walkA_rng {lo : Int} {n : Nat} : WalkA K [] ((List.range n).map fun (k : Nat) => .int (lo + k)) (Itr lo n) := by
  refine ⟨fun _ => True, YFn fun i => .int (lo + i), ?_, fun _ _ _ => trivial, fun i x H' w hi ok kv y => ?_⟩
  · rw [List.length_map, List.length_range]
    exact walk_range
  · rw [List.length_map, List.length_range] at hi
    obtain ⟨rfl, rfl⟩ := y
    exact ⟨.int (lo + i), w, by simp [hi], rfl, rfl, Ext.refl w, ok, .int _⟩
theorem walkA_rngC {lo c : Int} {n : Nat} : WalkA K [] ((List.range n).map fun (k : Nat) => .int (lo + k * c)) (Itc lo c n) := by
  refine ⟨fun _ => True, YFn fun i => .int (lo + (i : Nat) * c), ?_, fun _ _ _ => trivial, fun i x H' w hi ok kv y => ?_⟩
  · rw [List.length_map, List.length_range]
    exact walk_rangeC
  · rw [List.length_map, List.length_range] at hi
    obtain ⟨rfl, rfl⟩ := y
    exact ⟨.int (lo + i * c), w, by simp [hi], rfl, rfl, Ext.refl w, ok, .int _⟩
/-- a new pair -/
theorem new_pair {w : Wd} {a b : AV} {x y : V} {T : Addr} (ok : WOK K w) (h1 : RW K w a x) (h2 : RW K w b y) (hT : w.H T = none) : ∃ w', w'.H = upd w.H T (.tup [x, y]) ∧ w'.st = w.st ∧ Ext w w' ∧ WOK K w' ∧ RW K w' (.tup [a, b]) (.ref T) :=
  ⟨⟨w.ro, w.fb, w.st, upd w.H T (.tup [x, y])⟩, rfl, rfl, Ext.laid hT, ok.laid hT, res_tup ok hT (.cons h1 (.cons h2 .nil))⟩
theorem walkA_zipL {a b : AV} {p q : Addr} (t : isTupA a = false) (u : isTupA b = false) (e : seqV a = some l) (e' : seqV b = some m) : WalkA K [(a, .ref p), (b, .ref q)] ((l.zip m).map fun p => .tup [p.1, p.2]) (Itz K p q) := by
  refine ⟨fun H => ∃ vs us, SqL K H p vs ∧ vs.length = l.length ∧ SqL K H q us ∧ us.length = m.length,
    fun i H v H' => ∃ T x y, v = .ref T ∧ H T = none ∧ H' = upd H T (.tup [x, y]) ∧ (∀ xs, SqL K H p xs → xs[i]? = some x) ∧ ∀ ys, SqL K H q ys → ys[i]? = some y,
    ⟨fun i H hi ⟨vs, us, q1, z1, q2, z2⟩ => ?_, fun H ⟨vs, us, q1, z1, q2, z2⟩ => ⟨vs, us, q1, q2, ?_⟩, fun _ _ _ _ _ _ y => y⟩, fun w ok kv => ?_, fun i x H' w hi ok kv y => ?_⟩
  · simp only [List.length_map, List.length_zip] at hi
    obtain ⟨x, hx⟩ := get_lt (xs := vs) (i := i) (by omega)
    obtain ⟨y, hy⟩ := get_lt (xs := us) (i := i) (by omega)
    exact ⟨vs, us, x, y, q1, q2, hx, hy⟩
  · simp only [List.length_map, List.length_zip]
    omega
  · obtain ⟨vs, h1, h2, _⟩ := seqL_ok t e (kv2.mp kv).1
    obtain ⟨us, h3, h4, _⟩ := seqL_ok u e' (kv2.mp kv).2
    exact ⟨vs, us, h1, h2, h3, h4⟩
  · obtain ⟨vs, h1, h2, g1⟩ := seqL_ok t e (kv2.mp kv).1
    obtain ⟨us, h3, h4, g2⟩ := seqL_ok u e' (kv2.mp kv).2
    obtain ⟨T, x, y, rfl, hT, rfl, hx, hy⟩ := y
    obtain ⟨c, z1, z2⟩ := g1.getV (hx vs h1)
    obtain ⟨d, z3, z4⟩ := g2.getV (hy us h3)
    obtain ⟨w', e1, e2, e3, e4, e5⟩ := new_pair ok z2 z4 hT
    exact ⟨.tup [c, d], w', by rw [List.getElem?_map, List.getElem?_zip_eq_some (z := (c, d)) |>.mpr ⟨z1, z3⟩]; rfl, e1, e2, e3, e4, e5⟩
theorem walkA_zipT {a b : AV} {p q : Addr} (t : isTupA a = true) (u : isTupA b = true) (e : seqV a = some l) (e' : seqV b = some m) : WalkA K [(a, .ref p), (b, .ref q)] ((l.zip m).map fun p => .tup [p.1, p.2]) (ItzT K p q) := by
  refine ⟨fun H => ∃ vs us, SqT K H p vs ∧ vs.length = l.length ∧ SqT K H q us ∧ us.length = m.length,
    fun i H v H' => ∃ T x y, v = .ref T ∧ H T = none ∧ H' = upd H T (.tup [x, y]) ∧ (∀ xs, SqT K H p xs → xs[i]? = some x) ∧ ∀ ys, SqT K H q ys → ys[i]? = some y,
    ⟨fun i H hi ⟨vs, us, q1, z1, q2, z2⟩ => ?_, fun H ⟨vs, us, q1, z1, q2, z2⟩ => ⟨vs, us, q1, q2, ?_⟩, fun _ _ _ _ _ _ y => y⟩, fun w ok kv => ?_, fun i x H' w hi ok kv y => ?_⟩
  · simp only [List.length_map, List.length_zip] at hi
    obtain ⟨x, hx⟩ := get_lt (xs := vs) (i := i) (by omega)
    obtain ⟨y, hy⟩ := get_lt (xs := us) (i := i) (by omega)
    exact ⟨vs, us, x, y, q1, q2, hx, hy⟩
  · simp only [List.length_map, List.length_zip]
    omega
  · obtain ⟨vs, h1, h2, _⟩ := seqT_ok t e (kv2.mp kv).1
    obtain ⟨us, h3, h4, _⟩ := seqT_ok u e' (kv2.mp kv).2
    exact ⟨vs, us, h1, h2, h3, h4⟩
  · obtain ⟨vs, h1, h2, g1⟩ := seqT_ok t e (kv2.mp kv).1
    obtain ⟨us, h3, h4, g2⟩ := seqT_ok u e' (kv2.mp kv).2
    obtain ⟨T, x, y, rfl, hT, rfl, hx, hy⟩ := y
    obtain ⟨c, z1, z2⟩ := g1.getV (hx vs h1)
    obtain ⟨d, z3, z4⟩ := g2.getV (hy us h3)
    obtain ⟨w', e1, e2, e3, e4, e5⟩ := new_pair ok z2 z4 hT
    exact ⟨.tup [c, d], w', by rw [List.getElem?_map, List.getElem?_zip_eq_some (z := (c, d)) |>.mpr ⟨z1, z3⟩]; rfl, e1, e2, e3, e4, e5⟩
theorem walkA_enum {a : AV} {p : Addr} (t : isTupA a = false) (e : seqV a = some l) : WalkA K [(a, .ref p)] (((List.range l.length).zip l).map fun p => .tup [.int (p.1 : Nat), p.2]) (Ite K p) := by
  refine ⟨fun H => ∃ vs, SqL K H p vs ∧ vs.length = l.length, fun i H v H' => ∃ T x, v = .ref T ∧ H T = none ∧ H' = upd H T (.tup [.int (i : Nat), x]) ∧ ∀ xs, SqL K H p xs → xs[i]? = some x,
    ⟨fun i H hi ⟨vs, q, z⟩ => ?_, fun H ⟨vs, q, z⟩ => ⟨vs, q, ?_⟩, fun _ _ _ _ _ _ y => y⟩, fun w ok kv => ?_, fun i x H' w hi ok kv y => ?_⟩
  · simp only [List.length_map, List.length_zip, List.length_range] at hi
    obtain ⟨x, hx⟩ := get_lt (xs := vs) (i := i) (by omega)
    exact ⟨vs, x, q, hx⟩
  · simp only [List.length_map, List.length_zip, List.length_range]
    omega
  · obtain ⟨vs, h1, h2, _⟩ := seqL_ok t e (kv1.mp kv)
    exact ⟨vs, h1, h2⟩
  · simp only [List.length_map, List.length_zip, List.length_range] at hi
    obtain ⟨vs, h1, h2, g1⟩ := seqL_ok t e (kv1.mp kv)
    obtain ⟨T, x, rfl, hT, rfl, hx⟩ := y
    obtain ⟨c, z1, z2⟩ := g1.getV (hx vs h1)
    obtain ⟨w', e1, e2, e3, e4, e5⟩ := new_pair ok (.int (i : Nat)) z2 hT
    refine ⟨.tup [.int (i : Nat), c], w', ?_, e1, e2, e3, e4, e5⟩
    have hi2 : i < l.length := by omega
    rw [List.getElem?_map, List.getElem?_zip_eq_some (z := (i, c)) |>.mpr ⟨show (List.range l.length)[i]? = some i by simp [hi2], z1⟩]
    rfl
end
section
variable {F : Type} {G : Glo F} {C : Cf F} {cs : List (Str × Const)} {N : List Str} {k : Nat}
def tEvi (G : Glo F) (C : Cf F) (K : PySem.W.Frag) (XW : XK) (it : It F) : TI := fun σ H R => ∃ w w0 env, w.H = H ∧ WOK K w ∧ REnv K w0 w env σ ∧
  Sat K w (evi C env it w.st) (fun l w' => ∀ w2 ks J, w2.st = w'.st → Ext w w2 → WOK K w2 → KV K w2 ks → WalkA K ks l J → R J w2.H) (xq G XW)
def GoodI (G : Glo F) (C : Cf F) (cs : List (Str × Const)) (N : List Str) (k : Nat) (it : It F) : Prop := ∀ (sc : Scope) (tg ast : Expr) (X : Cx) (XW : XK) (fnB : Bool), okI G.nm cs N sc it ast = true → itTg it tg = true → XOk G C cs N k X XW fnB → X.env.scope = sc → PI X tg ast (tEvi G C X.K XW it)
/-- a value that is walked, frozen if it was just made -/
theorem sat_frz {K : PySem.W.Frag} {α : Type} {w : Wd} {e : Rs R} {f : AV → Option α} {P : α → Wd → Prop} {Z : Str → List AV → Wd → Prop} (kf : ∀ a ∈ w.fb, w.H a ≠ none) (h : Sat K w (e.bind fun x s => Rs.of ((toA (fz x)).bind f) s) P Z) :
    Sat K w e (fun r w1 => ∃ a l, toA (fz r) = some a ∧ f a = some l ∧ ∀ v, RR K w w1 r v → ∃ w2, w2.H = w1.H ∧ w2.st = w1.st ∧ Ext w w2 ∧ WOK K w2 ∧ RW K w2 a v ∧ P l w2) Z := by
  refine h.bindF.imp fun r w1 ⟨e1, ok1, h1⟩ => ?_
  obtain ⟨l, hl, _⟩ := (h1 w1 e1 rfl).of2 rfl
  obtain ⟨a, q1, q2⟩ := Option.bind_eq_some_iff.mp hl
  refine ⟨a, l, q1, q2, fun v rv => ?_⟩
  obtain ⟨w2, eH, eS, e2, ok2, rv2⟩ := freeze e1 ok1 rv kf
  obtain ⟨l', hl', h3⟩ := (h1 w2 e2 eS).of_ rfl ok2
  have hl2 := hl.symm.trans hl'
  cases hl2
  exact ⟨w2, eH, eS, e2, ok2, toA_ok rv2 q1, h3⟩
end
end EV

set_option maxRecDepth 100000
set_option maxHeartbeats 2000000
namespace EV
open PySem PySem.Spec PyProof.Rows L2 RT RZ
section
variable {F : Type} {G : Glo F} {C : Cf F} {cs : List (Str × Const)} {N : List Str} {k : Nat}
theorem Sat.ex {K : PySem.W.Frag} {α β : Type} {w : Wd} {r : α} {s : Sto} {g : α → Option β} {P : β → Wd → Prop} {Z : Str → List AV → Wd → Prop} (h : Sat K w ((Rs.ok r s).bind fun x s => Rs.of (g x) s) P Z) : ∃ l, g r = some l := by
  cases q : g r with
  | none =>
    have h : Sat K w (Rs.of (g r) s) P Z := h
    rw [q] at h
    exact (h : False).elim
  | some l => exact ⟨l, rfl⟩
theorem good_seq {e : E F} (he : GoodE G C cs N k e) : GoodI G C cs N k (.seq e) := by
  intro sc tg ast X XW fnB h ht xo hsc
  have hp := he sc ast X XW fnB h xo hsc
  refine PI.weak (PI.or (pi_list hp) (PI.or (pi_tup hp) (pi_str hp))) fun σ H R q => ?_
  obtain ⟨w, w0, env, rfl, ok, en, q⟩ := q
  have z := sat_frz (f := itV) ok.dom q
  have qq : Sat X.K w ((ev C env e w.st).bind fun x s => Rs.of ((toA (fz x)).bind itV) s) _ _ := q
  cases hev : ev C env e w.st with
  | stuck => rw [hev] at qq; exact (qq : False).elim
  | exc c fs s =>
    refine .inl ⟨w, w0, env, rfl, ok, en, ?_⟩
    rw [hev] at z ⊢
    exact z
  | ok r s =>
    rw [hev] at z qq
    obtain ⟨l, hl⟩ := qq.ex
    obtain ⟨a, q1, q2⟩ := Option.bind_eq_some_iff.mp hl
    have get : ∀ w', w'.st = s → Ext w w' → WOK X.K w' → ∀ v, RR X.K w w' r v → ∃ w2, w2.H = w'.H ∧ RW X.K w2 a v ∧ WOK X.K w2 ∧ ∀ ks J, KV X.K w2 ks → WalkA X.K ks l J → R J w'.H := fun w' hs e1 ok1 v rv => by
      obtain ⟨a', l', z1, z2, z3⟩ := z w' hs e1 ok1
      cases q1.symm.trans z1
      cases q2.symm.trans z2
      obtain ⟨w2, eH, eS, e2, ok2, rv2, z4⟩ := z3 v rv
      exact ⟨w2, eH, rv2, ok2, fun ks J h1 h2 => by rw [← eH]; exact z4 w2 ks J rfl e2 ok2 h1 h2⟩
    cases a with
    | str x =>
      refine .inr (.inr ⟨w, w0, env, rfl, ok, en, ?_⟩)
      rw [hev]
      intro w' hs e1 ok1 v rv
      obtain ⟨w2, eH, rv2, ok2, z⟩ := get w' hs e1 ok1 v rv
      cases rv2
      cases q2
      exact ⟨x, rfl, z [] _ (fun p hp => by cases hp) walkA_str⟩
    | tup m =>
      refine .inr (.inl ⟨w, w0, env, rfl, ok, en, ?_⟩)
      rw [hev]
      intro w' hs e1 ok1 v rv
      obtain ⟨w2, eH, rv2, ok2, z⟩ := get w' hs e1 ok1 v rv
      have e : seqV (.tup m) = some l := q2
      obtain ⟨p, vs, rfl, h1, h2, h3, h4⟩ := seqV_ok e rv2
      exact ⟨p, rfl, ⟨vs, by rw [← eH]; exact h3 rfl⟩, z _ _ (kv1.mpr rv2) (walkA_tup rfl e)⟩
    | lst m =>
      refine .inl ⟨w, w0, env, rfl, ok, en, ?_⟩
      rw [hev]
      intro w' hs e1 ok1 v rv
      obtain ⟨w2, eH, rv2, ok2, z⟩ := get w' hs e1 ok1 v rv
      have e : seqV (.lst m) = some l := q2
      obtain ⟨p, vs, rfl, h1, h2, h3, h4⟩ := seqV_ok e rv2
      exact ⟨p, rfl, ⟨vs, by rw [← eH]; exact h4 rfl⟩, z _ _ (kv1.mpr rv2) (walkA_list rfl e)⟩
    | scr m =>
      refine .inl ⟨w, w0, env, rfl, ok, en, ?_⟩
      rw [hev]
      intro w' hs e1 ok1 v rv
      obtain ⟨w2, eH, rv2, ok2, z⟩ := get w' hs e1 ok1 v rv
      have e : seqV (.scr m) = some l := q2
      obtain ⟨p, vs, rfl, h1, h2, h3, h4⟩ := seqV_ok e rv2
      exact ⟨p, rfl, ⟨vs, by rw [← eH]; exact h4 rfl⟩, z _ _ (kv1.mpr rv2) (walkA_list rfl e)⟩
    | _ => cases q2
theorem good_rev {e : E F} (he : GoodE G C cs N k e) : GoodI G C cs N k (.rev e) := by
  intro sc tg ast X XW fnB h ht xo hsc
  cases ast with
  | Call fn xs kws p =>
    cases fn with
    | Name g p2 =>
      match xs, kws, h with
      | [x], [], h =>
        replace h : (decide (g = ("reversed" : Str)) && gloB sc g && okE G.nm cs N sc e x) = true := h
        obtain ⟨h, h3⟩ := and_t h
        obtain ⟨h1, h2⟩ := and_t h
        have h1 := of_decide_eq_true h1
        subst hsc
        obtain ⟨g1, g2, g3⟩ := gloB_ok h2
        subst h1
        refine PI.weak (pi_revA g1 (xo.blt _ (by decide +kernel)) (he _ x X XW fnB h3 xo rfl) (okE_star h3 [] X.env)) fun σ H R q => ?_
        obtain ⟨w, w0, env, rfl, ok, en, q⟩ := q
        refine ⟨w, w0, env, rfl, ok, en, (sat_frz ok.dom q).imp fun r w1 ⟨a, l, z1, z2, z3⟩ v rv => ?_⟩
        obtain ⟨m, z5, z6⟩ := Option.map_eq_some_iff.mp z2
        subst z6
        obtain ⟨w2, eH, eS, e2, ok2, rv2, z4⟩ := z3 v rv
        obtain ⟨p, vs, rfl, h1, h2, h3, h4⟩ := seqV_ok z5 rv2
        refine ⟨p, vs, rfl, ?_⟩
        rw [← eH]
        cases t : isTupA a with
        | true => exact .inr ⟨h3 t, by rw [h1]; exact z4 w2 _ _ rfl e2 ok2 (kv1.mpr rv2) (walkA_revT t z5)⟩
        | false => exact .inl ⟨h4 t, by rw [h1]; exact z4 w2 _ _ rfl e2 ok2 (kv1.mpr rv2) (walkA_revL t z5)⟩
      | [], _, h => cases (show false = true from h)
      | _ :: _ :: _, _, h => cases (show false = true from h)
      | [_], _ :: _, h => cases (show false = true from h)
    | _ => cases (show false = true from h)
  | _ => cases (show false = true from h)
theorem star_of {sc : Scope} {es : Es F} {x : Expr} {xs : List Expr} (h : okEs G.nm cs N sc es (x :: xs) = true) (env : PySem.Env) (pos : Pos) : starEach (x :: xs) env = (false, eval x env) :: starEach xs env ∧ (backTo pos (starEach xs env)).any (·.1) = false := by
  cases es with
  | nil => cases (show false = true from h)
  | cons e es =>
    obtain ⟨h1, h2⟩ := and_t (show (okE G.nm cs N sc e x && okEs G.nm cs N sc es xs) = true from h)
    exact ⟨okE_star h1 xs env, backTo_any h2⟩
theorem good_zip {es : Es F} (hs : GoodEs G C cs N k es) : GoodI G C cs N k (.zip es) := by
  intro sc tg ast X XW fnB h ht xo hsc
  cases tg with
  | Tuple elts kk tpos =>
    cases ast with
    | Call fn xs kws p =>
      cases fn with
      | Name g p2 =>
        match xs, kws, h with
        | [x, y], [], h =>
          replace h : (decide (g = ("zip" : Str)) && gloB sc g && okEs G.nm cs N sc es [x, y]) = true := h
          obtain ⟨h, h3⟩ := and_t h
          obtain ⟨h1, h2⟩ := and_t h
          have h1 := of_decide_eq_true h1
          subst hsc
          obtain ⟨g1, g2, g3⟩ := gloB_ok h2
          subst h1
          obtain ⟨s1, s2⟩ := star_of h3 X.env p
          refine PI.weak (pi_zipA g1 (xo.blt _ (by decide +kernel)) (hs _ _ X XW fnB h3 xo rfl) s1 s2) fun σ H R q => ?_
          obtain ⟨w, w0, env, rfl, ok, en, q⟩ := q
          refine ⟨w, w0, env, rfl, ok, en, q.bind.imp fun rs w1 ⟨e1, ok1, h1⟩ vs rr => ?_⟩
          obtain ⟨l, hl, h2⟩ := h1.of_ rfl ok1
          unfold zipR at hl
          split at hl
          · rename_i a b _
            obtain ⟨v, u, rfl, ra, rb⟩ := pair2 rr
            have ra : RW X.K w1 a v := ra
            have rb : RW X.K w1 b u := rb
            split at hl
            · rename_i l1 m1 q1 q2
              split at hl
              · rename_i tt
                cases hl
                obtain ⟨p1, vs, rfl, z1, z2, z3, z4⟩ := seqV_ok q1 ra
                obtain ⟨p2, us, rfl, y1, y2, y3, y4⟩ := seqV_ok q2 rb
                refine ⟨p1, p2, vs, us, rfl, ?_⟩
                have tt : isTupA a = isTupA b := by simpa using tt
                cases t : isTupA a with
                | true => exact .inr ⟨z3 t, y3 (tt ▸ t), h2 w1 _ _ rfl e1 ok1 (kv2.mpr ⟨ra, rb⟩) (walkA_zipT t (tt ▸ t) q1 q2)⟩
                | false => exact .inl ⟨z4 t, y4 (tt ▸ t), h2 w1 _ _ rfl e1 ok1 (kv2.mpr ⟨ra, rb⟩) (walkA_zipL t (tt ▸ t) q1 q2)⟩
              · cases hl
            · cases hl
          · cases hl
        | [], _, h => cases (show false = true from h)
        | [_], _, h => cases (show false = true from h)
        | _ :: _ :: _ :: _, _, h => cases (show false = true from h)
        | [_, _], _ :: _, h => cases (show false = true from h)
      | _ => cases (show false = true from h)
    | _ => cases (show false = true from h)
  | _ => cases (show false = true from ht)
theorem good_enum {es : Es F} (hs : GoodEs G C cs N k es) : GoodI G C cs N k (.enum es) := by
  intro sc tg ast X XW fnB h ht xo hsc
  cases tg with
  | Tuple elts kk tpos =>
    cases ast with
    | Call fn xs kws p =>
      cases fn with
      | Name g p2 =>
        match xs, kws, h with
        | [x], [], h =>
          replace h : (decide (g = ("enumerate" : Str)) && gloB sc g && okEs G.nm cs N sc es [x]) = true := h
          obtain ⟨h, h3⟩ := and_t h
          obtain ⟨h1, h2⟩ := and_t h
          have h1 := of_decide_eq_true h1
          subst hsc
          obtain ⟨g1, g2, g3⟩ := gloB_ok h2
          subst h1
          obtain ⟨s1, s2⟩ := star_of h3 X.env p
          refine PI.weak (pi_enum g1 (xo.blt _ (by decide +kernel)) (hs _ _ X XW fnB h3 xo rfl) s1) fun σ H R q => ?_
          obtain ⟨w, w0, env, rfl, ok, en, q⟩ := q
          refine ⟨w, w0, env, rfl, ok, en, q.bind.imp fun rs w1 ⟨e1, ok1, h1⟩ vs rr => ?_⟩
          obtain ⟨l, hl, h2⟩ := h1.of_ rfl ok1
          unfold enumR at hl
          split at hl
          · rename_i a _
            obtain ⟨v, rfl, ra⟩ := pair1 rr
            have ra : RW X.K w1 a v := ra
            split at hl
            · rename_i l1 q1
              split at hl
              · cases hl
              · rename_i t
                cases hl
                have t : isTupA a = false := by simpa using t
                obtain ⟨p1, vs, rfl, z1, z2, z3, z4⟩ := seqV_ok q1 ra
                exact ⟨p1, vs, rfl, z4 t, h2 w1 _ _ rfl e1 ok1 (kv1.mpr ra) (walkA_enum t q1)⟩
            · cases hl
          · cases hl
        | [], _, h => cases (show false = true from h)
        | _ :: _ :: _, _, h => cases (show false = true from h)
        | [_], _ :: _, h => cases (show false = true from h)
      | _ => cases (show false = true from h)
    | _ => cases (show false = true from h)
  | _ => cases (show false = true from ht)
theorem kv0 {K : PySem.W.Frag} {w : Wd} : KV K w [] := fun p hp => by cases hp
theorem small_of {i : Int} (h : smallI i = true) : -(2 ^ 62) ≤ i ∧ i < 2 ^ 62 := by
  unfold smallI at h
  simpa using h
theorem pair3 {α β : Type} {P : α → β → Prop} {x y z : α} {vs : List β} (h : Paired P [x, y, z] vs) : ∃ v u t, vs = [v, u, t] ∧ P x v ∧ P y u ∧ P z t := by
  cases h with
  | cons r t =>
    obtain ⟨u, t, rfl, q1, q2⟩ := pair2 t
    exact ⟨_, _, _, rfl, r, q1, q2⟩
theorem rr_int {K : PySem.W.Frag} {w w1 : Wd} {i : Int} {v : V} (h : RR K w w1 (.v (.int i)) v) : v = .int i := by
  have h : RW K w1 (.int i) v := h
  cases h; rfl
theorem walkA_rng0 {K : PySem.W.Frag} {j : Int} : WalkA K [] (rngL 0 j) (Itr 0 j.toNat) := by
  unfold rngL
  rw [Int.sub_zero]
  exact walkA_rng
theorem good_rng {n : Nat} {es : Es F} (hs : GoodEs G C cs N k es) : GoodI G C cs N k (.rng n es) := by
  intro sc tg ast X XW fnB h ht xo hsc
  cases ast with
  | Call fn xs kws p =>
    cases fn with
    | Name g p2 =>
      match xs, kws, h with
      | x :: xs, [], h =>
        replace h : (decide (xs.length + 1 = n ∧ n ≤ 3) && decide (g = ("range" : Str)) && gloB sc g && okEs G.nm cs N sc es (x :: xs)) = true := h
        obtain ⟨h, h3⟩ := and_t h
        obtain ⟨h, h2⟩ := and_t h
        obtain ⟨h0, h1⟩ := and_t h
        obtain ⟨h0, h5⟩ := of_decide_eq_true h0
        have h1 := of_decide_eq_true h1
        subst hsc
        obtain ⟨g1, g2, g3⟩ := gloB_ok h2
        subst h1 h0
        obtain ⟨s1, s2⟩ := star_of h3 X.env p
        have hsx : ∀ (a : Expr) (as : List Expr), xs = a :: as → starEach xs X.env = (false, eval a X.env) :: starEach as X.env := by
          intro a as e
          subst e
          cases es with
          | nil => cases (show false = true from h3)
          | cons e es => exact (star_of (and_t (show (okE G.nm cs N X.env.scope e x && okEs G.nm cs N X.env.scope es (a :: as)) = true from h3)).2 X.env p).1
        match xs, h3, s1, s2, hsx, h5 with
        | [], h3, s1, s2, hsx, h5 =>
          refine PI.weak (pi_range1 g1 (xo.blt _ (by decide +kernel)) (hs _ _ X XW fnB h3 xo rfl) s1) fun σ H R q => ?_
          obtain ⟨w, w0, env, rfl, ok, en, q⟩ := q
          refine ⟨w, w0, env, rfl, ok, en, q.bind.imp fun rs w1 ⟨e1, ok1, h1⟩ vs rr => ?_⟩
          obtain ⟨l, hl, h2⟩ := h1.of_ rfl ok1
          unfold rngR at hl
          split at hl
          · split at hl
            · rename_i c
              cases hl
              obtain ⟨v, rfl, ra⟩ := pair1 rr
              have := rr_int ra; subst this
              obtain ⟨c1, c2⟩ := small_of c
              exact ⟨_, rfl, c1, c2, h2 w1 [] _ rfl e1 ok1 kv0 walkA_rng0⟩
            · cases hl
          · rename_i e _; cases e
          · rename_i e _; cases e
          · cases hl
        | [y], h3, s1, s2, hsx, h5 =>
          have s3 := hsx y [] rfl
          refine PI.weak (pi_range2 g1 (xo.blt _ (by decide +kernel)) (hs _ _ X XW fnB h3 xo rfl) (by rw [s1, s3]; rfl) (by rw [s3]; rfl)) fun σ H R q => ?_
          obtain ⟨w, w0, env, rfl, ok, en, q⟩ := q
          refine ⟨w, w0, env, rfl, ok, en, q.bind.imp fun rs w1 ⟨e1, ok1, h1⟩ vs rr => ?_⟩
          obtain ⟨l, hl, h2⟩ := h1.of_ rfl ok1
          unfold rngR at hl
          split at hl
          · rename_i e _; cases e
          · split at hl
            · rename_i c
              cases hl
              obtain ⟨v, u, rfl, ra, rb⟩ := pair2 rr
              have := rr_int ra; have := rr_int rb; subst_vars
              obtain ⟨c, d⟩ := and_t c
              obtain ⟨c1, c2⟩ := small_of c
              obtain ⟨d1, d2⟩ := small_of d
              exact ⟨_, _, rfl, ⟨c1, c2, d1, d2⟩, h2 w1 [] _ rfl e1 ok1 kv0 walkA_rng⟩
            · cases hl
          · rename_i e _; cases e
          · cases hl
        | [y, z], h3, s1, s2, hsx, h5 =>
          refine PI.weak (pi_range3 g1 (xo.blt _ (by decide +kernel)) (hs _ _ X XW fnB h3 xo rfl) s1 s2) fun σ H R q => ?_
          obtain ⟨w, w0, env, rfl, ok, en, q⟩ := q
          refine ⟨w, w0, env, rfl, ok, en, q.bind.imp fun rs w1 ⟨e1, ok1, h1⟩ vs rr => ?_⟩
          obtain ⟨l, hl, h2⟩ := h1.of_ rfl ok1
          unfold rngR at hl
          split at hl
          · rename_i e _; cases e
          · rename_i e _; cases e
          · split at hl
            · rename_i c
              cases hl
              obtain ⟨v, u, t, rfl, ra, rb, rc⟩ := pair3 rr
              have := rr_int ra; have := rr_int rb; have := rr_int rc; subst_vars
              obtain ⟨c, c4⟩ := and_t c
              obtain ⟨c, c3⟩ := and_t c
              obtain ⟨c1, c2⟩ := and_t c
              exact ⟨_, _, _, _, rfl, ⟨of_decide_eq_true c1, of_decide_eq_true c2, c3, (Int.toNat_of_nonneg (of_decide_eq_true c4)).symm⟩, h2 w1 [] _ rfl e1 ok1 kv0 walkA_rngC⟩
            · cases hl
          · cases hl
        | a :: b :: c :: ds, h3, s1, s2, hsx, h5 => simp only [List.length_cons] at h5; omega
      | [], _, h => cases (show false = true from h)
      | _ :: _, _ :: _, h => cases (show false = true from h)
    | _ => cases (show false = true from h)
  | _ => cases (show false = true from h)
end
end EV

set_option maxRecDepth 100000
set_option maxHeartbeats 2000000
namespace EV
open PySem PySem.Spec PyProof.Rows L2 RT RZ
section
variable {F : Type} {G : Glo F} {C : Cf F} {cs : List (Str × Const)} {N : List Str} {k : Nat}
/-! ### targets -/
def gNames : List Nat → TGs
  | [] => gNil
  | i :: is => gCons (gName i) (gNames is)
def gT (K : PySem.W.Frag) : Tg → TG
  | .nm i => gName i
  | .tp is => gTup K is.length (gNames is)
theorem locB_ok {fnB : Bool} {sc : Scope} {x : Str} (h : locB fnB sc x = true) : Loc sc x ∧ (fnB = true ∨ sc.names.lookup x = some .local) := by
  unfold locB at h
  split at h
  · exact ⟨.inl (by assumption), .inr (by assumption)⟩
  · exact ⟨.inr (by assumption), .inl h⟩
  · cases h
theorem name_ok {X : Cx} {XW : XK} {fnB : Bool} {i : Nat} {tg : Expr} (xo : XOk G C cs N k X XW fnB) (h : nameB N fnB X.env.scope i tg = true) : ∃ x p, tg = .Name x p ∧ X.N[i]? = some x ∧ Loc X.env.scope x ∧ (X.fn x = true ∨ X.env.scope.names.lookup x = some .local) := by
  cases tg with
  | Name x p =>
    obtain ⟨h1, h2⟩ := and_t (show (decide (N[i]? = some x) && locB fnB X.env.scope x) = true from h)
    obtain ⟨h3, h4⟩ := locB_ok h2
    refine ⟨x, p, rfl, by rw [xo.hN]; exact of_decide_eq_true h1, h3, ?_⟩
    rcases h4 with h4 | h4
    · exact .inl (xo.fnb h4 x)
    · exact .inr h4
  | _ => cases (show false = true from h)
theorem name_pg {X : Cx} {XW : XK} {fnB : Bool} {i : Nat} {tg : Expr} (xo : XOk G C cs N k X XW fnB) (h : nameB N fnB X.env.scope i tg = true) : PG X tg (gName i) := by
  obtain ⟨x, p, rfl, h1, h2, h3⟩ := name_ok xo h
  exact pg_name xo.nd h1 h2 h3
theorem names_pg {X : Cx} {XW : XK} {fnB : Bool} (xo : XOk G C cs N k X XW fnB) : ∀ {is : List Nat} {es : List Expr}, namesB N fnB X.env.scope is es = true → PGs X es (gNames is) ∧ (assignEach es X.env).length = is.length ∧ (assignEach es X.env).findIdx? (·.1) = none
  | [], [], _ => ⟨pgs_nil, rfl, rfl⟩
  | [], _ :: _, h => by cases (show false = true from h)
  | _ :: _, [], h => by cases (show false = true from h)
  | i :: is, e :: es, h => by
    obtain ⟨h1, h2⟩ := and_t (show (nameB N fnB X.env.scope i e && namesB N fnB X.env.scope is es) = true from h)
    obtain ⟨k1, k2, k3⟩ := names_pg xo h2
    obtain ⟨x, p, rfl, _⟩ := name_ok xo h1
    refine ⟨pgs_cons (name_pg xo h1) k1 rfl, ?_, ?_⟩
    · show ((false, assign (.Name x p) X.env) :: assignEach es X.env).length = _
      rw [List.length_cons, k2, List.length_cons]
    · show ((false, assign (.Name x p) X.env) :: assignEach es X.env).findIdx? (·.1) = none
      rw [List.findIdx?_cons, k3]
      rfl
theorem tg_pg {X : Cx} {XW : XK} {fnB : Bool} {t : Tg} {tg : Expr} (xo : XOk G C cs N k X XW fnB) (h : tgB N fnB X.env.scope t tg = true) : PG X tg (gT X.K t) := by
  cases t with
  | nm i => exact name_pg xo h
  | tp is =>
    cases tg with
    | Tuple es kk p =>
      obtain ⟨k1, k2, k3⟩ := names_pg (is := is) (es := es) xo h
      exact pg_tup xo.hc k1 k2 k3
    | _ => cases (show false = true from h)
end
section
variable {K : PySem.W.Frag} {w w0 : Wd} {env : Env} {σ : L2.St}
theorem REnv.set {a : AV} {v : V} (i : Nat) (h : REnv K w0 w env σ) (r : RW K w a v) : REnv K w0 w (env.set i (.v a)) (σ.set i (some v)) where
  len := by rw [List.length_set, List.length_set]; exact h.len
  val := fun j b q => by
    by_cases e : i = j
    · subst e
      by_cases z : i < env.length
      · rw [List.getElem?_set_self z] at q
        cases q
        exact ⟨v, by rw [List.getElem?_set_self (by rw [← h.len]; exact z)], r⟩
      · rw [List.getElem?_eq_none (by rw [List.length_set]; omega)] at q
        cases q
    · rw [List.getElem?_set_ne e] at q
      obtain ⟨u, h1, h2⟩ := h.val j b q
      exact ⟨u, by rw [List.getElem?_set_ne e]; exact h1, h2⟩
  own := fun j l q => by
    by_cases e : i = j
    · subst e
      by_cases z : i < env.length
      · rw [List.getElem?_set_self z] at q
        cases q
      · rw [List.getElem?_eq_none (by rw [List.length_set]; omega)] at q
        cases q
    · rw [List.getElem?_set_ne e] at q ⊢
      exact h.own j l q
  inj := fun j1 j2 l m b q1 q2 s1 s2 => by
    have ne : ∀ (j : Nat) l, (env.set i (.v a))[j]? = some (Sl.own l) → i ≠ j := fun j l q e => by
      subst e
      by_cases z : i < env.length
      · rw [List.getElem?_set_self z] at q
        cases q
      · rw [List.getElem?_eq_none (by rw [List.length_set]; omega)] at q
        cases q
    have n1 := ne j1 l q1
    have n2 := ne j2 m q2
    rw [List.getElem?_set_ne n1] at q1 s1
    rw [List.getElem?_set_ne n2] at q2 s2
    exact h.inj j1 j2 l m b q1 q2 s1 s2
theorem REnv.no {o : Option V} (i : Nat) (h : REnv K w0 w env σ) : REnv K w0 w (env.set i .no) (σ.set i o) where
  len := by rw [List.length_set, List.length_set]; exact h.len
  val := fun j b q => by
    by_cases e : i = j
    · subst e
      by_cases z : i < env.length
      · rw [List.getElem?_set_self z] at q
        cases q
      · rw [List.getElem?_eq_none (by rw [List.length_set]; omega)] at q
        cases q
    · rw [List.getElem?_set_ne e] at q
      obtain ⟨u, h1, h2⟩ := h.val j b q
      exact ⟨u, by rw [List.getElem?_set_ne e]; exact h1, h2⟩
  own := fun j l q => by
    by_cases e : i = j
    · subst e
      by_cases z : i < env.length
      · rw [List.getElem?_set_self z] at q
        cases q
      · rw [List.getElem?_eq_none (by rw [List.length_set]; omega)] at q
        cases q
    · rw [List.getElem?_set_ne e] at q ⊢
      exact h.own j l q
  inj := fun j1 j2 l m b q1 q2 s1 s2 => by
    have ne : ∀ (j : Nat) l, (env.set i .no)[j]? = some (Sl.own l) → i ≠ j := fun j l q e => by
      subst e
      by_cases z : i < env.length
      · rw [List.getElem?_set_self z] at q
        cases q
      · rw [List.getElem?_eq_none (by rw [List.length_set]; omega)] at q
        cases q
    have n1 := ne j1 l q1
    have n2 := ne j2 m q2
    rw [List.getElem?_set_ne n1] at q1 s1
    rw [List.getElem?_set_ne n2] at q2 s2
    exact h.inj j1 j2 l m b q1 q2 s1 s2
/-- the names of a target forgotten -/
def wipeN (env : Env) (is : List Nat) : Env := is.foldl (fun e i => e.set i .no) env
theorem wipe_set {σ : L2.St} {i : Nat} : ∀ {is : List Nat}, (wipe σ is).set i none = wipe (σ.set i none) is := by
  intro is
  induction is with
  | nil => rfl
  | cons j is ih =>
    show ((wipe σ is).set j none).set i none = (wipe (σ.set i none) is).set j none
    by_cases e : i = j
    · subst e
      rw [List.set_set]
      rw [← ih, List.set_set]
    · rw [List.set_comm _ _ (fun z => e z.symm), ih]
theorem wipeN_ok : ∀ (is : List Nat) {env : Env} {σ : L2.St}, REnv K w0 w env σ → REnv K w0 w (wipeN env is) (wipe σ is)
  | [], _, _, h => h
  | i :: is, env, σ, h => by
    have z := wipeN_ok is (h.no (o := none) i)
    show REnv K w0 w (wipeN (env.set i .no) is) ((wipe σ is).set i none)
    rw [wipe_set]
    exact z
theorem wipe_put {σ : L2.St} {o : Option V} {i : Nat} : ∀ {is : List Nat}, i ∈ is → wipe (σ.set i o) is = wipe σ is := by
  intro is hi
  induction is with
  | nil => cases hi
  | cons j is ih =>
    show (wipe (σ.set i o) is).set j none = (wipe σ is).set j none
    by_cases e : i = j
    · subst e
      have key : ∀ (is : List Nat) (σ : L2.St), (wipe (σ.set i o) is).set i none = (wipe σ is).set i none := by
        intro is
        induction is with
        | nil => intro σ; show (σ.set i o).set i none = σ.set i none; rw [List.set_set]
        | cons m is ih =>
          intro σ
          show ((wipe (σ.set i o) is).set m none).set i none = ((wipe σ is).set m none).set i none
          by_cases e : m = i
          · subst e
            rw [List.set_set, List.set_set]
            exact ih σ
          · rw [List.set_comm _ _ e, List.set_comm (l := wipe σ is) _ _ e, ih σ]
      exact key is σ
    · rcases List.mem_cons.mp hi with z | z
      · exact (e z).elim
      · rw [ih z]
theorem gNames_ok {all : List Nat} {Q : L2.St → Hp → Prop} : ∀ {is : List Nat} {l : List AV} {vs : List V} {env : Env} {σ : L2.St}, is.length = l.length → RWs K w l vs → (∀ i ∈ is, i ∈ all) → REnv K w0 w env σ →
    (∀ σ', REnv K w0 w ((is.zip l).foldl (fun e p => e.set p.1 (.v p.2)) env) σ' → wipe σ' all = wipe σ all → Q σ' w.H) → gNames is vs σ w.H Q
  | [], [], _, env, σ, _, .nil, _, h, q => ⟨rfl, q σ h rfl⟩
  | [], _ :: _, _, _, _, e, _, _, _, _ => by cases e
  | _ :: _, [], _, _, _, e, _, _, _, _ => by cases e
  | i :: is, a :: l, _, env, σ, e, .cons (v := v) (vs := vs) r t, hi, h, q => by
    refine ⟨v, vs, rfl, ?_⟩
    refine gNames_ok (Nat.succ.inj e) t (fun j hj => hi j (List.mem_cons_of_mem _ hj)) (h.set i r) fun σ' h' hw => q σ' h' ?_
    rw [hw]
    exact wipe_put (hi i List.mem_cons_self)
theorem gT_ok {t : Tg} {a : AV} {v : V} {env1 : Env} {Q : L2.St → Hp → Prop} (e : setT env t a = some env1) (h : REnv K w0 w env σ) (r : RW K w a v) (q : ∀ σ', REnv K w0 w env1 σ' → wipe σ' (slots t) = wipe σ (slots t) → Q σ' w.H) : gT K t v σ w.H Q := by
  cases t with
  | nm i =>
    cases e
    exact q _ (h.set i r) (wipe_put (List.mem_cons_self))
  | tp is =>
    cases a with
    | tup l =>
      have e : (if is.length = l.length then some ((is.zip l).foldl (fun e p => e.set p.1 (.v p.2)) env) else none) = some env1 := e
      split at e
      · rename_i c
        cases e
        cases r with
        | tup h1 h2 => exact ⟨_, _, rfl, h1, by rw [← h2.length]; exact c.symm, gNames_ok c h2 (fun _ hi => hi) h q⟩
      · cases e
    | _ => cases e
theorem wipeT_eq (t : Tg) : wipeT env t = wipeN env (slots t) := by cases t <;> rfl
end
/-! ### comprehensions -/
section
variable {F : Type} {G : Glo F} {C : Cf F} {cs : List (Str × Const)} {N : List Str} {k : Nat}
theorem XOk.blk {X : Cx} {XW : XK} {fnB : Bool} (xo : XOk G C cs N k X XW fnB) (s : Shared) (H : Hp) (scope : Scope) (cenv : PySem.Env) (fp : List Addr) : XOk G C cs N k (X.blk s H scope cenv fp) (fun _ _ _ => False) false where
  hN := xo.hN
  hc := xo.hc
  nd := xo.nd
  room := xo.room
  tk := takes0
  fns := xo.fns
  mgf := xo.mgf
  kp := xo.kp
  bd := xo.bd
  len := xo.len
  blt := xo.blt
  cst := xo.cst
  fnb := fun z => by cases z
/-- a comprehension's tests -/
def tEvc (G : Glo F) (C : Cf F) (K : PySem.W.Frag) (XW : XK) (c : OE F) : TT := fun σ H Q => ∃ w w0 env, w.H = H ∧ WOK K w ∧ REnv K w0 w env σ ∧ Sat K w (evc C env c w.st) (fun b w' => Q b w'.H) (xq G XW)
def GoodC (G : Glo F) (C : Cf F) (cs : List (Str × Const)) (N : List Str) (k : Nat) (c : OE F) : Prop := ∀ (sc : Scope) (ifs : List Expr) (X : Cx) (XW : XK) (fnB : Bool), okC G.nm cs N sc c ifs = true → XOk G C cs N k X XW fnB → X.env.scope = sc → PTs X ifs (tEvc G C X.K XW c)
theorem PTs.weak {X : Cx} {e : List Expr} {t t' : TT} (h : PTs X e t) (k : ∀ σ H Q, t' σ H Q → t σ H Q) : PTs X e t' := ⟨fun pins s σ H Q I q => h.run pins s σ H Q I (k σ H Q q)⟩
theorem good_cnone : GoodC G C cs N k .none := by
  intro sc ifs X XW fnB h xo hsc
  match ifs, h with
  | [], h =>
    refine PTs.weak pts_nil fun σ H Q q => ?_
    obtain ⟨w, w0, env, rfl, ok, en, q⟩ := q
    exact q.here rfl ok
  | _ :: _, h => cases (show false = true from h)
theorem good_csome {e : E F} (he : GoodT G C cs N k e) : GoodC G C cs N k (.some e) := by
  intro sc ifs X XW fnB h xo hsc
  match ifs, h with
  | [x], h =>
    obtain ⟨h1, h2⟩ := and_t (show (tst e && okE G.nm cs N sc e x) = true from h)
    refine PTs.weak (pts_one (he h1 sc x X XW fnB h2 xo hsc)) fun σ H Q q => ?_
    obtain ⟨w, w0, env, rfl, ok, en, q⟩ := q
    refine ⟨w, w0, env, rfl, ok, en, q.bind.imp fun r w1 ⟨e1, ok1, h1⟩ => ?_⟩
    obtain ⟨b, hb, h2⟩ := h1.of_ rfl ok1
    exact ⟨b, bl_of hb, h2⟩
  | [], h => cases (show false = true from h)
  | _ :: _ :: _, h => cases (show false = true from h)
theorem own_map (N : List Str) (t : Tg) : (ownOf N t).map (·.2) = slots t := by
  unfold ownOf
  rw [List.map_map]
  exact List.map_id _
/-- no exception: the answer, or stuck -/
theorem noX_sat {K : PySem.W.Frag} {α : Type} {w : Wd} {r : Rs α} {P : α → Wd → Prop} {Z : Str → List AV → Wd → Prop} (h : Sat K w (noX r) P Z) (Z' : Str → List AV → Wd → Prop) : Sat K w r P Z' := by
  cases r with
  | ok a s => exact h
  | exc c fs s => exact (h : False).elim
  | stuck => exact h
theorem noX_bind {K : PySem.W.Frag} {α β : Type} {w : Wd} {r : Rs α} {f : α → Sto → Rs β} {P : β → Wd → Prop} {Z : Str → List AV → Wd → Prop} (h : Sat K w ((noX r).bind f) P Z) (Z' : Str → List AV → Wd → Prop) :
    Sat K w r (fun a w' => Ext w w' ∧ WOK K w' ∧ ∀ w2, Ext w w2 → w2.st = w'.st → Sat K w2 (f a w2.st) P Z) Z' := noX_sat (Sat.bindF h) Z'
end
/-! ### a list that a name owns is written -/
section
variable {K : PySem.W.Frag} {w w0 w2 : Wd} {D : Addr} {vs us : List V}
/-- the world behind it -/
def Wd.own (w : Wd) (D : Addr) (us : List V) : Wd := ⟨w.ro, w.fb, w.st, upd w.H D (.lst us)⟩
theorem own_ra (hD : w.H D = some (.lst vs)) (hf : D ∈ w.fb) {x : AV} {v : V} (h : RW K w x v) : RW K (w.own D us) x v := by
  refine RA.mono (fun a xs q => ?_) (fun a xs q n => ?_) (fun a xs q => ?_) (fun _ _ q => q) x v h
  · rcases q with (q | ⟨o, q⟩) | q
    · refine .inl (.inl ?_)
      show upd w.H D (.lst us) a = _
      rw [upd_ne (ne_of q hD (by intro z; cases z))]; exact q
    · refine .inl (.inr ⟨o, ?_⟩)
      show upd w.H D (.lst us) a = _
      rw [upd_ne (ne_of q hD (by intro z; cases z))]; exact q
    · exact .inr q
  · refine ⟨?_, n⟩
    show upd w.H D (.lst us) a = _
    rw [upd_ne (by rintro rfl; exact n hf)]; exact q
  · rcases q with ⟨o, q⟩ | q
    · refine .inl ⟨o, ?_⟩
      show upd w.H D (.lst us) a = _
      rw [upd_ne (ne_of q hD (by intro z; cases z))]; exact q
    · exact .inr q
theorem own_ras (hD : w.H D = some (.lst vs)) (hf : D ∈ w.fb) : ∀ {l : List AV} {xs : List V}, RWs K w l xs → RWs K (w.own D us) l xs
  | _, _, .nil => .nil
  | _, _, .cons r t => .cons (own_ra hD hf r) (own_ras hD hf t)
theorem own_ok (ok : WOK K w) (hD : w.H D = some (.lst vs)) (hf : D ∈ w.fb) (hr : D ∉ w.ro) : WOK K (w.own D us) := by
  refine ⟨ok.sub, fun a ha => ?_, ok.nd, ok.len, fun n o a h1 h2 => ?_⟩
  · show upd w.H D (.lst us) a ≠ none
    by_cases e : a = D
    · subst e; rw [upd_same]; simp
    · rw [upd_ne e]; exact ok.dom a ha
  · have z := ok.obj n o a h1 h2
    have ne : a ≠ D := by rintro rfl; exact hr (List.mem_of_getElem? h2)
    cases o with
    | lst l =>
      obtain ⟨xs, z1, z2⟩ := z
      refine ⟨xs, ?_, own_ras hD hf z2⟩
      show upd w.H D (.lst us) a = _
      rw [upd_ne ne]; exact z1
theorem own_ext (e : Ext w2 w) (hD : w.H D = some (.lst vs)) (h2 : w2.H D = none) : Ext w2 (w.own D us) where
  ro := e.ro
  keep := fun b o h n => by
    show upd w.H D (.lst us) b = _
    rw [upd_ne (ne_of_none h h2)]; exact e.keep b o h n
  tup := fun b xs h => by
    show upd w.H D (.lst us) b = _
    rw [upd_ne (ne_of_none h h2)]; exact e.tup b xs h
  frz := fun b o u h => by
    show upd w.H D (.lst us) b = _
    rw [upd_ne (ne_of_none h h2)]; exact e.frz b o u h
  dom := fun b h => by
    have h : upd w.H D (.lst us) b = none := h
    by_cases q : b = D
    · subst q; rw [upd_same] at h; cases h
    · rw [upd_ne q] at h; exact e.dom b h
  fb := e.fb
  new := e.new
end
theorem Rs.bind_assoc {α β γ : Type} (r : Rs α) (f : α → Sto → Rs β) (g : β → Sto → Rs γ) : (r.bind f).bind g = r.bind fun a s => (f a s).bind g := by cases r <;> rfl
theorem wipe_wipe {σ : L2.St} (is : List Nat) : wipe (wipe σ is) is = wipe σ is := by
  have key : ∀ (js : List Nat) (σ : L2.St), (∀ j ∈ js, j ∈ is) → wipe (wipe σ js) is = wipe σ is := by
    intro js
    induction js with
    | nil => intro σ _; rfl
    | cons j js ih =>
      intro σ h
      show wipe ((wipe σ js).set j none) is = _
      rw [wipe_put (h j List.mem_cons_self)]
      exact ih σ fun k hk => h k (List.mem_cons_of_mem _ hk)
  exact key is σ fun _ h => h
section
variable {F : Type} {G : Glo F} {C : Cf F} {cs : List (Str × Const)} {N : List Str} {k : Nat}
theorem okI_iter {nm : F → Str} {sc : Scope} {e : It F} {y : Expr} (h : okI nm cs N sc e y = true) (env : PySem.Env) (x : Value) : foldedSetIterable y env x = pure x := by
  cases y with
  | Set v p => cases e with
    | seq e => exact okE_iter (e := e) h env x
    | _ => cases (show false = true from h)
  | _ => rfl
/-- what a comprehension's rule asks -/
theorem lc_read {X : Cx} {XW : XK} {t : Tg} {it : It F} {c : OE F} {e : E F} : ∀ σ H Q, tEv G C X.K XW (.lc t it c e) σ H Q → tLc (tEvi G C X.K XW it) (gT X.K t) (tEvc G C X.K (fun _ _ _ => False) c) (tEv G C X.K (fun _ _ _ => False) e) ((ownOf N t).map (·.2)) σ H Q := fun σ H Q q => by
  obtain ⟨w, w0, env, rfl, ok, en, q⟩ := q
  refine ⟨w, w0, env, rfl, ok, en, q.bindF.imp fun l w1 ⟨e1, ok1, h1⟩ w2 ks J eS e2 ok2 kv wa => ?_⟩
  have q2 := h1 w2 e2 eS
  clear h1
  intro D hD
  obtain ⟨Gp, Y, wk, wG, wI⟩ := wa
  rw [own_map]
  generalize hf : (fun (x : AV) (s : Sto) => (Rs.of (setT (wipeT env t) t x) s).bind fun env1 s => noX ((evc C env1 c s).bind fun k s => match k with
    | false => Rs.ok none s
    | true => (ev C env1 e s).bind fun r s => (Rs.of (toA (fz r)) s).bind fun a s => Rs.ok (some a) s)) = f at q2
  refine lc_it wk (fun i H => ∃ wi acc vs, wi.H = H ∧ WOK X.K wi ∧ Ext w2 wi ∧ H D = some (.lst vs) ∧ RWs X.K wi acc vs ∧ D ∈ wi.fb ∧ D ∉ wi.ro ∧
    Sat X.K w2 ((lcL f acc (l.drop i) wi.st).bind fun l s => Rs.ok (R.tl l) s) (fun r w' => ∀ v, RR X.K w w' r v → Q v w'.H) (xq G XW)) ?_ ?_ ?_ ?_
  · exact ⟨⟨w2.ro, D :: w2.fb, w2.st, upd w2.H D (.lst [])⟩, [], [], rfl, ok2.laidF hD, Ext.laidF hD, upd_same, .nil, List.mem_cons_self, noin ok2 hD, q2⟩
  · rintro i H hi ⟨wi, acc, vs, rfl, ok3, e3, _⟩
    exact wG wi ok3 (kv.ext ok2 e3)
  · rintro i x H H' hi ⟨wi, acc, vs, rfl, ok3, e3, hDv, ra, hDf, hDr, sat⟩ y
    obtain ⟨a, w3, ha, rfl, eS3, e4, ok4, rx⟩ := wI i x H' wi hi ok3 (kv.ext ok2 e3) y
    have hdrop : l.drop i = a :: l.drop (i + 1) := by
      obtain ⟨hlt, hget⟩ := List.getElem?_eq_some_iff.mp ha
      rw [List.drop_eq_getElem_cons hlt, hget]
    rw [hdrop] at sat
    replace sat : Sat X.K w2 (((f a wi.st).bind fun o s => match o with
      | some b => if acc.length < sizeLine then lcL f (acc ++ [b]) (l.drop (i + 1)) s else .stuck
      | none => lcL f acc (l.drop (i + 1)) s).bind fun l s => Rs.ok (R.tl l) s) _ _ := sat
    have hfa : f a wi.st = (Rs.of (setT (wipeT env t) t a) wi.st).bind fun env1 s => noX ((evc C env1 c s).bind fun k s => match k with
      | false => Rs.ok none s
      | true => (ev C env1 e s).bind fun r s => (Rs.of (toA (fz r)) s).bind fun a s => Rs.ok (some a) s) := by rw [← hf]
    rw [Rs.bind_assoc, hfa] at sat
    replace sat : Sat X.K w2 (((Rs.of (setT (wipeT env t) t a) wi.st).bind fun env1 s => noX ((evc C env1 c s).bind fun k s => match k with
      | false => Rs.ok none s
      | true => (ev C env1 e s).bind fun r s => (Rs.of (toA (fz r)) s).bind fun a s => Rs.ok (some a) s)).bind _) _ _ := sat
    rw [Rs.bind_assoc] at sat
    cases hs : setT (wipeT env t) t a with
    | none => rw [hs] at sat; exact (sat : False).elim
    | some env1 =>
      rw [hs] at sat
      have e24 := e3.trans e4
      rw [← eS3] at sat
      have en3 : REnv X.K w0 w3 (wipeT env t) (wipe σ (slots t)) := by
        rw [wipeT_eq]
        exact wipeN_ok _ (en.ext ok (e2.trans e24))
      refine gT_ok hs en3 rx fun σ' en4 hw => ⟨by rw [hw, wipe_wipe], ?_⟩
      have s1 := noX_sat (Sat.bindB e24 sat) (xq G fun _ _ _ => False)
      refine ⟨w3, w0, env1, rfl, ok4, en4, s1.bind.imp fun b w4 ⟨e5, ok5, s2⟩ => ?_⟩
      have hD4 : w4.H D = some (.lst vs) := e5.keep _ _ (e4.keep _ _ hDv hDr) (e4.noro (by rw [hDv]; simp) hDr)
      cases b with
      | false =>
        refine iteF ?_
        obtain ⟨_, _, s3⟩ := s2.here rfl ok5
        exact ⟨w4, acc, vs, rfl, ok5, e24.trans e5, hD4, (ra.ext ok3 e4).ext ok4 e5, e5.fb _ (e4.fb _ hDf), e5.noro (by rw [e4.keep _ _ hDv hDr]; simp) (e4.noro (by rw [hDv]; simp) hDr), s3⟩
      | true =>
        refine iteT ?_
        refine ⟨w4, w0, env1, rfl, ok5, en4.ext ok4 e5, s2.bindF.imp fun r w5 ⟨e6, ok6, s3⟩ v rv => ?_⟩
        obtain ⟨w6, eH6, eS6, e7, ok7, rv7⟩ := freeze e6 ok6 rv ok5.dom
        have s4 := s3 w6 e7 eS6
        cases hb : toA (fz r) with
        | none => rw [hb] at s4; exact (s4 : False).elim
        | some b =>
          rw [hb] at s4
          obtain ⟨_, _, s5⟩ := s4 w6 rfl (Ext.refl w6) ok7
          replace s5 : Sat X.K w2 ((if acc.length < sizeLine then lcL f (acc ++ [b]) (l.drop (i + 1)) w6.st else Rs.stuck).bind fun l s => Rs.ok (R.tl l) s) (fun r w' => ∀ v, RR X.K w w' r v → Q v w'.H) (xq G XW) := s5
          split at s5
          · rename_i hlen
            have e36 := e5.trans e7
            have hD6 : w6.H D = some (.lst vs) := e7.keep _ _ hD4 (e5.noro (by rw [e4.keep _ _ hDv hDr]; simp) (e4.noro (by rw [hDv]; simp) hDr))
            have hf6 : D ∈ w6.fb := e36.fb _ (e4.fb _ hDf)
            have hr6 : D ∉ w6.ro := e36.noro (by rw [e4.keep _ _ hDv hDr]; simp) (e4.noro (by rw [hDv]; simp) hDr)
            have ra6 := (ra.ext ok3 e4).ext ok4 e36
            rw [← eH6]
            exact ⟨vs, hD6, by rw [← ra.length]; exact hlen, w6.own D (vs ++ [v]), acc ++ [b], vs ++ [v], rfl, own_ok ok7 hD6 hf6 hr6, own_ext (e24.trans e36) hD6 hD, upd_same, (own_ras hD6 hf6 ra6).append (.cons (own_ra hD6 hf6 (toA_ok rv7 hb)) .nil), hf6, hr6, s5⟩
          · exact (s5 : False).elim
  · rintro H ⟨wi, acc, vs, rfl, ok3, e3, hDv, ra, hDf, hDr, sat⟩
    rw [List.drop_length] at sat
    exact sat wi rfl e3 ok3 _ ⟨D, vs, rfl, hDv, ra, hDf, hDr, e2.dom _ hD⟩

theorem lc_parts {X : Cx} {XW : XK} {fnB : Bool} (t : Tg) {it : It F} {c : OE F} {e : E F} (hi : GoodI G C cs N k it) (hcc : GoodC G C cs N k c) (he : GoodE G C cs N k e) {elt : Expr} {gens : List Comprehension} {scope : Scope} {p : Pos} (h : okE G.nm cs N X.env.scope (.lc t it c e) (.ListComp elt gens scope p) = true) (xo : XOk G C cs N k X XW fnB) :
    ∃ tg iter ifs, gens = [⟨tg, iter, ifs, 0⟩] ∧ PI X tg iter (tEvi G C X.K XW it) ∧ BlkOk X.N X.env.scope scope (ownOf N t) ∧
      (∀ (s : Shared) (H : Hp) (Cc : Addr) (cl : List (Str × Addr)) (fp : List Addr), PG (X.blk s H scope (compEnvC scope cl Cc X.env) fp) tg (gT X.K t)) ∧
      (∀ (s : Shared) (H : Hp) (Cc : Addr) (cl : List (Str × Addr)) (fp : List Addr), PTs (X.blk s H scope (compEnvC scope cl Cc X.env) fp) ifs (tEvc G C X.K (fun _ _ _ => False) c)) ∧
      (∀ (s : Shared) (H : Hp) (Cc : Addr) (cl : List (Str × Addr)) (fp : List Addr), PE (X.blk s H scope (compEnvC scope cl Cc X.env) fp) elt (tEv G C X.K (fun _ _ _ => False) e)) ∧
      ∀ x, foldedSetIterable iter X.env x = pure x := by
  match gens, h with
  | [⟨tg, iter, ifs, asy⟩], h =>
    replace h : (decide (asy = 0) && okI G.nm cs N X.env.scope it iter && blkC N X.env.scope scope (ownOf N t) && tgB N false (relS scope X.env.scope) t tg && okC G.nm cs N (relS scope X.env.scope) c ifs && okE G.nm cs N (relS scope X.env.scope) e elt && itTg it tg) = true := h
    obtain ⟨h, h7⟩ := and_t h
    obtain ⟨h, h6⟩ := and_t h
    obtain ⟨h, h5⟩ := and_t h
    obtain ⟨h, h4⟩ := and_t h
    obtain ⟨h, h3⟩ := and_t h
    obtain ⟨h1, h2⟩ := and_t h
    have h1 := of_decide_eq_true h1
    subst h1
    have hb : BlkOk X.N X.env.scope scope (ownOf N t) := by rw [xo.hN]; exact blkOk_by h3
    exact ⟨tg, iter, ifs, rfl, hi _ tg iter X XW fnB h2 h7 xo rfl, hb, fun s H Cc cl fp => tg_pg (xo.blk s H scope _ fp) h4, fun s H Cc cl fp => hcc _ ifs _ _ false h5 (xo.blk s H scope _ fp) rfl, fun s H Cc cl fp => he _ elt _ _ false h6 (xo.blk s H scope _ fp) rfl, fun x => okI_iter h2 X.env x⟩
  | [], h => cases (show false = true from h)
  | ⟨_, _, _, _⟩ :: _ :: _, h => cases (show false = true from h)
theorem good_lc (t : Tg) {it : It F} {c : OE F} {e : E F} (hi : GoodI G C cs N k it) (hcc : GoodC G C cs N k c) (he : GoodE G C cs N k e) : GoodE G C cs N k (.lc t it c e) := by
  intro sc ast X XW fnB h xo hsc
  cases ast with
  | ListComp elt gens scope p =>
    subst hsc
    obtain ⟨tg, iter, ifs, rfl, h1, h2, h3, h4, h5, h6⟩ := lc_parts t hi hcc he h xo
    exact PE.weak (pe_lc (own := ownOf N t) xo.hc xo.nd h1 h2 h3 h4 h5 h6) lc_read
  | _ => cases (show false = true from h)
end
end EV

set_option maxRecDepth 100000
set_option maxHeartbeats 2000000
namespace EV
open PySem PySem.Spec PyProof.Rows L2 RT RZ
section
variable {F : Type} {G : Glo F} {C : Cf F} {cs : List (Str × Const)} {N : List Str} {k : Nat}
/-- a test whose answer is its value's truth -/
theorem good_plain {e : E F} (he : GoodE G C cs N k e) (hp : ∀ (sc : Scope) (ast : Expr), okE G.nm cs N sc e ast = true → ∀ (env : PySem.Env) (whole : Sem Value), isTrue ast env whole = (do let v ← whole; standAt ast.pos; holding [v] (truthy v))) : GoodT G C cs N k e :=
  fun _ sc ast X XW fnB h xo hsc => pt_of (he sc ast X XW fnB h xo hsc) (hp sc ast h X.env)
theorem both {e : E F} (he : GoodE G C cs N k e) (hp : ∀ (sc : Scope) (ast : Expr), okE G.nm cs N sc e ast = true → ∀ (env : PySem.Env) (whole : Sem Value), isTrue ast env whole = (do let v ← whole; standAt ast.pos; holding [v] (truthy v))) : GoodE G C cs N k e ∧ GoodT G C cs N k e :=
  ⟨he, good_plain he hp⟩
mutual
theorem sndE (G : Glo F) (C : Cf F) (cs : List (Str × Const)) (N : List Str) (k : Nat) : ∀ e : E F, GoodE G C cs N k e ∧ GoodT G C cs N k e
  | .var i => both (good_var i) fun sc ast h env wh => by cases ast <;> first | rfl | (cases (show false = true from h))
  | .cst c => both (good_cst c) fun sc ast h env wh => by cases ast <;> first | rfl | (cases (show false = true from h))
  | .glb x c => both (good_glb x c) fun sc ast h env wh => by cases ast <;> first | rfl | (cases (show false = true from h))
  | .tup es => both (good_tup (sndEs G C cs N k es).1) fun sc ast h env wh => by cases ast <;> first | rfl | (cases (show false = true from h))
  | .lst es => both (good_lst (sndEs G C cs N k es).1) fun sc ast h env wh => by cases ast <;> first | rfl | (cases (show false = true from h))
  | .bin o a b => both (good_bin o (sndE G C cs N k a).1 (sndE G C cs N k b).1) fun sc ast h env wh => by cases ast <;> first | rfl | (cases (show false = true from h))
  | .cmp o a b => good_cmp o (sndE G C cs N k a).1 (sndE G C cs N k b).1
  | .ch2 o p a b c => good_ch2 o p (sndE G C cs N k a).1 (sndE G C cs N k b).1 (sndE G C cs N k c).1
  | .ch3 o p q a b c d => good_ch3 o p q (sndE G C cs N k a).1 (sndE G C cs N k b).1 (sndE G C cs N k c).1 (sndE G C cs N k d).1
  | .and .nil => good_and0
  | .and (.cons e es) => good_and ((sndEs G C cs N k (.cons e es)).2.1 e es rfl)
  | .or .nil => good_or0
  | .or (.cons e es) => good_or ((sndEs G C cs N k (.cons e es)).2.2 e es rfl)
  | .not a => good_not (sndE G C cs N k a).1 (sndE G C cs N k a).2
  | .ife c a b => ⟨good_ife (sndE G C cs N k c).2 (sndE G C cs N k a).1 (sndE G C cs N k b).1, fun t => by cases (show false = true from t)⟩
  | .sub a i => both (good_sub (sndE G C cs N k a).1 (sndE G C cs N k i).1) fun sc ast h env wh => by cases ast <;> first | rfl | (cases (show false = true from h))
  | .slc a lo hi => both (good_slc (sndE G C cs N k a).1 (sndO G C cs N k lo).1 (sndO G C cs N k hi).1) fun sc ast h env wh => by cases ast <;> first | rfl | (cases (show false = true from h))
  | .isi a t => both (good_isi t (sndE G C cs N k a).1) fun sc ast h env wh => by cases ast <;> first | rfl | (cases (show false = true from h))
  | .isis a ts => both (good_isis ts (sndE G C cs N k a).1) fun sc ast h env wh => by cases ast <;> first | rfl | (cases (show false = true from h))
  | .bi f es => both (good_bi f (sndEs G C cs N k es).1) fun sc ast h env wh => by cases ast <;> first | rfl | (cases (show false = true from h))
  | .call f es => both (good_call f (sndEs G C cs N k es).1) fun sc ast h env wh => by cases ast <;> first | rfl | (cases (show false = true from h))
  | .lc t it c e => both (good_lc t (sndI G C cs N k it) (sndO G C cs N k c).2 (sndE G C cs N k e).1) fun sc ast h env wh => by cases ast <;> first | rfl | (cases (show false = true from h))
theorem sndEs (G : Glo F) (C : Cf F) (cs : List (Str × Const)) (N : List Str) (k : Nat) : ∀ es : Es F, GoodEs G C cs N k es ∧ (∀ e es', es = .cons e es' → GoodAnd G C cs N k es) ∧ (∀ e es', es = .cons e es' → GoodOr G C cs N k es)
  | .nil => ⟨good_esnil, (fun _ _ z => nomatch z), (fun _ _ z => nomatch z)⟩
  | .cons e .nil => ⟨good_escons (sndE G C cs N k e).1 good_esnil, (fun _ _ _ => good_and_one (sndE G C cs N k e).1 (sndE G C cs N k e).2), fun _ _ _ => good_or_one (sndE G C cs N k e).1 (sndE G C cs N k e).2⟩
  | .cons e (.cons b es) =>
    have ih := sndEs G C cs N k (.cons b es)
    ⟨good_escons (sndE G C cs N k e).1 ih.1, (fun _ _ _ => good_and_cons (sndE G C cs N k e).1 (sndE G C cs N k e).2 (ih.2.1 b es rfl)), fun _ _ _ => good_or_cons (sndE G C cs N k e).1 (sndE G C cs N k e).2 (ih.2.2 b es rfl)⟩
theorem sndO (G : Glo F) (C : Cf F) (cs : List (Str × Const)) (N : List Str) (k : Nat) : ∀ o : OE F, GoodO G C cs N k o ∧ GoodC G C cs N k o
  | .none => ⟨good_onone, good_cnone⟩
  | .some e => ⟨good_osome (sndE G C cs N k e).1, good_csome (sndE G C cs N k e).2⟩
theorem sndI (G : Glo F) (C : Cf F) (cs : List (Str × Const)) (N : List Str) (k : Nat) : ∀ it : It F, GoodI G C cs N k it
  | .seq e => good_seq (sndE G C cs N k e).1
  | .rng n es => good_rng (sndEs G C cs N k es).1
  | .rev e => good_rev (sndE G C cs N k e).1
  | .zip es => good_zip (sndEs G C cs N k es).1
  | .enum es => good_enum (sndEs G C cs N k es).1
end
end
end EV

set_option maxRecDepth 100000
set_option maxHeartbeats 2000000
namespace EV
open PySem PySem.Spec PyProof.Rows L2 RT RZ
/-! ### statements -/
def SatX (K : PySem.W.Frag) {α : Type} (w0 : Wd) (r : Rs α) (P : α → Sto → Prop) (Z : Str → List AV → Wd → Prop) : Prop := match r with
  | .ok a s => P a s
  | .exc c fs s => ∀ w', w'.st = s → Ext w0 w' → WOK K w' → Z c fs w'
  | .stuck => False
/-- where a def's body stands: w0 its entry -/
structure FI (K : PySem.W.Frag) (w0 w : Wd) (env : Env) (σ : L2.St) (ks : List (AV × V)) : Prop where
  d0 : ∀ a ∈ w0.fb, w0.H a ≠ none
  ex : Ext w0 w
  ok : WOK K w
  en : REnv K w0 w env σ
  kv : KV K w ks
section
variable {K : PySem.W.Frag} {α β : Type} {w w0 w1 w2 : Wd} {env : Env} {σ : L2.St} {ks : List (AV × V)} {P : α → Sto → Prop} {Z : Str → List AV → Wd → Prop}
theorem SatX.bind {r : Rs α} {f : α → Sto → Rs β} {Q : β → Sto → Prop} (h : SatX K w0 (r.bind f) Q Z) : SatX K w0 r (fun a s => SatX K w0 (f a s) Q Z) Z := by
  cases r with
  | ok a s => exact h
  | exc c fs s => exact h
  | stuck => exact h
theorem SatX.sat {r : Rs α} (h : SatX K w0 r P Z) (e : Ext w0 w) : Sat K w r (fun a w' => Ext w w' ∧ WOK K w' ∧ P a w'.st) Z := by
  cases r with
  | ok a s => exact fun w' h1 h2 h3 => ⟨h2, h3, by rw [h1]; exact h⟩
  | exc c fs s => exact fun w' h1 h2 h3 => h w' h1 (e.trans h2) h3
  | stuck => exact h
theorem SatX.of_ {o : Option α} {s : Sto} (h : SatX K w0 (Rs.of o s) P Z) : ∃ a, o = some a ∧ P a s := by
  cases o with
  | none => exact (h : False).elim
  | some a => exact ⟨a, rfl, h⟩
theorem SatX.imp {r : Rs α} {P' : α → Sto → Prop} (h : SatX K w0 r P Z) (k : ∀ a s, P a s → P' a s) : SatX K w0 r P' Z := by
  cases r with
  | ok a s => exact k _ _ h
  | exc c fs s => exact h
  | stuck => exact h
theorem FI.step (f : FI K w0 w env σ ks) (e : Ext w w1) (ok : WOK K w1) : FI K w0 w1 env σ ks := ⟨f.d0, f.ex.trans e, ok, f.en.ext f.ok e, f.kv.ext f.ok e⟩
theorem FI.set {a : AV} {v : V} (i : Nat) (f : FI K w0 w env σ ks) (r : RW K w a v) : FI K w0 w (env.set i (.v a)) (σ.set i (some v)) ks := ⟨f.d0, f.ex, f.ok, f.en.set i r, f.kv⟩
/-- a name owns a new list -/
theorem FI.own {l : List AV} {vs : List V} {D : Addr} (i : Nat) (f : FI K w0 w env σ ks) (e : Ext w w1) (ok : WOK K w1) (h1 : w1.H D = some (.lst vs)) (h2 : RWs K w1 l vs) (h3 : D ∈ w1.fb) (h4 : D ∉ w1.ro) (h5 : w.H D = none) :
    FI K w0 w1 (env.set i (.own l)) (σ.set i (some (.ref D))) ks := by
  have g := f.step e ok
  refine ⟨g.d0, g.ex, ok, ?_, g.kv⟩
  have h0 : w0.H D = none := f.ex.dom _ h5
  refine ⟨by rw [List.length_set, List.length_set]; exact g.en.len, fun j b q => ?_, fun j m q => ?_, fun j1 j2 l1 m1 a q1 q2 s1 s2 => ?_⟩
  · by_cases z : i = j
    · subst z
      by_cases z : i < env.length
      · rw [List.getElem?_set_self z] at q; cases q
      · rw [List.getElem?_eq_none (by rw [List.length_set]; omega)] at q; cases q
    · rw [List.getElem?_set_ne z] at q
      obtain ⟨u, h1, h2⟩ := g.en.val j b q
      exact ⟨u, by rw [List.getElem?_set_ne z]; exact h1, h2⟩
  · by_cases z : i = j
    · subst z
      by_cases z : i < env.length
      · rw [List.getElem?_set_self z] at q
        cases q
        exact ⟨D, vs, List.getElem?_set_self (by rw [← g.en.len]; exact z), h1, h2, h3, h4, h0⟩
      · rw [List.getElem?_eq_none (by rw [List.length_set]; omega)] at q; cases q
    · rw [List.getElem?_set_ne z] at q ⊢
      exact g.en.own j m q
  · have at_ : ∀ (j : Nat) m, (env.set i (.own l))[j]? = some (Sl.own m) → i = j ∨ (i ≠ j ∧ env[j]? = some (Sl.own m)) := fun j m q => by
      by_cases z : i = j
      · exact .inl z
      · rw [List.getElem?_set_ne z] at q
        exact .inr ⟨z, q⟩
    -- an older owner stands elsewhere
    have old : ∀ (j : Nat) m, env[j]? = some (Sl.own m) → σ[j]? = some (some (.ref D)) → False := fun j m q s => by
      obtain ⟨b, us, z1, z2, _⟩ := f.en.own j m q
      rw [s] at z1
      cases z1
      rw [h5] at z2; cases z2
    have len_i : ∀ m, (env.set i (.own l))[i]? = some (Sl.own m) → i < σ.length := fun m q => by
      by_cases z : i < env.length
      · rw [← g.en.len]; exact z
      · rw [List.getElem?_eq_none (by rw [List.length_set]; omega)] at q; cases q
    rcases at_ j1 l1 q1 with z1 | ⟨n1, z1⟩
    · rcases at_ j2 m1 q2 with z2 | ⟨n2, z2⟩
      · rw [← z1, ← z2]
      · subst z1
        rw [List.getElem?_set_self (len_i _ q1)] at s1
        cases s1
        rw [List.getElem?_set_ne n2] at s2
        exact (old _ _ z2 s2).elim
    · rcases at_ j2 m1 q2 with z2 | ⟨n2, z2⟩
      · subst z2
        rw [List.getElem?_set_self (len_i _ q2)] at s2
        cases s2
        rw [List.getElem?_set_ne n1] at s1
        exact (old _ _ z1 s1).elim
      · rw [List.getElem?_set_ne n1] at s1
        rw [List.getElem?_set_ne n2] at s2
        exact g.en.inj j1 j2 l1 m1 a z1 z2 s1 s2
/-- an owned list is changed -/
theorem FI.put {l l' : List AV} {us : List V} {D : Addr} {i : Nat} (f : FI K w0 w env σ ks) (hi : env[i]? = some (.own l)) (hs : σ[i]? = some (some (.ref D))) (hr : RWs K w l' us) : FI K w0 (w.own D us) (env.set i (.own l')) σ ks := by
  obtain ⟨D', vs, z1, z2, z3, z4, z5, z6⟩ := f.en.own i l hi
  rw [hs] at z1
  cases z1
  refine ⟨f.d0, own_ext f.ex z2 z6, own_ok f.ok z2 z4 z5, ?_, fun p hp => own_ra z2 z4 (f.kv p hp)⟩
  have li : i < env.length := (List.getElem?_eq_some_iff.mp hi).1
  refine ⟨by rw [List.length_set]; exact f.en.len, fun j b q => ?_, fun j m q => ?_, fun j1 j2 l1 m1 a q1 q2 s1 s2 => ?_⟩
  · by_cases z : i = j
    · subst z
      rw [List.getElem?_set_self li] at q; cases q
    · rw [List.getElem?_set_ne z] at q
      obtain ⟨u, h1, h2⟩ := f.en.val j b q
      exact ⟨u, h1, own_ra z2 z4 h2⟩
  · by_cases z : i = j
    · subst z
      rw [List.getElem?_set_self li] at q
      cases q
      exact ⟨D, us, hs, upd_same, own_ras z2 z4 hr, z4, z5, z6⟩
    · rw [List.getElem?_set_ne z] at q
      obtain ⟨b, xs, h1, h2, h3, h4, h5, h6⟩ := f.en.own j m q
      refine ⟨b, xs, h1, ?_, own_ras z2 z4 h3, h4, h5, h6⟩
      have ne : b ≠ D := by
        rintro rfl
        exact z (f.en.inj i j l m b hi q hs h1)
      show upd w.H D (.lst us) b = _
      rw [upd_ne ne]; exact h2
  · have at_ : ∀ (j : Nat) m, (env.set i (.own l'))[j]? = some (Sl.own m) → ∃ m', env[j]? = some (Sl.own m') := fun j m q => by
      by_cases z : i = j
      · subst z; exact ⟨l, hi⟩
      · rw [List.getElem?_set_ne z] at q
        exact ⟨m, q⟩
    obtain ⟨m1', y1⟩ := at_ j1 l1 q1
    obtain ⟨m2', y2⟩ := at_ j2 m1 q2
    exact f.en.inj j1 j2 _ _ a y1 y2 s1 s2
/-- the world where D is a list like others -/
def Wd.fr (w : Wd) (D : Addr) : Wd := ⟨w.ro, w.fb.filter (· ≠ D), w.st, w.H⟩
theorem fr_ra {D : Addr} {x : AV} {v : V} (h : RW K w x v) : RW K (w.fr D) x v :=
  RA.mono (fun _ _ q => q) (fun b _ q n => ⟨q, fun z => n (List.mem_filter.mp z).1⟩) (fun _ _ q => q) (fun _ _ q => q) x v h
theorem fr_ras {D : Addr} {l : List AV} {vs : List V} (h : RWs K w l vs) : RWs K (w.fr D) l vs :=
  RAs.mono (fun _ _ q => q) (fun b _ q n => ⟨q, fun z => n (List.mem_filter.mp z).1⟩) (fun _ _ q => q) (fun _ _ q => q) l vs h
theorem fr_ok {D : Addr} (ok : WOK K w) (hr : D ∉ w.ro) : WOK K (w.fr D) := by
  refine ⟨fun b hb => List.mem_filter.mpr ⟨ok.sub b hb, ?_⟩, fun b hb => ok.dom b (List.mem_filter.mp hb).1, ok.nd, ok.len, fun n o b q1 q2 => ?_⟩
  · have : b ≠ D := by rintro rfl; exact hr hb
    simpa using this
  · have z := ok.obj n o b q1 q2
    cases o with
    | lst l' =>
      obtain ⟨vs', z1, z2⟩ := z
      exact ⟨vs', z1, fr_ras z2⟩
/-- an owned list is let be, by the name j (or its own) -/
theorem FI.free {l : List AV} {D : Addr} {i : Nat} (f : FI K w0 w env σ ks) (hi : env[i]? = some (.own l)) (hs : σ[i]? = some (some (.ref D))) : FI K w0 (w.fr D) (env.set i .no) σ ks ∧ RW K (w.fr D) (.lst l) (.ref D) := by
  obtain ⟨D', vs, z1, z2, z3, z4, z5, z6⟩ := f.en.own i l hi
  rw [hs] at z1
  cases z1
  refine ⟨⟨f.d0, ?_, fr_ok f.ok z5, ?_, fun p hp => fr_ra (f.kv p hp)⟩, .lst z2 (by show D ∉ w.fb.filter (· ≠ D); simp) (fr_ras z3)⟩
  · refine ⟨f.ex.ro, f.ex.keep, f.ex.tup, f.ex.frz, f.ex.dom, fun b hb => List.mem_filter.mpr ⟨f.ex.fb b hb, ?_⟩, fun b hb => f.ex.new b (List.mem_filter.mp hb).1⟩
    have : b ≠ D := by rintro rfl; exact f.d0 b hb z6
    simpa using this
  · have li : i < env.length := (List.getElem?_eq_some_iff.mp hi).1
    refine ⟨by rw [List.length_set]; exact f.en.len, fun j b q => ?_, fun j m q => ?_, fun j1 j2 l1 m1 a q1 q2 s1 s2 => ?_⟩
    · by_cases z : i = j
      · subst z
        rw [List.getElem?_set_self li] at q; cases q
      · rw [List.getElem?_set_ne z] at q
        obtain ⟨u, h1, h2⟩ := f.en.val j b q
        exact ⟨u, h1, fr_ra h2⟩
    · by_cases z : i = j
      · subst z
        rw [List.getElem?_set_self li] at q; cases q
      · rw [List.getElem?_set_ne z] at q
        obtain ⟨b, xs, h1, h2, h3, h4, h5, h6⟩ := f.en.own j m q
        refine ⟨b, xs, h1, h2, fr_ras h3, List.mem_filter.mpr ⟨h4, ?_⟩, h5, h6⟩
        have ne : b ≠ D := by
          rintro rfl
          exact z (f.en.inj i j l m b hi q hs h1)
        simpa using ne
    · have at_ : ∀ (j : Nat) m, (env.set i .no)[j]? = some (Sl.own m) → env[j]? = some (Sl.own m) := fun j m q => by
        by_cases z : i = j
        · subst z
          rw [List.getElem?_set_self li] at q; cases q
        · rw [List.getElem?_set_ne z] at q
          exact q
      exact f.en.inj j1 j2 _ _ a (at_ _ _ q1) (at_ _ _ q2) s1 s2
end
end EV

set_option maxRecDepth 100000
set_option maxHeartbeats 2000000
namespace EV
open PySem PySem.Spec PyProof.Rows L2 RT RZ
section
variable {K : PySem.W.Frag} {w w0 w1 : Wd} {env : Env} {σ : L2.St} {ks : List (AV × V)}
/-- a just made list comes into the store -/
theorem FI.alloc {l : List AV} {vs : List V} {D : Addr} (i : Nat) (f : FI K w0 w env σ ks) (e : Ext w w1) (ok : WOK K w1) (h1 : w1.H D = some (.lst vs)) (h2 : RWs K w1 l vs) (h3 : D ∈ w1.fb) (h4 : D ∉ w1.ro) (h5 : w.H D = none) :
    FI K w0 ⟨w1.ro ++ [D], w1.fb, ⟨w1.st.fl, w1.st.ob ++ [.lst l]⟩, w1.H⟩ (env.set i (.v (.loc w1.st.ob.length))) (σ.set i (some (.ref D))) ks := by
  have g := f.step e ok
  have ix : ∀ (n : Nat) (a : Addr), w1.ro[n]? = some a → (w1.ro ++ [D])[n]? = some a := fun n a q => by
    rw [List.getElem?_append_left (List.getElem?_eq_some_iff.mp q).1]; exact q
  have m1 : ∀ {x : AV} {v : V}, RW K w1 x v → RA K (w1.ro ++ [D]) w1.fb w1.H x v := fun {x v} h => RA.mono (fun _ _ q => q) (fun _ _ q n => ⟨q, n⟩) (fun _ _ q => q) ix x v h
  have m2 : ∀ {x : List AV} {v : List V}, RWs K w1 x v → RAs K (w1.ro ++ [D]) w1.fb w1.H x v := fun {x v} h => RAs.mono (fun _ _ q => q) (fun _ _ q n => ⟨q, n⟩) (fun _ _ q => q) ix x v h
  have h0 : w0.H D = none := f.ex.dom _ h5
  have base : FI K w0 ⟨w1.ro ++ [D], w1.fb, ⟨w1.st.fl, w1.st.ob ++ [.lst l]⟩, w1.H⟩ env σ ks := by
    refine ⟨f.d0, ⟨?_, g.ex.keep, g.ex.tup, g.ex.frz, g.ex.dom, g.ex.fb, g.ex.new⟩, ⟨fun a ha => ?_, ok.dom, ?_, ?_, fun n o a q1 q2 => ?_⟩, ⟨g.en.len, fun j b q => ?_, fun j m q => ?_, g.en.inj⟩, fun p hp => m1 (g.kv p hp)⟩
    · obtain ⟨r, e1, e2⟩ := g.ex.ro
      refine ⟨r ++ [D], by show w1.ro ++ [D] = _; rw [e1, List.append_assoc], fun a ha => ?_⟩
      rcases List.mem_append.mp ha with q | q
      · exact e2 a q
      · have : a = D := by simpa using q
        subst this; exact h0
    · rcases List.mem_append.mp ha with q | q
      · exact ok.sub a q
      · have : a = D := by simpa using q
        subst this; exact h3
    · refine List.nodup_append.mpr ⟨ok.nd, by simp, fun a ha b hb z => ?_⟩
      have : b = D := by simpa using hb
      subst this; subst z; exact h4 ha
    · show (w1.ro ++ [D]).length = (w1.st.ob ++ [Ob.lst l]).length
      rw [List.length_append, List.length_append, ok.len]
      rfl
    · have q1 : (w1.st.ob ++ [Ob.lst l])[n]? = some o := q1
      have q2 : (w1.ro ++ [D])[n]? = some a := q2
      by_cases lt : n < w1.st.ob.length
      · rw [List.getElem?_append_left lt] at q1
        rw [List.getElem?_append_left (by rw [ok.len]; exact lt)] at q2
        have z := ok.obj n o a q1 q2
        cases o with
        | lst l' =>
          obtain ⟨vs', z1, z2⟩ := z
          exact ⟨vs', z1, m2 z2⟩
      · have en : n = w1.st.ob.length := by
          have := (List.getElem?_eq_some_iff.mp q1).1
          simp at this
          omega
        subst en
        rw [List.getElem?_append_right (Nat.le_refl _), Nat.sub_self] at q1
        rw [← ok.len, List.getElem?_append_right (Nat.le_refl _), Nat.sub_self] at q2
        cases q1
        cases q2
        exact ⟨vs, h1, m2 h2⟩
    · obtain ⟨u, z1, z2⟩ := g.en.val j b q
      exact ⟨u, z1, m1 z2⟩
    · obtain ⟨b, xs, z1, z2, z3, z4, z5, z6⟩ := g.en.own j m q
      refine ⟨b, xs, z1, z2, m2 z3, z4, fun hb => ?_, z6⟩
      rcases List.mem_append.mp hb with y | y
      · exact z5 y
      · have : b = D := by simpa using y
        subst this
        obtain ⟨b', xs', y1, y2, _⟩ := f.en.own j m q
        rw [z1] at y1; cases y1
        rw [h5] at y2; cases y2
  refine base.set i (.loc ?_)
  show (w1.ro ++ [D])[w1.st.ob.length]? = some D
  rw [← ok.len, List.getElem?_append_right (Nat.le_refl _), Nat.sub_self]
  rfl
/-- an object of the store is written -/
theorem FI.store {l l' : List AV} {us vs : List V} {D : Addr} {n : Nat} (f : FI K w0 w env σ ks) (hn : w.st.ob[n]? = some (.lst l)) (hr : w.ro[n]? = some D) (hD : w.H D = some (.lst vs)) (h2 : RWs K w l' us) :
    FI K w0 ⟨w.ro, w.fb, ⟨w.st.fl, w.st.ob.set n (.lst l')⟩, upd w.H D (.lst us)⟩ env σ ks := by
  have mem : D ∈ w.ro := List.mem_of_getElem? hr
  have hf : D ∈ w.fb := f.ok.sub D mem
  have away : ∀ b, b ∉ w0.ro → w0.H b ≠ none → b ≠ D := fun b h1 h2 z => by
    subst z
    obtain ⟨r, e1, e2⟩ := f.ex.ro
    rw [e1] at mem
    rcases List.mem_append.mp mem with q | q
    · exact h1 q
    · exact h2 (e2 b q)
  have m1 : ∀ {x : AV} {v : V}, RW K w x v → RA K w.ro w.fb (upd w.H D (.lst us)) x v := fun {x v} h => own_ra hD hf h
  have m2 : ∀ {x : List AV} {v : List V}, RWs K w x v → RAs K w.ro w.fb (upd w.H D (.lst us)) x v := fun {x v} h => own_ras hD hf h
  refine ⟨f.d0, ⟨f.ex.ro, fun b o h1 h2 => ?_, fun b xs h => ?_, fun b o u h => ?_, fun b h => ?_, f.ex.fb, f.ex.new⟩, ⟨f.ok.sub, fun a ha => ?_, f.ok.nd, ?_, fun m o a q1 q2 => ?_⟩, ⟨f.en.len, fun j b q => ?_, fun j m q => ?_, f.en.inj⟩, fun p hp => m1 (f.kv p hp)⟩
  · show upd w.H D (.lst us) b = _
    rw [upd_ne (away b h2 (by rw [h1]; simp))]; exact f.ex.keep b o h1 h2
  · show upd w.H D (.lst us) b = _
    have z := f.ex.tup b xs h
    rw [upd_ne (ne_of z hD (by intro z; cases z))]; exact z
  · show upd w.H D (.lst us) b = _
    have z := f.ex.frz b o u h
    rw [upd_ne (ne_of z hD (by intro z; cases z))]; exact z
  · have h : upd w.H D (.lst us) b = none := h
    by_cases q : b = D
    · subst q; rw [upd_same] at h; cases h
    · rw [upd_ne q] at h; exact f.ex.dom b h
  · show upd w.H D (.lst us) a ≠ none
    by_cases e : a = D
    · subst e; rw [upd_same]; simp
    · rw [upd_ne e]; exact f.ok.dom a ha
  · show w.ro.length = (w.st.ob.set n (Ob.lst l')).length
    rw [List.length_set]; exact f.ok.len
  · have q1 : (w.st.ob.set n (Ob.lst l'))[m]? = some o := q1
    by_cases e : n = m
    · subst e
      have q2 : w.ro[n]? = some a := q2
      rw [hr] at q2; cases q2
      rw [List.getElem?_set_self (List.getElem?_eq_some_iff.mp hn).1] at q1
      cases q1
      exact ⟨us, upd_same, m2 h2⟩
    · rw [List.getElem?_set_ne e] at q1
      have q2 : w.ro[m]? = some a := q2
      have ne : a ≠ D := by
        rintro rfl
        exact e ((List.getElem?_inj (List.getElem?_eq_some_iff.mp hr).1 f.ok.nd).mp (hr.trans q2.symm))
      have z := f.ok.obj m o a q1 q2
      cases o with
      | lst k =>
        obtain ⟨xs, z1, z2⟩ := z
        refine ⟨xs, ?_, m2 z2⟩
        show upd w.H D (.lst us) a = _
        rw [upd_ne ne]; exact z1
  · obtain ⟨u, z1, z2⟩ := f.en.val j b q
    exact ⟨u, z1, m1 z2⟩
  · obtain ⟨b, xs, z1, z2, z3, z4, z5, z6⟩ := f.en.own j m q
    refine ⟨b, xs, z1, ?_, m2 z3, z4, z5, z6⟩
    show upd w.H D (.lst us) b = _
    rw [upd_ne (by rintro rfl; exact z5 mem)]; exact z2
end
section
variable {F : Type} (G : Glo F) (C : Cf F) (cs : List (Str × Const)) (N : List Str) (k : Nat)
def EndS (K : PySem.W.Frag) (w0 : Wd) (ks : List (AV × V)) (D : Ends) : Fl × Env → Sto → Prop := fun p s => match p.1 with
  | .nx => ∀ w' σ', w'.st = s → FI K w0 w' p.2 σ' ks → D.nx σ' w'.H
  | .rt r => ∀ w' v, w'.st = s → Ext w0 w' → WOK K w' → RR K w0 w' r v → D.rt v w'.H
def tSt (K : PySem.W.Frag) (XW : XK) (s : S F) : TS := fun D σ H => ∃ w w0 env ks, w.H = H ∧ FI K w0 w env σ ks ∧ SatX K w0 (ex C env s w.st) (EndS K w0 ks D) (xq G XW)
def tSts (K : PySem.W.Frag) (XW : XK) (s : Ss F) : TS := fun D σ H => ∃ w w0 env ks, w.H = H ∧ FI K w0 w env σ ks ∧ SatX K w0 (exs C env s w.st) (EndS K w0 ks D) (xq G XW)
structure SOk (X : Cx) (XW : XK) : Prop where
  xo : XOk G C cs N k X XW true
  hp : PassesOwn (model X.prog X.w) X.A X.env X.xe
def GoodS (s : S F) : Prop := ∀ (sc : Scope) (ast : Stmt) (X : Cx) (XW : XK), okS G.nm cs N sc s ast = true → SOk G C cs N k X XW → X.env.scope = sc → PS X ast (tSt G C X.K XW s)
def GoodSs (s : Ss F) : Prop := ∀ (sc : Scope) (asts : List Stmt) (X : Cx) (XW : XK), okSs G.nm cs N sc s asts = true → SOk G C cs N k X XW → X.env.scope = sc → PSs X asts (tSts G C X.K XW s)
end
section
variable {F : Type} {G : Glo F} {C : Cf F} {cs : List (Str × Const)} {N : List Str} {k : Nat}
theorem swaps_lc {elt : Expr} {gs : List Comprehension} {scope : Scope} {pos py : Pos} {y : Str} {l : Nat} {env : PySem.Env} : ∃ b, swapsWith (.ListComp elt gs scope pos) (some (.Name y py)) l env = pure b ∧ (b = true → env.kindOf y = some .local) := by
  refine ⟨env.blockKind == .function && env.kindOf y == some .local && py.line == (Expr.ListComp elt gs scope pos).pos.line && !(scope.names.any fun (n, k) => n == y && (k == .local || k == .cell)), rfl, fun h => ?_⟩
  obtain ⟨h, _⟩ := and_t h
  obtain ⟨h, _⟩ := and_t h
  obtain ⟨_, h⟩ := and_t h
  simpa using h
/-- name = value: whatever the value is -/
theorem ps_setA {X : Cx} {XW : XK} {i : Nat} {x : Str} {p spos : Pos} {v : Expr} {e : E F} (xo : XOk G C cs N k X XW true) (h1 : nameB N true X.env.scope i (.Name x p) = true) (h2 : okE G.nm cs N X.env.scope e v = true) : PS X (.Assign [.Name x p] v spos) (tAsg (tEv G C X.K XW e) (gName i)) := by
  obtain ⟨x', p', e1, hi, hx, hf⟩ := name_ok xo h1
  cases e1
  have he := (sndE G C cs N k e).1 _ v X XW true h2 xo rfl
  cases v with
  | ListComp elt gens scope p2 =>
    cases e with
    | lc t it c e =>
      obtain ⟨b, hb, hl⟩ := swaps_lc (elt := elt) (gs := gens) (scope := scope) (pos := p2) (py := p) (y := x) (l := spos.line) (env := X.env)
      cases b with
      | false => exact ps_set xo.nd hi hx he hb hf
      | true =>
        obtain ⟨tg, iter, ifs, rfl, k1, k2, k3, k4, k5, k6⟩ := lc_parts t (sndI G C cs N k it) (sndO G C cs N k c).2 (sndE G C cs N k e).1 h2 xo
        refine PS.weak (ps_setLc (own := ownOf N t) xo.hc xo.nd hi (hl rfl) hb k1 k2 k3 k4 k5 k6) fun D σ H q => ?_
        exact lc_read _ _ _ q
    | _ => cases (show false = true from h2)
  | SetComp a b c d => cases e <;> cases (show false = true from h2)
  | DictComp a b c d e' => cases e <;> cases (show false = true from h2)
  | _ => exact ps_set xo.nd hi hx he rfl hf
end
end EV

set_option maxRecDepth 100000
set_option maxHeartbeats 2000000
namespace EV
open PySem PySem.Spec PyProof.Rows L2 RT RZ
section
variable {F : Type} {G : Glo F} {C : Cf F} {cs : List (Str × Const)} {N : List Str} {k : Nat}
/-- an expression in a statement: its value, frozen if it was just made -/
theorem st_frz {K : PySem.W.Frag} {XW : XK} {w w0 : Wd} {env : Env} {σ : L2.St} {ks : List (AV × V)} {e : E F} {α : Type} {f : R → Sto → Rs α} {P : α → Sto → Prop} {Q : VK} (fi : FI K w0 w env σ ks) (h : SatX K w0 ((ev C env e w.st).bind f) P (xq G XW))
    (q : ∀ r w2 v, FI K w0 w2 env σ ks → Ext w w2 → RR K w w2 (fz r) v → SatX K w0 (f r w2.st) P (xq G XW) → Q v w2.H) : tEv G C K XW e σ w.H Q :=
  ⟨w, w0, env, rfl, fi.ok, fi.en, (h.bind.sat fi.ex).imp fun r w1 ⟨e1, ok1, h1⟩ v rv => by
    obtain ⟨w2, eH, eS, e2, ok2, rv2⟩ := freeze e1 ok1 rv fi.ok.dom
    rw [← eH]
    exact q r w2 v (fi.step e2 ok2) e2 rv2 (by rw [eS]; exact h1)⟩
/-- .. as it is -/
theorem st_raw {K : PySem.W.Frag} {XW : XK} {w w0 : Wd} {env : Env} {σ : L2.St} {ks : List (AV × V)} {e : E F} {α : Type} {f : R → Sto → Rs α} {P : α → Sto → Prop} {Q : VK} (fi : FI K w0 w env σ ks) (h : SatX K w0 ((ev C env e w.st).bind f) P (xq G XW))
    (q : ∀ r w1 v, FI K w0 w1 env σ ks → Ext w w1 → WOK K w1 → RR K w w1 r v → SatX K w0 (f r w1.st) P (xq G XW) → Q v w1.H) : tEv G C K XW e σ w.H Q :=
  ⟨w, w0, env, rfl, fi.ok, fi.en, (h.bind.sat fi.ex).imp fun r w1 ⟨e1, ok1, h1⟩ v rv => q r w1 v (fi.step e1 ok1) e1 ok1 rv h1⟩
theorem gs_set (i : Nat) (e : E F) : GoodS G C cs N k (.set i e) := by
  intro sc ast X XW h so hsc
  cases ast with
  | Assign ts v p =>
    replace h : (match name1 ts with
      | some (x, p) => nameB N true sc i (.Name x p) && okE G.nm cs N sc e v
      | none => false) = true := h
    split at h
    · rename_i x p2 hn
      cases name1_ok hn
      obtain ⟨h1, h2⟩ := and_t h
      subst hsc
      refine PS.weak (ps_setA so.xo h1 h2) fun D σ H q => ?_
      obtain ⟨w, w0, env, ks, rfl, fi, q⟩ := q
      refine st_frz fi q fun r w2 v fi2 e2 rv h => ?_
      obtain ⟨a, ha, h⟩ := h.bind.of_
      exact h w2 _ rfl (fi2.set i (toA_ok rv ha))
    · cases h
  | _ => cases (show false = true from h)
theorem gs_own (i : Nat) (e : E F) : GoodS G C cs N k (.own i e) := by
  intro sc ast X XW h so hsc
  cases ast with
  | Assign ts v p =>
    replace h : (match name1 ts with
      | some (x, p) => nameB N true sc i (.Name x p) && okE G.nm cs N sc e v
      | none => false) = true := h
    split at h
    · rename_i x p2 hn
      cases name1_ok hn
      obtain ⟨h1, h2⟩ := and_t h
      subst hsc
      refine PS.weak (ps_setA so.xo h1 h2) fun D σ H q => ?_
      obtain ⟨w, w0, env, ks, rfl, fi, q⟩ := q
      refine st_raw fi q fun r w1 v fi1 e1 ok1 rv h => ?_
      cases r with
      | tl l =>
        obtain ⟨a, vs, rfl, z1, z2, z3, z4, z5⟩ := rv
        exact h w1 _ rfl (fi.own i e1 ok1 z1 z2 z3 z4 z5)
      | _ => exact (h : False).elim
    · cases h
  | _ => cases (show false = true from h)
theorem gs_heap (i : Nat) (e : E F) : GoodS G C cs N k (.heap i e) := by
  intro sc ast X XW h so hsc
  cases ast with
  | Assign ts v p =>
    replace h : (match name1 ts with
      | some (x, p) => nameB N true sc i (.Name x p) && okE G.nm cs N sc e v
      | none => false) = true := h
    split at h
    · rename_i x p2 hn
      cases name1_ok hn
      obtain ⟨h1, h2⟩ := and_t h
      subst hsc
      refine PS.weak (ps_setA so.xo h1 h2) fun D σ H q => ?_
      obtain ⟨w, w0, env, ks, rfl, fi, q⟩ := q
      refine st_raw fi q fun r w1 v fi1 e1 ok1 rv h => ?_
      cases r with
      | tl l =>
        obtain ⟨a, vs, rfl, z1, z2, z3, z4, z5⟩ := rv
        exact h ⟨w1.ro ++ [a], w1.fb, ⟨w1.st.fl, w1.st.ob ++ [.lst l]⟩, w1.H⟩ _ rfl (fi.alloc i e1 ok1 z1 z2 z3 z4 z5)
      | _ => exact (h : False).elim
    · cases h
  | _ => cases (show false = true from h)
theorem var_pe {X : Cx} {XW : XK} {fnB : Bool} {i : Nat} {v : Expr} (xo : XOk G C cs N k X XW fnB) (h : okE G.nm cs N X.env.scope (.var i) v = true) : ∃ y q, v = .Name y q ∧ PE X v (tVar i) := by
  cases v with
  | Name x p =>
    replace h : (decide (N[i]? = some x) && visB X.env.scope x && !(x == ("__debug__" : Str)) && !(x == ("__classdict__" : Str))) = true := h
    obtain ⟨h, h4⟩ := and_t h
    obtain ⟨h, h3⟩ := and_t h
    obtain ⟨h1, h2⟩ := and_t h
    have h1 := of_decide_eq_true h1
    exact ⟨x, p, rfl, pe_var (i := i) (by rw [xo.hN]; exact h1) (visB_ok h2) (not_f h3) (not_f h4)⟩
  | _ => cases (show false = true from h)
theorem gs_mv (i j : Nat) : GoodS G C cs N k (.mv i j) := by
  intro sc ast X XW h so hsc
  cases ast with
  | Assign ts v p =>
    replace h : (match name1 ts with
      | some (x, p) => nameB N true sc i (.Name x p) && okE G.nm cs N sc (.var j) v
      | none => false) = true := h
    split at h
    · rename_i x p2 hn
      cases name1_ok hn
      obtain ⟨h1, h2⟩ := and_t h
      subst hsc
      obtain ⟨y, q, rfl, hp⟩ := var_pe so.xo h2
      obtain ⟨x', p', e1, hi, hx, hf⟩ := name_ok so.xo h1
      cases e1
      refine PS.weak (ps_set so.xo.nd hi hx hp rfl hf) fun D σ H q => ?_
      obtain ⟨w, w0, env, ks, rfl, fi, q⟩ := q
      have q : SatX X.K w0 (match env[j]? with
        | some (.own l) => Rs.ok (Fl.nx, (env.set j .no).set i (.v (.lst l))) w.st
        | _ => .stuck) (EndS X.K w0 ks D) (xq G XW) := q
      split at q
      · rename_i l hj
        obtain ⟨a, vs, y1, _⟩ := fi.en.own j l hj
        obtain ⟨f2, r2⟩ := fi.free hj y1
        exact ⟨.ref a, y1, q (w.fr a) _ rfl (f2.set i r2)⟩
      · exact (q : False).elim
    · cases h
  | _ => cases (show false = true from h)
theorem meth_base {nm : F → Str} {sc : Scope} {e : E F} {x : Expr} (h : okE nm cs N sc e x = true) (a : Str) (ha : (a == ("__class__" : Str)) = false) (env : PySem.Env) (hs : ∀ p, x ≠ .Call (.Name "super" p) [] [] p) : attributeBase x a env (eval x env) = eval x env := by
  cases x with
  | Call f xs kws p =>
    cases f with
    | Name g q =>
      match xs, kws, h with
      | [], [], h => cases e <;> cases (show false = true from h)
      | [], _ :: _, h => rfl
      | _ :: _, _, h => rfl
    | _ => rfl
  | _ => rfl
theorem few1 {e : Expr} {env : PySem.Env} {cpos : Pos} (hs : starEach [e] env = (false, eval e env) :: starEach [] env) : ((backTo cpos (starEach [e] env)).all (fun x => !x.1) && (backToKw cpos (keywordEach [] env)).all (fun x => x.1.isSome)
      && decide (([e] : List Expr).length + ([] : List Keyword).length + (if ([] : List Keyword).isEmpty then 0 else 1) < 30)) = true := by
  rw [hs]
  rfl
theorem gs_app (i : Nat) (e : E F) : GoodS G C cs N k (.app i e) := by
  intro sc ast X XW h so hsc
  cases ast with
  | Expr c p =>
    replace h : (match meth1 c with
      | some (x, a, ap, v, cp) => (ap.endLine == cp.line) && decide (a = ("append" : Str)) && okE G.nm cs N sc (.var i) x && okE G.nm cs N sc e v
      | none => false) = true := h
    split at h
    · rename_i x a ap v cp hm
      cases meth1_ok hm
      obtain ⟨h, h4⟩ := and_t h
      obtain ⟨h, h3⟩ := and_t h
      obtain ⟨h1, h2⟩ := and_t h
      have h2 := of_decide_eq_true h2
      subst hsc h2
      obtain ⟨y, q, rfl, hp⟩ := var_pe so.xo h3
      have hs := okE_star h4 [] X.env
      refine PS.weak (ps_expr (pe_bm PySem.F.plainAttrs_list PySem.F.slot_list_append PySem.F.type_list_append mt_append hp (pa_cons ((sndE G C cs N k e).1 _ v X XW true h4 so.xo rfl) pa_nil hs) rfl (few1 hs) h1 hs rfl) rfl) fun D σ H q => ?_
      obtain ⟨w, w0, env, ks, rfl, fi, q⟩ := q
      have q : SatX X.K w0 (match env[i]? with
        | some (.own l) => (ev C env e w.st).bind fun r s => (Rs.of (toA (fz r)) s).bind fun a s => if l.length < sizeLine then .ok (Fl.nx, env.set i (.own (l ++ [a]))) s else .stuck
        | _ => .stuck) (EndS X.K w0 ks D) (xq G XW) := q
      split at q
      · rename_i l hi
        obtain ⟨a, vs, y1, y2, _⟩ := fi.en.own i l hi
        refine ⟨.ref a, y1, .inl ⟨rfl, _, SqL.of y2⟩, ?_⟩
        refine st_frz fi q fun r w2 v fi2 e2 rv h => ?_
        obtain ⟨b, hb, h⟩ := h.bind.of_
        split at h
        · rename_i hlen
          obtain ⟨a', vs', z1, z2, z3, z4, z5, z6⟩ := fi2.en.own i l hi
          rw [y1] at z1
          cases z1
          refine ⟨a, vs', v, rfl, rfl, z2, by rw [← z3.length]; exact hlen, ?_⟩
          exact h (w2.own a (vs' ++ [v])) _ rfl (fi2.put hi y1 (z3.append (.cons (toA_ok rv hb) .nil)))
        · exact (h : False).elim
      · exact (q : False).elim
    · cases h
  | _ => cases (show false = true from h)
theorem gs_ext (i : Nat) (e : E F) : GoodS G C cs N k (.ext i e) := by
  intro sc ast X XW h so hsc
  cases ast with
  | Expr c p =>
    replace h : (match meth1 c with
      | some (x, a, ap, v, cp) => (ap.endLine == cp.line) && decide (a = ("extend" : Str)) && okE G.nm cs N sc (.var i) x && okE G.nm cs N sc e v
      | none => false) = true := h
    split at h
    · rename_i x a ap v cp hm
      cases meth1_ok hm
      obtain ⟨h, h4⟩ := and_t h
      obtain ⟨h, h3⟩ := and_t h
      obtain ⟨h1, h2⟩ := and_t h
      have h2 := of_decide_eq_true h2
      subst hsc h2
      obtain ⟨y, q, rfl, hp⟩ := var_pe so.xo h3
      have hs := okE_star h4 [] X.env
      refine PS.weak (ps_expr (pe_bm PySem.F.plainAttrs_list PySem.F.slot_list_extend PySem.F.type_list_extend mt_extend hp (pa_cons ((sndE G C cs N k e).1 _ v X XW true h4 so.xo rfl) pa_nil hs) rfl (few1 hs) h1 hs rfl) rfl) fun D σ H q => ?_
      obtain ⟨w, w0, env, ks, rfl, fi, q⟩ := q
      have q : SatX X.K w0 (match env[i]? with
        | some (.own l) => (ev C env e w.st).bind fun r s => match fz r with
          | .v (.lst m) => if l.length + m.length ≤ sizeLine then .ok (Fl.nx, env.set i (.own (l ++ m))) s else .stuck
          | _ => .stuck
        | _ => .stuck) (EndS X.K w0 ks D) (xq G XW) := q
      split at q
      · rename_i l hi
        obtain ⟨a, vs, y1, y2, _⟩ := fi.en.own i l hi
        refine ⟨.ref a, y1, .inl ⟨rfl, _, SqL.of y2⟩, ?_⟩
        refine st_frz fi q fun r w2 v fi2 e2 rv h => ?_
        split at h
        · rename_i m hm
          split at h
          · rename_i hlen
            obtain ⟨a', vs', z1, z2, z3, z4, z5, z6⟩ := fi2.en.own i l hi
            rw [y1] at z1
            cases z1
            rw [hm] at rv
            have rv : RW X.K w2 (.lst m) v := rv
            cases rv with
            | lst g1 g2 g3 =>
              refine ⟨a, _, vs', _, rfl, rfl, z2, g1, by rw [← z3.length, ← g3.length]; exact hlen, ?_⟩
              exact h (w2.own a (vs' ++ _)) _ rfl (fi2.put hi y1 (z3.append g3))
          · exact (h : False).elim
        · exact (h : False).elim
      · exact (q : False).elim
    · cases h
  | _ => cases (show false = true from h)
theorem isTupE_swaps {v : Expr} (h : (!isTupE v) = true) : (∀ (t : Option Expr) (l : Nat) (env : PySem.Env), swapsWith v t l env = pure false) ∧ ∀ (tg : Expr) (env : PySem.Env), swappedStores [tg] v env = pure none := by
  cases v with
  | Tuple a b c => cases h
  | ListComp a b c d => cases h
  | SetComp a b c d => cases h
  | DictComp a b c d e => cases h
  | _ => exact ⟨fun _ _ _ => rfl, fun tg _ => by cases tg <;> rfl⟩
theorem gs_unp (is : List Nat) (e : E F) : GoodS G C cs N k (.unp is e) := by
  intro sc ast X XW h so hsc
  cases ast with
  | Assign ts v p =>
    replace h : (match tup1 ts with
      | some (es, _, _) => namesB N true sc is es && !isTupE v && okE G.nm cs N sc e v
      | none => false) = true := h
    split at h
    · rename_i es kk p2 hn
      cases tup1_ok hn
      obtain ⟨h, h3⟩ := and_t h
      obtain ⟨h1, h2⟩ := and_t h
      subst hsc
      obtain ⟨s1, s2⟩ := isTupE_swaps h2
      have hg : PG X (.Tuple es kk p2) (gT X.K (.tp is)) := tg_pg (t := .tp is) so.xo h1
      refine PS.weak (ps_asg ((sndE G C cs N k e).1 _ v X XW true h3 so.xo rfl) hg (by unfold swapsWithSole; exact s1 _ _ _) (s2 _ _) rfl) fun D σ H q => ?_
      obtain ⟨w, w0, env, ks, rfl, fi, q⟩ := q
      refine st_raw fi q fun r w1 v fi1 e1 ok1 rv h => ?_
      split at h
      · rename_i l
        split at h
        · rename_i hl
          refine gT_ok (env1 := (is.zip l).foldl (fun e p => e.set p.1 (.v p.2)) env) (by show (if is.length = l.length then _ else _) = _; rw [if_pos hl]) fi1.en rv fun σ' en' _ => ?_
          exact h w1 σ' rfl ⟨fi1.d0, fi1.ex, fi1.ok, en', fi1.kv⟩
        · exact (h : False).elim
      · exact (h : False).elim
    · cases h
  | _ => cases (show false = true from h)
theorem sub_asg {nm : F → Str} {sc : Scope} {e : E F} {X : Cx} {o i : Expr} {pos : Pos} (h : okE nm cs N sc e i = true) : ∀ v, assign (.Subscript o i pos) X.env v = (do
      let ov ← holding [v] (eval o X.env)
      let iv ← holding [v, ov] (eval i X.env)
      standAt pos
      holding [v, ov, iv] (setItem ov iv v)
      release [v, ov, iv] []) := by
  intro v
  cases i with
  | Slice a b c d => cases e <;> cases (show false = true from h)
  | _ => rfl
theorem gs_putO (i : Nat) (kx e : E F) : GoodS G C cs N k (.putO i kx e) := by
  intro sc ast X XW h so hsc
  cases ast with
  | Assign ts v p =>
    replace h : (match sub1 ts with
      | some (x, y, _) => okE G.nm cs N sc (.var i) x && okE G.nm cs N sc kx y && !isTupE v && okE G.nm cs N sc e v
      | none => false) = true := h
    split at h
    · rename_i x y p2 hn
      cases sub1_ok hn
      obtain ⟨h, h4⟩ := and_t h
      obtain ⟨h, h3⟩ := and_t h
      obtain ⟨h1, h2⟩ := and_t h
      subst hsc
      obtain ⟨s1, s2⟩ := isTupE_swaps h3
      obtain ⟨z, q, rfl, hp⟩ := var_pe so.xo h1
      refine PS.weak (ps_asg ((sndE G C cs N k e).1 _ v X XW true h4 so.xo rfl) (pg_sub hp ((sndE G C cs N k kx).1 _ y X XW true h2 so.xo rfl) set_list (sub_asg h2)) (by unfold swapsWithSole; exact s1 _ _ _) (s2 _ _) rfl) fun D σ H q => ?_
      obtain ⟨w, w0, env, ks, rfl, fi, q⟩ := q
      have q : SatX X.K w0 ((ev C env e w.st).bind fun r s => (Rs.of (toA (fz r)) s).bind fun a s => match env[i]? with
        | some (.own l) => (ev C env kx s).bind fun y s => match y with
          | .v (.int j) => (match ixN l.length j with
            | some n => .ok (Fl.nx, env.set i (.own (l.set n a))) s
            | none => .stuck)
          | _ => .stuck
        | _ => .stuck) (EndS X.K w0 ks D) (xq G XW) := q
      refine st_frz fi q fun r w2 v fi2 e2 rv h => ?_
      obtain ⟨a, ha, h⟩ := h.bind.of_
      have ra := toA_ok rv ha
      split at h
      · rename_i l hi
        obtain ⟨D1, vs, y1, y2, _⟩ := fi2.en.own i l hi
        refine ⟨.ref D1, y1, st_raw fi2 h fun y w3 u fi3 e3 ok3 ry h => ?_⟩
        split at h
        · rename_i j
          split at h
          · rename_i n hn
            obtain ⟨D', vs', z1, z2, z3, z4, z5, z6⟩ := fi3.en.own i l hi
            rw [y1] at z1
            cases z1
            have ry : RW X.K w3 (.int j) u := ry
            cases ry
            refine ⟨D1, vs', j, n, rfl, rfl, z2, by rw [← z3.length]; exact hn, ?_⟩
            exact h (w3.own D1 (vs'.set n v)) _ rfl (fi3.put hi y1 (z3.set (RA.ext fi2.ok e3 ra) n))
          · exact (h : False).elim
        · exact (h : False).elim
      · exact (h : False).elim
    · cases h
  | _ => cases (show false = true from h)
/-- an object of the store, by its number -/
theorem loc_ok {K : PySem.W.Frag} {w : Wd} {n : Nat} {v : V} {l : List AV} (ok : WOK K w) (h : RW K w (.loc n) v) (e : w.st.ob[n]? = some (.lst l)) : ∃ D vs, v = .ref D ∧ w.ro[n]? = some D ∧ w.H D = some (.lst vs) ∧ RWs K w l vs := by
  cases h with
  | loc h1 =>
    obtain ⟨vs, z1, z2⟩ := ok.obj n _ _ e h1
    exact ⟨_, vs, rfl, h1, z1, z2⟩
theorem wr_ok {s s' : Sto} {n : Nat} {f : List AV → Option (List AV)} (h : wr s n f = some s') : ∃ l l', s.ob[n]? = some (.lst l) ∧ f l = some l' ∧ s' = ⟨s.fl, s.ob.set n (.lst l')⟩ := by
  unfold wr at h
  split at h
  · cases h
  · split at h
    · rename_i l hl
      obtain ⟨l', q1, q2⟩ := Option.map_eq_some_iff.mp h
      exact ⟨l, l', hl, q1, q2.symm⟩
    · cases h
theorem gs_putL (o kx e : E F) : GoodS G C cs N k (.putL o kx e) := by
  intro sc ast X XW h so hsc
  cases ast with
  | Assign ts v p =>
    replace h : (match sub1 ts with
      | some (x, y, _) => okE G.nm cs N sc o x && okE G.nm cs N sc kx y && !isTupE v && okE G.nm cs N sc e v
      | none => false) = true := h
    split at h
    · rename_i x y p2 hn
      cases sub1_ok hn
      obtain ⟨h, h4⟩ := and_t h
      obtain ⟨h, h3⟩ := and_t h
      obtain ⟨h1, h2⟩ := and_t h
      subst hsc
      obtain ⟨s1, s2⟩ := isTupE_swaps h3
      refine PS.weak (ps_asg ((sndE G C cs N k e).1 _ v X XW true h4 so.xo rfl) (pg_sub ((sndE G C cs N k o).1 _ x X XW true h1 so.xo rfl) ((sndE G C cs N k kx).1 _ y X XW true h2 so.xo rfl) set_list (sub_asg h2)) (by unfold swapsWithSole; exact s1 _ _ _) (s2 _ _) rfl) fun D σ H q => ?_
      obtain ⟨w, w0, env, ks, rfl, fi, q⟩ := q
      have q : SatX X.K w0 ((ev C env e w.st).bind fun r s => (Rs.of (toA (fz r)) s).bind fun a s => (ev C env o s).bind fun x s => (ev C env kx s).bind fun y s => match x, y with
        | .v (.loc n), .v (.int j) => (Rs.of (wr s n fun l => (ixN l.length j).map fun m => l.set m a) s).bind fun s' _ => .ok (Fl.nx, env) s'
        | _, _ => .stuck) (EndS X.K w0 ks D) (xq G XW) := q
      refine st_frz fi q fun r w2 v fi2 e2 rv h => ?_
      obtain ⟨a, ha, h⟩ := h.bind.of_
      have ra := toA_ok rv ha
      refine st_raw fi2 h fun x w3 t fi3 e3 ok3 rx h => st_raw fi3 h fun y w4 u fi4 e4 ok4 ry h => ?_
      split at h
      · rename_i n j _
        obtain ⟨s', hs', h⟩ := h.bind.of_
        obtain ⟨l, l', q1, q2, rfl⟩ := wr_ok hs'
        obtain ⟨m, q3, rfl⟩ := Option.map_eq_some_iff.mp q2
        have rx : RW X.K w4 (.loc n) t := RA.ext fi3.ok e4 rx
        obtain ⟨D1, vs, rfl, z1, z2, z3⟩ := loc_ok fi4.ok rx q1
        have ry : RW X.K w4 (.int j) u := ry
        cases ry
        refine ⟨D1, vs, j, m, rfl, rfl, z2, by rw [← z3.length]; exact q3, ?_⟩
        exact h ⟨w4.ro, w4.fb, ⟨w4.st.fl, w4.st.ob.set n (.lst (l.set m a))⟩, upd w4.H D1 (.lst (vs.set m v))⟩ _ rfl (fi4.store q1 z1 z2 (z3.set (RA.ext fi3.ok e4 (RA.ext fi2.ok e3 ra)) m))
      · exact (h : False).elim
    · cases h
  | _ => cases (show false = true from h)
theorem callE_no {nm : F → Str} {sc : Scope} {e : E F} {x : Expr} (h : okE nm cs N sc e x = true) (a : Str) (env : PySem.Env) : attributeBase x a env (eval x env) = eval x env := by
  cases x with
  | Call f xs kws p =>
    cases f with
    | Name g q =>
      match xs, kws, h with
      | [], [], h => cases e <;> cases (show false = true from h)
      | [], _ :: _, h => rfl
      | _ :: _, _, h => rfl
    | _ => rfl
  | _ => rfl
theorem gs_appL (o e : E F) : GoodS G C cs N k (.appL o e) := by
  intro sc ast X XW h so hsc
  cases ast with
  | Expr c p =>
    replace h : (match meth1 c with
      | some (x, a, ap, v, cp) => (ap.endLine == cp.line) && decide (a = ("append" : Str)) && okE G.nm cs N sc o x && okE G.nm cs N sc e v
      | none => false) = true := h
    split at h
    · rename_i x a ap v cp hm
      cases meth1_ok hm
      obtain ⟨h, h4⟩ := and_t h
      obtain ⟨h, h3⟩ := and_t h
      obtain ⟨h1, h2⟩ := and_t h
      have h2 := of_decide_eq_true h2
      subst hsc h2
      have hs := okE_star h4 [] X.env
      refine PS.weak (ps_expr (pe_bm PySem.F.plainAttrs_list PySem.F.slot_list_append PySem.F.type_list_append mt_append ((sndE G C cs N k o).1 _ x X XW true h3 so.xo rfl) (pa_cons ((sndE G C cs N k e).1 _ v X XW true h4 so.xo rfl) pa_nil hs) (callE_no h3 _ _) (few1 hs) h1 hs rfl) rfl) fun D σ H q => ?_
      obtain ⟨w, w0, env, ks, rfl, fi, q⟩ := q
      have q : SatX X.K w0 ((ev C env o w.st).bind fun x s => match isLoc s x with
        | some n => (ev C env e s).bind fun r s => (Rs.of (toA (fz r)) s).bind fun a s => (Rs.of (wr s n fun l => if l.length < sizeLine then some (l ++ [a]) else none) s).bind fun s' _ => .ok (Fl.nx, env) s'
        | none => .stuck) (EndS X.K w0 ks D) (xq G XW) := q
      show tEv G C X.K XW o σ w.H (fun x H1 => tyV X.K "list" x H1 ∧ tCons (tEv G C X.K XW e) tNil σ H1 (fun xs H2 => rAppend x xs H2 (fun _ H3 => D.nx σ H3)))
      refine st_raw fi q fun x w1 t fi1 e1 ok1 rx h => ?_
      split at h
      · rename_i n hn
        obtain ⟨l0, rfl, hl0⟩ : ∃ l0, x = .v (.loc n) ∧ w1.st.ob[n]? = some (.lst l0) := by
          unfold isLoc at hn
          split at hn
          · split at hn
            · rename_i l q
              cases hn
              exact ⟨l, rfl, q⟩
            · cases hn
          · cases hn
        have rx : RW X.K w1 (.loc n) t := rx
        obtain ⟨D1, vs, rfl, z1, z2, z3⟩ := loc_ok fi1.ok rx hl0
        refine ⟨.inl ⟨rfl, _, SqL.of z2⟩, ?_⟩
        refine st_frz fi1 h fun r w2 v fi2 e2 rv h => ?_
        obtain ⟨a, ha, h⟩ := h.bind.of_
        obtain ⟨s', hs', h⟩ := h.bind.of_
        obtain ⟨l, l', q1, q2, rfl⟩ := wr_ok hs'
        split at q2
        · rename_i hlen
          cases q2
          obtain ⟨D2, us, e3, y1, y2, y3⟩ := loc_ok fi2.ok (RA.ext fi1.ok e2 rx) q1
          cases e3
          refine ⟨D1, us, v, rfl, rfl, y2, by rw [← y3.length]; exact hlen, ?_⟩
          exact h ⟨w2.ro, w2.fb, ⟨w2.st.fl, w2.st.ob.set n (.lst (l ++ [a]))⟩, upd w2.H D1 (.lst (us ++ [v]))⟩ _ rfl (fi2.store q1 y1 y2 (y3.append (.cons (toA_ok rv ha) .nil)))
        · cases q2
      · exact (h : False).elim
    · cases h
  | _ => cases (show false = true from h)
theorem gs_expr (e : E F) : GoodS G C cs N k (.expr e) := by
  intro sc ast X XW h so hsc
  cases ast with
  | Expr v p =>
    obtain ⟨h1, h2⟩ := and_t (show (isCall v && okE G.nm cs N sc e v) = true from h)
    subst hsc
    have hs : swapsWith v none p.line X.env = pure false := by
      cases v with
      | Call a b c d => rfl
      | _ => cases h1
    refine PS.weak (ps_expr ((sndE G C cs N k e).1 _ v X XW true h2 so.xo rfl) hs) fun D σ H q => ?_
    obtain ⟨w, w0, env, ks, rfl, fi, q⟩ := q
    exact st_raw fi q fun r w1 v fi1 e1 ok1 rv h => h w1 σ rfl fi1
  | _ => cases (show false = true from h)
theorem gs_ret (e : E F) : GoodS G C cs N k (.ret e) := by
  intro sc ast X XW h so hsc
  cases ast with
  | Return v p =>
    cases v with
    | none => cases (show false = true from h)
    | some v =>
      replace h : okE G.nm cs N sc e v = true := h
      subst hsc
      refine PS.weak (ps_ret ((sndE G C cs N k e).1 _ v X XW true h so.xo rfl)) fun D σ H q => ?_
      obtain ⟨w, w0, env, ks, rfl, fi, q⟩ := q
      refine st_raw fi q fun r w1 v fi1 e1 ok1 rv h => ?_
      cases r with
      | v a => exact h w1 v rfl fi1.ex fi1.ok rv
      | tl l => exact h w1 v rfl fi1.ex fi1.ok (rv.back fi.ex)
      | bo l => exact (h : False).elim
  | _ => cases (show false = true from h)
theorem gs_retV (i : Nat) : GoodS G C cs N k (.retV i) := by
  intro sc ast X XW h so hsc
  cases ast with
  | Return v p =>
    cases v with
    | none => cases (show false = true from h)
    | some v =>
      replace h : okE G.nm cs N sc (.var i) v = true := h
      subst hsc
      obtain ⟨y, q, rfl, hp⟩ := var_pe so.xo h
      refine PS.weak (ps_ret hp) fun D σ H q => ?_
      obtain ⟨w, w0, env, ks, rfl, fi, q⟩ := q
      have q : SatX X.K w0 (match env[i]? with
        | some (.own l) => Rs.ok (Fl.rt (.tl l), env) w.st
        | _ => .stuck) (EndS X.K w0 ks D) (xq G XW) := q
      split at q
      · rename_i l hi
        obtain ⟨a, vs, z1, z2, z3, z4, z5, z6⟩ := fi.en.own i l hi
        exact ⟨.ref a, z1, q w _ rfl fi.ex fi.ok ⟨a, vs, rfl, z2, z3, z4, z5, z6⟩⟩
      · exact (q : False).elim
  | _ => cases (show false = true from h)
theorem gs_retN : GoodS G C cs N k .retN := by
  intro sc ast X XW h so hsc
  cases ast with
  | Return v p =>
    cases v with
    | some v => cases (show false = true from h)
    | none =>
      refine PS.weak ps_retN fun D σ H q => ?_
      obtain ⟨w, w0, env, ks, rfl, fi, q⟩ := q
      exact q w .non rfl fi.ex fi.ok .non
  | _ => cases (show false = true from h)
theorem gs_never : GoodS G C cs N k .never := by
  intro sc ast X XW h so hsc
  exact PS.weak ps_never fun D σ H ⟨w, w0, env, ks, e, fi, q⟩ => q
theorem gs_ife (c : E F) {a b : Ss F} (ha : GoodSs G C cs N k a) (hb : GoodSs G C cs N k b) : GoodS G C cs N k (.ife c a b) := by
  intro sc ast X XW h so hsc
  cases ast with
  | If z x y p =>
    replace h : (tst c && okE G.nm cs N sc c z && okSs G.nm cs N sc a x && okSs G.nm cs N sc b y) = true := h
    obtain ⟨h, h4⟩ := and_t h
    obtain ⟨h, h3⟩ := and_t h
    obtain ⟨h1, h2⟩ := and_t h
    refine PS.weak (ps_if ((sndE G C cs N k c).2 h1 sc z X XW true h2 so.xo hsc) (ha sc x X XW h3 so hsc) (hb sc y X XW h4 so hsc)) fun D σ H q => ?_
    obtain ⟨w, w0, env, ks, rfl, fi, q⟩ := q
    refine ⟨w, w0, env, rfl, fi.ok, fi.en, (q.bind.sat fi.ex).imp fun r w1 ⟨e1, ok1, h1⟩ => ?_⟩
    obtain ⟨d, hd, h2⟩ := h1.bind.of_
    refine ⟨d, bl_of hd, ?_⟩
    cases d with
    | true => exact iteT ⟨w1, w0, env, ks, rfl, fi.step e1 ok1, h2⟩
    | false => exact iteF ⟨w1, w0, env, ks, rfl, fi.step e1 ok1, h2⟩
  | _ => cases (show false = true from h)
/-! ### blocks -/
theorem gss_nil : GoodSs G C cs N k .nil := by
  intro sc asts X XW h so hsc
  match asts, h with
  | [], h =>
    refine PSs.weak pss_nil fun D σ H q => ?_
    obtain ⟨w, w0, env, ks, rfl, fi, q⟩ := q
    exact q w σ rfl fi
  | _ :: _, h => cases (show false = true from h)
theorem gss_frz (i : Nat) {ss : Ss F} (hs : GoodSs G C cs N k ss) : GoodSs G C cs N k (.cons (.frz i) ss) := by
  intro sc asts X XW h so hsc
  replace h : okSs G.nm cs N sc ss asts = true := h
  refine PSs.weak (hs sc asts X XW h so hsc) fun D σ H q => ?_
  obtain ⟨w, w0, env, ks, rfl, fi, q⟩ := q
  have q : SatX X.K w0 ((match env[i]? with
    | some (.own l) => Rs.ok (Fl.nx, env.set i (.v (.lst l))) w.st
    | _ => .stuck).bind fun p s => match p.1 with
      | .nx => exs C p.2 ss s
      | .rt r => .ok (.rt r, p.2) s) (EndS X.K w0 ks D) (xq G XW) := q
  split at q
  · rename_i l hi
    obtain ⟨a, vs, z1, _⟩ := fi.en.own i l hi
    obtain ⟨f2, r2⟩ := fi.free hi z1
    have f3 := f2.set i r2
    rw [List.set_set] at f3
    have li : i < σ.length := (List.getElem?_eq_some_iff.mp z1).1
    have e : σ.set i (some (.ref a)) = σ := by
      refine List.ext_getElem? fun j => ?_
      by_cases z : i = j
      · subst z
        rw [List.getElem?_set_self li, z1]
      · rw [List.getElem?_set_ne z]
    rw [e] at f3
    exact ⟨w.fr a, w0, _, ks, rfl, f3, q⟩
  · exact (q : False).elim
theorem gss_cons {s : S F} {ss : Ss F} (hf : ∀ i, s ≠ .frz i) (h1 : GoodS G C cs N k s) (hs : GoodSs G C cs N k ss) : GoodSs G C cs N k (.cons s ss) := by
  intro sc asts X XW h so hsc
  match asts, h with
  | [], h => cases s <;> first | (cases (show false = true from h)) | exact (hf _ rfl).elim
  | x :: xs, h =>
    have h : (okS G.nm cs N sc s x && okSs G.nm cs N sc ss xs) = true := by
      cases s <;> first | exact h | exact (hf _ rfl).elim
    obtain ⟨g1, g2⟩ := and_t h
    refine PSs.weak (pss_cons (h1 sc x X XW g1 so hsc) (hs sc xs X XW g2 so hsc)) fun D σ H q => ?_
    obtain ⟨w, w0, env, ks, rfl, fi, q⟩ := q
    refine ⟨w, w0, env, ks, rfl, fi, (SatX.bind q).imp fun p s h => ?_⟩
    obtain ⟨fl, env'⟩ := p
    cases fl with
    | nx => exact fun w' σ' hs' fi' => ⟨w', w0, env', ks, rfl, fi', by rw [hs']; exact h⟩
    | rt r => exact h
end
end EV

set_option maxRecDepth 100000
set_option maxHeartbeats 2000000
namespace EV
open PySem PySem.Spec PyProof.Rows L2 RT RZ
section
variable {F : Type} {G : Glo F} {C : Cf F} {cs : List (Str × Const)} {N : List Str} {k : Nat}
theorem gs_for (t : Tg) (it : It F) {b : Ss F} (hb : GoodSs G C cs N k b) : GoodS G C cs N k (.for_ t it b) := by
  intro sc ast X XW h so hsc
  cases ast with
  | For tg iter body els p =>
    cases els with
    | cons _ _ => cases (show false = true from h)
    | nil =>
      replace h : (tgB N true sc t tg && okI G.nm cs N sc it iter && okSs G.nm cs N sc b body && itTg it tg) = true := h
      obtain ⟨h, h4⟩ := and_t h
      obtain ⟨h, h3⟩ := and_t h
      obtain ⟨h1, h2⟩ := and_t h
      subst hsc
      refine PS.weak (ps_for so.hp so.xo.hc (sndI G C cs N k it _ tg iter X XW true h2 h4 so.xo rfl) (tg_pg so.xo h1) (hb _ body X XW h3 so rfl) (fun x => okI_iter h2 X.env x)) fun D σ H q => ?_
      obtain ⟨w, w0, env, ks, rfl, fi, q⟩ := q
      have q : SatX X.K w0 ((evi C env it w.st).bind fun l s => forL (fun env x s => (Rs.of (setT env t x) s).bind fun env s => exs C env b s) l env s) (EndS X.K w0 ks D) (xq G XW) := q
      refine ⟨w, w0, env, rfl, fi.ok, fi.en, (q.bind.sat fi.ex).imp fun l w1 ⟨e1, ok1, h1⟩ w2 ks2 J eS e2 ok2 kv wa => ?_⟩
      obtain ⟨Gp, Y, wk, wG, wI⟩ := wa
      rw [← eS] at h1
      generalize hf : (fun (env : Env) (x : AV) (s : Sto) => (Rs.of (setT env t x) s).bind fun env s => exs C env b s) = f at h1
      refine for_it wk (fun i σ H => ∃ wi envi, wi.H = H ∧ FI X.K w0 wi envi σ (ks2 ++ ks) ∧ SatX X.K w0 (forL f (l.drop i) envi wi.st) (EndS X.K w0 ks D) (xq G XW)) ?_ ?_ ?_ ?_
      · have f2 := fi.step e2 ok2
        exact ⟨w2, env, rfl, ⟨f2.d0, f2.ex, f2.ok, f2.en, fun p hp => (List.mem_append.mp hp).elim (kv p) (f2.kv p)⟩, h1⟩
      · rintro i σ H hi ⟨wi, envi, rfl, fii, _⟩
        exact wG wi fii.ok fun p hp => fii.kv p (List.mem_append_left _ hp)
      · rintro i x σ H H' hi ⟨wi, envi, rfl, fii, sat⟩ y
        obtain ⟨a, w3, ha, rfl, eS3, e4, ok4, rx⟩ := wI i x H' wi hi fii.ok (fun p hp => fii.kv p (List.mem_append_left _ hp)) y
        have hdrop : l.drop i = a :: l.drop (i + 1) := by
          obtain ⟨hlt, hget⟩ := List.getElem?_eq_some_iff.mp ha
          rw [List.drop_eq_getElem_cons hlt, hget]
        rw [hdrop] at sat
        have hfa : f envi a wi.st = (Rs.of (setT envi t a) wi.st).bind fun env s => exs C env b s := by rw [← hf]
        replace sat : SatX X.K w0 ((f envi a wi.st).bind fun p s => match p.1 with
          | .nx => forL f (l.drop (i + 1)) p.2 s
          | .rt r => .ok (.rt r, p.2) s) (EndS X.K w0 ks D) (xq G XW) := sat
        rw [hfa] at sat
        cases hs : setT envi t a with
        | none => rw [hs] at sat; exact (sat : False).elim
        | some env1 =>
          rw [hs, ← eS3] at sat
          have f3 := fii.step e4 ok4
          refine gT_ok hs f3.en rx fun σ' en' _ => ?_
          have sat : SatX X.K w0 ((exs C env1 b w3.st).bind fun p s => match p.1 with
            | .nx => forL f (l.drop (i + 1)) p.2 s
            | .rt r => .ok (.rt r, p.2) s) (EndS X.K w0 ks D) (xq G XW) := sat
          refine ⟨w3, w0, env1, ks2 ++ ks, rfl, ⟨f3.d0, f3.ex, f3.ok, en', f3.kv⟩, (SatX.bind sat).imp fun p s h => ?_⟩
          obtain ⟨fl, env'⟩ := p
          cases fl with
          | nx => exact fun w' σ'' hs' fi' => ⟨w', env', rfl, fi', by rw [hs']; exact h⟩
          | rt r => exact h
      · rintro σ H ⟨wi, envi, rfl, fii, sat⟩
        rw [List.drop_length] at sat
        exact sat wi σ rfl ⟨fii.d0, fii.ex, fii.ok, fii.en, fun p hp => fii.kv p (List.mem_append_right _ hp)⟩
  | _ => cases (show false = true from h)
theorem gs_frz (i : Nat) : GoodS G C cs N k (.frz i) := by
  intro sc ast X XW h so hsc
  cases ast <;> cases (show false = true from h)
mutual
theorem sndS (G : Glo F) (C : Cf F) (cs : List (Str × Const)) (N : List Str) (k : Nat) : ∀ s : S F, GoodS G C cs N k s
  | .set i e => gs_set i e
  | .own i e => gs_own i e
  | .heap i e => gs_heap i e
  | .unp is e => gs_unp is e
  | .mv i j => gs_mv i j
  | .frz i => gs_frz i
  | .app i e => gs_app i e
  | .ext i e => gs_ext i e
  | .putO i k e => gs_putO i k e
  | .putL a k e => gs_putL a k e
  | .appL a e => gs_appL a e
  | .expr e => gs_expr e
  | .ret e => gs_ret e
  | .retV i => gs_retV i
  | .retN => gs_retN
  | .ife c a b => gs_ife c (sndSs G C cs N k a) (sndSs G C cs N k b)
  | .for_ t it b => gs_for t it (sndSs G C cs N k b)
  | .never => gs_never
theorem sndSs (G : Glo F) (C : Cf F) (cs : List (Str × Const)) (N : List Str) (k : Nat) : ∀ s : Ss F, GoodSs G C cs N k s
  | .nil => gss_nil
  | .cons (.frz i) ss => gss_frz i (sndSs G C cs N k ss)
  | .cons (.set i e) ss => gss_cons (fun _ z => nomatch z) (gs_set i e) (sndSs G C cs N k ss)
  | .cons (.own i e) ss => gss_cons (fun _ z => nomatch z) (gs_own i e) (sndSs G C cs N k ss)
  | .cons (.heap i e) ss => gss_cons (fun _ z => nomatch z) (gs_heap i e) (sndSs G C cs N k ss)
  | .cons (.unp is e) ss => gss_cons (fun _ z => nomatch z) (gs_unp is e) (sndSs G C cs N k ss)
  | .cons (.mv i j) ss => gss_cons (fun _ z => nomatch z) (gs_mv i j) (sndSs G C cs N k ss)
  | .cons (.app i e) ss => gss_cons (fun _ z => nomatch z) (gs_app i e) (sndSs G C cs N k ss)
  | .cons (.ext i e) ss => gss_cons (fun _ z => nomatch z) (gs_ext i e) (sndSs G C cs N k ss)
  | .cons (.putO i x e) ss => gss_cons (fun _ z => nomatch z) (gs_putO i x e) (sndSs G C cs N k ss)
  | .cons (.putL a x e) ss => gss_cons (fun _ z => nomatch z) (gs_putL a x e) (sndSs G C cs N k ss)
  | .cons (.appL a e) ss => gss_cons (fun _ z => nomatch z) (gs_appL a e) (sndSs G C cs N k ss)
  | .cons (.expr e) ss => gss_cons (fun _ z => nomatch z) (gs_expr e) (sndSs G C cs N k ss)
  | .cons (.ret e) ss => gss_cons (fun _ z => nomatch z) (gs_ret e) (sndSs G C cs N k ss)
  | .cons (.retV i) ss => gss_cons (fun _ z => nomatch z) (gs_retV i) (sndSs G C cs N k ss)
  | .cons .retN ss => gss_cons (fun _ z => nomatch z) gs_retN (sndSs G C cs N k ss)
  | .cons (.ife c a b) ss => gss_cons (fun _ z => nomatch z) (gs_ife c (sndSs G C cs N k a) (sndSs G C cs N k b)) (sndSs G C cs N k ss)
  | .cons (.for_ t it b) ss => gss_cons (fun _ z => nomatch z) (gs_for t it (sndSs G C cs N k b)) (sndSs G C cs N k ss)
  | .cons .never ss => gss_cons (fun _ z => nomatch z) gs_never (sndSs G C cs N k ss)
end
end
end EV

set_option maxRecDepth 100000
set_option maxHeartbeats 2000000
namespace EV
open PySem PySem.Spec PyProof.Rows L2 RT RZ
section
variable {F : Type}
/-- what the kernel checks of one def -/
def defOk (nm : F → Str) (cs : List (Str × Const)) (ps N : List Str) (sc : Scope) (fn : Fn F) (body : List Stmt) : Bool :=
  decide (sc.kind = .function) && !sc.isCoroutine && !sc.isGenerator && decide N.Nodup && decide (N.take ps.length = ps)
  && (ps.all fun x => decide (sc.names.lookup x = some .local) || decide (sc.names.lookup x = some .cell))
  && (sc.names.all fun y => !decide (y.2 = .free))
  && decide (fn.ps = ps.length) && decide (fn.ns = N.length) && okSs nm cs N sc fn.body body
theorem defOk_sc {nm : F → Str} {cs : List (Str × Const)} {ps N : List Str} {sc : Scope} {fn : Fn F} {body : List Stmt} (h : defOk nm cs ps N sc fn body = true) : FnScope N ps sc ∧ fn.ps = ps.length ∧ fn.ns = N.length ∧ okSs nm cs N sc fn.body body = true := by
  unfold defOk at h
  obtain ⟨h, h10⟩ := and_t h
  obtain ⟨h, h9⟩ := and_t h
  obtain ⟨h, h8⟩ := and_t h
  obtain ⟨h, h7⟩ := and_t h
  obtain ⟨h, h6⟩ := and_t h
  obtain ⟨h, h5⟩ := and_t h
  obtain ⟨h, h4⟩ := and_t h
  obtain ⟨h, h3⟩ := and_t h
  obtain ⟨h1, h2⟩ := and_t h
  refine ⟨⟨of_decide_eq_true h1, not_f h2, not_f h3, of_decide_eq_true h4, of_decide_eq_true h5, fun x hx => ?_, fun y hy e => ?_⟩, of_decide_eq_true h8, of_decide_eq_true h9, h10⟩
  · have := List.all_eq_true.mp h6 x hx
    rcases Bool.or_eq_true_iff.mp this with q | q
    · exact .inl (of_decide_eq_true q)
    · exact .inr (of_decide_eq_true q)
  · have := List.all_eq_true.mp h7 y hy
    rw [decide_eq_true e] at this
    cases this
theorem rep_no {m j : Nat} {x : Sl} (h : (List.replicate m Sl.no)[j]? = some x) : x = .no := (List.mem_replicate.mp (List.mem_of_getElem? h)).2
/-- a def's entry -/
theorem enter {K : PySem.W.Frag} {w : Wd} {N : List Str} {l : List AV} {vs : List V} {n : Nat} (h : RWs K w l vs) (hn : n = N.length) (hl : vs.length ≤ N.length) : REnv K w w (l.map .v ++ List.replicate (n - vs.length) .no) (L2.start N vs) := by
  have hlen := h.length
  refine ⟨by unfold L2.start; simp [hn, hlen], fun i a q => ?_, fun i m q => ?_, fun i j m m' a q _ _ _ => ?_⟩
  · by_cases hi : i < (l.map Sl.v).length
    · rw [List.getElem?_append_left hi] at q
      rw [List.getElem?_map] at q
      cases e : l[i]? with
      | none => rw [e] at q; cases q
      | some b =>
        rw [e] at q
        cases q
        obtain ⟨v, h1, h2⟩ := h.get e
        refine ⟨v, ?_, h2⟩
        unfold L2.start
        rw [List.getElem?_append_left (by rw [List.length_map]; exact (List.getElem?_eq_some_iff.mp h1).1), List.getElem?_map, h1]
        rfl
    · rw [List.getElem?_append_right (Nat.le_of_not_lt hi)] at q
      cases rep_no q
  · by_cases hi : i < (l.map Sl.v).length
    · rw [List.getElem?_append_left hi, List.getElem?_map] at q
      cases e : l[i]? with
      | none => rw [e] at q; cases q
      | some b => rw [e] at q; cases q
    · rw [List.getElem?_append_right (Nat.le_of_not_lt hi)] at q
      cases rep_no q
  · by_cases hi : i < (l.map Sl.v).length
    · rw [List.getElem?_append_left hi, List.getElem?_map] at q
      cases e : l[i]? with
      | none => rw [e] at q; cases q
      | some b => rw [e] at q; cases q
    · rw [List.getElem?_append_right (Nat.le_of_not_lt hi)] at q
      cases rep_no q
end
section
variable {F : Type} {P : Program} {w : World} {K : PySem.W.Frag} {mg : Str → Option Value} {base : Heap} {cs : List (Str × Const)}
/-- the defs of a row, each by its text -/
structure Tab (F : Type) where
  st : F → Stmt
  nm : F → Str
  ps : F → List Str
  N : F → List Str
  tb : F → Fn F
theorem call_len {F : Type} (tb : F → Fn F) (d : Nat) (f : F) (l : List AV) (s : Sto) (h : call tb d f l s ≠ .stuck) : l.length = (tb f).ps := by
  cases d with
  | zero => exact absurd rfl h
  | succ d =>
    refine Decidable.byContradiction fun q => h ?_
    unfold call
    rw [if_neg q]
theorem fnsOk (T : Tab F) (G : Glo F) (hps : ∀ f, G.ps f = T.ps f) (hnm : ∀ f, G.nm f = T.nm f)
    (chk : ∀ f, defOk T.nm cs (T.ps f) (T.N f) (L2.defScope (T.st f)) (T.tb f) (L2.defBody (T.st f)) = true)
    (hF : ∀ f, FunD K (T.nm f) (T.nm f) (L2.defArgs (T.st f)) (L2.defBody (T.st f)) (L2.defScope (T.st f)) [] [] (G.adr f) (G.fd f))
    (mgf : ∀ f, mg (T.nm f) = some (.ref (G.adr f)))
    (bd : ∀ f, Binds K (G.fd f) (T.ps f) [])
    (blt : ∀ x ∈ bNames, mg x = none)
    (cst : ∀ x c, cs.lookup x = some c → (∃ i t, c = .int i ∧ mg x = some (.int i t)) ∨ ∃ y t, c = .str y ∧ mg x = some (.str y t)) :
    ∀ (d : Nat) (f : F), FnOk P w K mg base (L2.CX P w) d (G.adr f) (G.fd f) (G.ps f) (spF K G (call T.tb d) f)
  | 0, f => ⟨fun vs H Q E h => h.1, fun A outer s H args us vs Q E hr he hb hv h => by
      obtain ⟨_, w0, l, rfl, ok, rw_, sat⟩ := h
      exact (sat : False).elim⟩
  | d + 1, f => by
    have IH := fnsOk T G hps hnm chk hF mgf bd blt cst d
    obtain ⟨hs, h1, h2, h3⟩ := defOk_sc (chk f)
    have hnm' : G.nm = T.nm := funext hnm
    rw [hps f]
    refine (hF f).ok hs (fun vs H Q E h => by rw [← hps f]; exact h.1) fun cdv A outer s H vs Q E hr h => ?_
    refine ⟨_, sndSs G (call T.tb d) cs (T.N f) d (T.tb f).body (L2.defScope (T.st f)) _ _ E (by rw [hnm']; exact h3) ⟨⟨rfl, rfl, hs.nd, hr, takes_of rfl rfl rfl rfl, IH, fun g => by rw [hnm']; exact mgf g, fun g => (hF g).kp, fun g => by rw [hps g]; exact bd g, fun g l s q => by rw [hps g, ← (defOk_sc (chk g)).2.1]; exact call_len _ _ _ _ _ q, blt, cst, fun _ _ => rfl⟩, passes_of rfl⟩ rfl, ?_⟩
    obtain ⟨hl, w0, l, rfl, ok, rws, sat⟩ := h
    rw [hps f] at hl
    have hlen := rws.length
    have hlen' : l.length = (T.tb f).ps := by rw [hlen, hl, h1]
    have ec : call T.tb (d + 1) f l w0.st = (exs (call T.tb d) (l.map .v ++ List.replicate ((T.tb f).ns - (T.tb f).ps) .no) (T.tb f).body w0.st).bind fun p s => match p.1 with
      | .nx => .ok (.v .non) s
      | .rt r => .ok r s := by
      show (if l.length = (T.tb f).ps then _ else _) = _
      exact (if_pos hlen').trans rfl
    rw [ec] at sat
    have hpre : (T.ps f).length ≤ (T.N f).length := by
      have := congrArg List.length hs.pre
      rw [List.length_take] at this
      omega
    refine ⟨w0, w0, _, [], rfl, ⟨ok.dom, Ext.refl w0, ok, enter (n := (T.tb f).ns) rws h2 (by rw [hl]; exact hpre), fun _ h => by cases h⟩, ?_⟩
    rw [hl, ← h1]
    generalize hx : exs (call T.tb d) (l.map .v ++ List.replicate ((T.tb f).ns - (T.tb f).ps) .no) (T.tb f).body w0.st = r at sat
    cases r with
    | stuck => exact sat
    | exc c fs s => exact sat
    | ok p s =>
      obtain ⟨fl, env⟩ := p
      cases fl with
      | nx => exact fun w' σ' hs' fi => sat w' hs' fi.ex fi.ok _ RA.non
      | rt r => exact fun w' v hs' e ok' rr => sat w' hs' e ok' v rr
end
end EV

set_option maxRecDepth 100000
set_option maxHeartbeats 2000000
namespace EV
open PySem PySem.Spec PyProof.Rows L2
def mkD (x : Str) (s : Stmt) : He.DefD := ⟨(x, none), x, x, defArgs s, defBody s, defScope s, [], []⟩
section
variable {F : Type} {fa : List He.Fa} {fn : List He.DefD} {cs : List (Str × Const)}
theorem lookup_mem {A : Type} {x : Str} {a : A} : ∀ {l : List (Str × A)}, l.lookup x = some a → (x, a) ∈ l
  | (y, b) :: l, h => by
    unfold List.lookup at h
    split at h
    · rename_i e
      have := eq_of_beq e
      subst this
      cases h
      exact List.mem_cons_self ..
    · exact List.mem_cons_of_mem _ (lookup_mem h)
/-- the law's plain law at its start -/
theorem sp_law {K : PySem.W.Frag} {G : Glo F} {C : Cf F} {f : F} (hl : (G.ps f).length = 1) {ns : List Int} (h : ∃ s, C f [.scr ns] ⟨0, []⟩ = .ok (.v (.bl true)) s) {H : Hp} {a : Addr} (hO : Only H) (hS : SqL K H a (ns.map V.int)) :
    spF K G C f [.ref a] H (fun v _ => v = .bl true) fun _ _ _ => False := by
  obtain ⟨s, e⟩ := h
  have hs : ScrAt K H a (ns.map V.int) := by
    rcases hS with (h | h) | h
    · rcases hO a with q | ⟨o, xs, q⟩
      · rw [h] at q; cases q
      · rw [h] at q; cases q
    · exact .inl h
    · exact .inr h
  refine ⟨hl.symm, ⟨[], [], ⟨0, []⟩, H⟩, [.scr ns], rfl, ⟨fun _ h => by simp at h, fun _ h => by simp at h, by simp, rfl, fun n o a h => by simp at h⟩, .cons (.scr hs) .nil, ?_⟩
  rw [e]
  intro w' _ _ _ v hv
  cases hv
  rfl
def CXA : CXT := fun outer H s E u s' => ∃ (P : Program) (w : World), L2.CX P w outer H s E u s'
theorem cx_no (H : Hp) (s : Shared) (e : Value) (s' : Shared) (h : CXA [] H s (fun _ _ _ => False) e s') : False := by
  obtain ⟨_, _, _, _, _, _, _, _, _, _, _, _, _, _, q⟩ := h
  exact q
theorem fn_cx {P : Program} {w : World} {K : PySem.W.Frag} {mg : Str → Option Value} {base : Heap} {k : Nat} {f : Addr} {fd : FuncData} {ps : List Str} {sp : Sp} (h : FnOk P w K mg base (L2.CX P w) k f fd ps sp) : FnOk P w K mg base CXA k f fd ps sp :=
  ⟨h.len, fun A outer s H args us vs Q E hr he hb hv q => codeAny_mono (h.run A outer s H args us vs Q E hr he hb hv q) fun r s' x => by
    cases r with
    | ok z => cases z <;> exact x
    | error e => exact ⟨P, w, x⟩⟩
theorem facts (T : Tab F) (law : F) (k : Nat) {P : Program} {w : World} {K : PySem.W.Frag} {h : Heap} {mg : Str → Option Value} {f : Addr} (X : K.In h) (G : h.Ns mainGlobals mg) (hfa : mg (T.nm law) = some (.ref f)) (c : He.SaysD fa fn K)
    (chk : ∀ f, defOk T.nm cs (T.ps f) (T.N f) (L2.defScope (T.st f)) (T.tb f) (L2.defBody (T.st f)) = true)
    (hfn : ∀ f, ∃ i : Nat, fn[i]? = some (mkD (T.nm f) (T.st f)))
    (hgl : ∀ f, ∃ i : Nat, fa[i]? = some (.glo (T.nm f)))
    (hfr : ∀ x ∈ bNames, ∃ i : Nat, fa[i]? = some (.free x))
    (hcs : ∀ p ∈ cs, ∃ i : Nat, (∃ n, p.2 = .int n ∧ fa[i]? = some (.int p.1 n)) ∨ ∃ y, p.2 = .str y ∧ fa[i]? = some (.str p.1 y))
    (hb : ∀ (f : F) (kV doc pm : Value) (an : Option Addr) (cdv ct : Value) (us : List Value), us.length = (T.ps f).length → bindArgs (PySem.W.fnOf (T.nm f) (T.nm f) (L2.defArgs (T.st f)) (L2.defBody (T.st f)) (L2.defScope (T.st f)) .none kV doc pm an cdv ct) ⟨us, []⟩ = pure ((T.ps f).zip us)) :
    ∃ (G : Glo F) (fd : FuncData), (∀ f, G.ps f = T.ps f) ∧ (∀ (s : Shared) (us : List Value), us.length = (T.ps law).length → BindsTo s fd ⟨us, []⟩ ((T.ps law).zip us)) ∧ ∀ base : Heap, K.In base → base.Ns mainGlobals mg → FnOk P w K mg base CXA k f fd (T.ps law) (spF K G (call T.tb k) law) := by
  have h1 : ∀ g : F, ∃ fd, FunD K (T.nm g) (T.nm g) (L2.defArgs (T.st g)) (L2.defBody (T.st g)) (L2.defScope (T.st g)) [] [] (He.ga K (T.nm g)) fd := fun g => by
    obtain ⟨i, hi⟩ := hfn g
    exact c.def_ i hi
  obtain ⟨fd, hF⟩ := Classical.skolem.mp h1
  have hgo : ∀ g, mg (T.nm g) = some (.ref (He.ga K (T.nm g))) := fun g => by
    obtain ⟨i, hi⟩ := hgl g
    exact He.glo_ok X G (c.fact i hi)
  have e := hfa.symm.trans (hgo law)
  cases e
  refine ⟨⟨fun g => He.ga K (T.nm g), fd, T.ps, T.nm, fun _ => 0⟩, fd law, fun _ => rfl, (hF law).bindsA (hb law), fun base _ _ => ?_⟩
  exact fn_cx <| fnsOk (cs := cs) T ⟨fun g => He.ga K (T.nm g), fd, T.ps, T.nm, fun _ => 0⟩ (fun _ => rfl) (fun _ => rfl) chk hF hgo (fun g => (hF g).bindsN (hb g)) (fun x hx => by
    obtain ⟨i, hi⟩ := hfr x hx
    exact He.free_ok X G (c.fact i hi)) (fun x d hd => by
    obtain ⟨i, ⟨n, e, hi⟩ | ⟨y, e, hi⟩⟩ := hcs (x, d) (lookup_mem hd)
    · obtain ⟨t, ht⟩ := He.int_ok X G (c.fact i hi)
      exact .inl ⟨n, t, e, ht⟩
    · obtain ⟨t, ht⟩ := He.str_ok X G (c.fact i hi)
      exact .inr ⟨y, t, e, ht⟩) k law
end
end EV

set_option maxRecDepth 100000
set_option maxHeartbeats 2000000
namespace EV
open PySem PySem.Spec
section
variable {F : Type} {C : Cf F} {env : Env} {s : Sto}
/-! ### one step each -/
@[simp] theorem e_var (i : Nat) : ev C env (.var i) s = .of (rd env i) s := id rfl
@[simp] theorem e_cst (c : AV) : ev C env (.cst c) s = .ok (.v c) s := id rfl
@[simp] theorem e_glb (x : Str) (c : AV) : ev C env (.glb x c) s = .ok (.v c) s := id rfl
@[simp] theorem e_tup (es : Es F) : ev C env (.tup es) s = (evs C env es s).bind fun rs s => .of ((toAs rs).bind fun l => if l.length ≤ sizeLine then some (.v (.tup l)) else none) s := id rfl
@[simp] theorem e_lst (es : Es F) : ev C env (.lst es) s = (evs C env es s).bind fun rs s => .of ((toAs rs).bind fun l => if l.length ≤ sizeLine then some (.tl l) else none) s := id rfl
@[simp] theorem e_bin (o : Bop) (a b : E F) : ev C env (.bin o a b) s = (ev C env a s).bind fun x s => (ev C env b s).bind fun y s => .of (binR s o (fz x) (fz y)) s := id rfl
@[simp] theorem e_cmp (o : Cop) (a b : E F) : ev C env (.cmp o a b) s = (ev C env a s).bind fun x s => (ev C env b s).bind fun y s => .of ((cmpR s o (fz x) (fz y)).map fun k => .v (.bl k)) s := id rfl
@[simp] theorem e_ch2 (o p : Cop) (a b c : E F) : ev C env (.ch2 o p a b c) s = (ev C env a s).bind fun x s => (ev C env b s).bind fun y s => (Rs.of (cmpR s o (fz x) (fz y)) s).bind fun k s => match k with
    | false => .ok (.v (.bl false)) s
    | true => (ev C env c s).bind fun z s => .of ((cmpR s p (fz y) (fz z)).map fun k => .v (.bl k)) s := id rfl
@[simp] theorem e_ch3 (o p q : Cop) (a b c d : E F) : ev C env (.ch3 o p q a b c d) s = (ev C env a s).bind fun x s => (ev C env b s).bind fun y s => (Rs.of (cmpR s o (fz x) (fz y)) s).bind fun k s => match k with
    | false => .ok (.v (.bl false)) s
    | true => (ev C env c s).bind fun z s => (Rs.of (cmpR s p (fz y) (fz z)) s).bind fun k s => match k with
      | false => .ok (.v (.bl false)) s
      | true => (ev C env d s).bind fun u s => .of ((cmpR s q (fz z) (fz u)).map fun k => .v (.bl k)) s := id rfl
@[simp] theorem e_and (es : Es F) : ev C env (.and es) s = evAnd C env es s := id rfl
@[simp] theorem e_or (es : Es F) : ev C env (.or es) s = evOr C env es s := id rfl
@[simp] theorem e_not (a : E F) : ev C env (.not a) s = (ev C env a s).bind fun x s => .of ((bl? x).map fun k => .v (.bl (!k))) s := id rfl
@[simp] theorem e_ife (c a b : E F) : ev C env (.ife c a b) s = (ev C env c s).bind fun x s => (Rs.of (bl? x) s).bind fun k s => match k with
    | true => ev C env a s
    | false => ev C env b s := id rfl
@[simp] theorem e_sub (a i : E F) : ev C env (.sub a i) s = (ev C env a s).bind fun x s => (ev C env i s).bind fun y s => .of (subR s (fz x) (fz y)) s := id rfl
@[simp] theorem e_slc (a : E F) (lo hi : OE F) : ev C env (.slc a lo hi) s = (ev C env a s).bind fun x s => (evo C env lo s).bind fun l s => (evo C env hi s).bind fun h s => .of (slcR s (fz x) l h) s := id rfl
@[simp] theorem e_isi (a : E F) (t : Ty) : ev C env (.isi a t) s = (ev C env a s).bind fun x s => .of ((kdOf s x).map fun d => .v (.bl (kdOk d t))) s := id rfl
@[simp] theorem e_isis (a : E F) (ts : List Ty) : ev C env (.isis a ts) s = (ev C env a s).bind fun x s => .of ((kdOf s x).map fun d => .v (.bl (ts.any fun t => kdOk d t))) s := id rfl
@[simp] theorem e_bi (f : Bi) (es : Es F) : ev C env (.bi f es) s = (evs C env es s).bind fun rs s => .of (biR s f rs) s := id rfl
@[simp] theorem e_call (f : F) (es : Es F) : ev C env (.call f es) s = (evs C env es s).bind fun rs s => (Rs.of (toAs rs) s).bind fun l s => C f l s := id rfl
def lcF (C : Cf F) (env : Env) (t : Tg) (c : OE F) (e : E F) : AV → Sto → Rs (Option AV) := fun x s => (Rs.of (setT (wipeT env t) t x) s).bind fun env1 s => noX ((evc C env1 c s).bind fun k s => match k with
      | false => .ok none s
      | true => (ev C env1 e s).bind fun r s => (Rs.of (toA (fz r)) s).bind fun a s => .ok (some a) s)
@[simp] theorem e_lc (t : Tg) (it : It F) (c : OE F) (e : E F) : ev C env (.lc t it c e) s = (evi C env it s).bind fun l s => (lcL (lcF C env t c e) [] l s).bind fun l s => .ok (.tl l) s := id rfl
@[simp] theorem es_nil : evs C env .nil s = .ok [] s := id rfl
@[simp] theorem es_cons (e : E F) (es : Es F) : evs C env (.cons e es) s = (ev C env e s).bind fun r s => (evs C env es s).bind fun l s => .ok (fz r :: l) s := id rfl
@[simp] theorem eo_none : evo C env .none s = .ok none s := id rfl
@[simp] theorem eo_some (e : E F) : evo C env (.some e) s = (ev C env e s).bind fun r s => match r with
    | .v (.int i) => .ok (some i) s
    | _ => .stuck := id rfl
@[simp] theorem ec_none : evc C env .none s = .ok true s := id rfl
@[simp] theorem ec_some (e : E F) : evc C env (.some e) s = (ev C env e s).bind fun r s => .of (bl? r) s := id rfl
@[simp] theorem ea_one (e : E F) : evAnd C env (.cons e .nil) s = (ev C env e s).bind fun r s => .of ((bl? r).map fun k => .v (.bl k)) s := id rfl
@[simp] theorem ea_cons (e a : E F) (es : Es F) : evAnd C env (.cons e (.cons a es)) s = (ev C env e s).bind fun x s => (Rs.of (bl? x) s).bind fun k s => match k with
    | true => evAnd C env (.cons a es) s
    | false => .ok (.v (.bl false)) s := id rfl
@[simp] theorem eor_one (e : E F) : evOr C env (.cons e .nil) s = (ev C env e s).bind fun r s => .of ((bl? r).map fun k => .v (.bl k)) s := id rfl
@[simp] theorem eor_cons (e a : E F) (es : Es F) : evOr C env (.cons e (.cons a es)) s = (ev C env e s).bind fun x s => (Rs.of (bl? x) s).bind fun k s => match k with
    | true => .ok (.v (.bl true)) s
    | false => evOr C env (.cons a es) s := id rfl
@[simp] theorem ei_seq (e : E F) : evi C env (.seq e) s = (ev C env e s).bind fun x s => .of ((toA (fz x)).bind itV) s := id rfl
@[simp] theorem ei_rng (n : Nat) (es : Es F) : evi C env (.rng n es) s = (evs C env es s).bind fun rs s => .of (rngR n rs) s := id rfl
@[simp] theorem ei_rev (a : E F) : evi C env (.rev a) s = (ev C env a s).bind fun x s => .of ((toA (fz x)).bind fun a => (seqV a).map List.reverse) s := id rfl
@[simp] theorem ei_zip (es : Es F) : evi C env (.zip es) s = (evs C env es s).bind fun rs s => .of (zipR rs) s := id rfl
@[simp] theorem ei_enum (es : Es F) : evi C env (.enum es) s = (evs C env es s).bind fun rs s => .of (enumR rs) s := id rfl
@[simp] theorem x_set (i : Nat) (e : E F) : ex C env (.set i e) s = (ev C env e s).bind fun r s => (Rs.of (toA (fz r)) s).bind fun a s => .ok (.nx, env.set i (.v a)) s := id rfl
@[simp] theorem x_own (i : Nat) (e : E F) : ex C env (.own i e) s = (ev C env e s).bind fun r s => match r with
    | .tl l => .ok (.nx, env.set i (.own l)) s
    | _ => .stuck := id rfl
@[simp] theorem x_heap (i : Nat) (e : E F) : ex C env (.heap i e) s = (ev C env e s).bind fun r s => match r with
    | .tl l => .ok (.nx, env.set i (.v (.loc s.ob.length))) { s with ob := s.ob ++ [.lst l] }
    | _ => .stuck := id rfl
@[simp] theorem x_unp (is : List Nat) (e : E F) : ex C env (.unp is e) s = (ev C env e s).bind fun r s => match r with
    | .v (.tup l) => if is.length = l.length then .ok (.nx, (is.zip l).foldl (fun e p => e.set p.1 (.v p.2)) env) s else .stuck
    | _ => .stuck := id rfl
@[simp] theorem x_mv (i j : Nat) : ex C env (.mv i j) s = match env[j]? with
    | some (.own l) => .ok (.nx, (env.set j .no).set i (.v (.lst l))) s
    | _ => .stuck := id rfl
@[simp] theorem x_frz (i : Nat) : ex C env (.frz i) s = match env[i]? with
    | some (.own l) => .ok (.nx, env.set i (.v (.lst l))) s
    | _ => .stuck := id rfl
@[simp] theorem x_app (i : Nat) (e : E F) : ex C env (.app i e) s = match env[i]? with
    | some (.own l) => (ev C env e s).bind fun r s => (Rs.of (toA (fz r)) s).bind fun a s => if l.length < sizeLine then .ok (.nx, env.set i (.own (l ++ [a]))) s else .stuck
    | _ => .stuck := id rfl
@[simp] theorem x_ext (i : Nat) (e : E F) : ex C env (.ext i e) s = match env[i]? with
    | some (.own l) => (ev C env e s).bind fun r s => match fz r with
      | .v (.lst m) => if l.length + m.length ≤ sizeLine then .ok (.nx, env.set i (.own (l ++ m))) s else .stuck
      | _ => .stuck
    | _ => .stuck := id rfl
@[simp] theorem x_putO (i : Nat) (k e : E F) : ex C env (.putO i k e) s = (ev C env e s).bind fun r s => (Rs.of (toA (fz r)) s).bind fun a s => match env[i]? with
    | some (.own l) => (ev C env k s).bind fun y s => match y with
      | .v (.int j) => (match L2.ixN l.length j with
        | some n => .ok (.nx, env.set i (.own (l.set n a))) s
        | none => .stuck)
      | _ => .stuck
    | _ => .stuck := id rfl
@[simp] theorem x_putL (o k e : E F) : ex C env (.putL o k e) s = (ev C env e s).bind fun r s => (Rs.of (toA (fz r)) s).bind fun a s => (ev C env o s).bind fun x s => (ev C env k s).bind fun y s => match x, y with
    | .v (.loc n), .v (.int j) => (Rs.of (wr s n fun l => (L2.ixN l.length j).map fun m => l.set m a) s).bind fun s' _ => .ok (.nx, env) s'
    | _, _ => .stuck := id rfl
@[simp] theorem x_appL (o e : E F) : ex C env (.appL o e) s = (ev C env o s).bind fun x s => match isLoc s x with
    | some n => (ev C env e s).bind fun r s => (Rs.of (toA (fz r)) s).bind fun a s => (Rs.of (wr s n fun l => if l.length < sizeLine then some (l ++ [a]) else none) s).bind fun s' _ => .ok (.nx, env) s'
    | none => .stuck := id rfl
@[simp] theorem x_expr (e : E F) : ex C env (.expr e) s = (ev C env e s).bind fun _ s => .ok (.nx, env) s := id rfl
@[simp] theorem x_ret (e : E F) : ex C env (.ret e) s = (ev C env e s).bind fun r s => match r with
    | .bo _ => .stuck
    | r => .ok (.rt r, env) s := id rfl
@[simp] theorem x_retV (i : Nat) : ex C env (.retV i) s = match env[i]? with
    | some (.own l) => .ok (.rt (.tl l), env) s
    | _ => .stuck := id rfl
@[simp] theorem x_retN : ex C env .retN s = .ok (.rt (.v .non), env) s := id rfl
@[simp] theorem x_ife (c : E F) (a b : Ss F) : ex C env (.ife c a b) s = (ev C env c s).bind fun r s => (Rs.of (bl? r) s).bind fun k s => match k with
    | true => exs C env a s
    | false => exs C env b s := id rfl
def loopF (C : Cf F) (t : Tg) (b : Ss F) : Env → AV → Sto → Rs (Fl × Env) := fun env x s => (Rs.of (setT env t x) s).bind fun env s => exs C env b s
@[simp] theorem x_for (t : Tg) (it : It F) (b : Ss F) : ex C env (.for_ t it b) s = (evi C env it s).bind fun l s => forL (loopF C t b) l env s := id rfl
@[simp] theorem xs_nil : exs C env .nil s = .ok (.nx, env) s := id rfl
@[simp] theorem xs_cons (st : S F) (ss : Ss F) : exs C env (.cons st ss) s = (ex C env st s).bind fun p s => match p.1 with
    | .nx => exs C p.2 ss s
    | .rt r => .ok (.rt r, p.2) s := id rfl
@[simp] theorem r_v (i : Nat) (a : AV) (h : env[i]? = some (.v a)) : rd env i = some (.v a) := by simp [rd, h]
@[simp] theorem setT_nm (i : Nat) (a : AV) : setT env (.nm i) a = some (env.set i (.v a)) := id rfl
@[simp] theorem wipeT_nm (i : Nat) : wipeT env (.nm i) = env.set i .no := id rfl
@[simp] theorem noX_ok {A : Type} (a : A) (s : Sto) : noX (.ok a s) = .ok a s := id rfl
@[simp] theorem fz_v (a : AV) : fz (.v a) = .v a := id rfl
@[simp] theorem fz_tl (l : List AV) : fz (.tl l) = .v (.lst l) := id rfl
@[simp] theorem fz_bo (l : List AV) : fz (.bo l) = .bo l := id rfl
@[simp] theorem toA_v (a : AV) : toA (.v a) = some a := id rfl
@[simp] theorem toAs_nil : toAs [] = some [] := id rfl
@[simp] theorem toAs_cons (a : AV) (l : List R) : toAs (.v a :: l) = (toAs l).map (a :: ·) := by
  show (match toA (.v a), toAs l with
    | some a, some as => some (a :: as)
    | _, _ => none) = _
  cases toAs l <;> rfl
@[simp] theorem bl_v (b : Bool) : bl? (.v (.bl b)) = some b := id rfl
@[simp] theorem seqOf_tup (l : List AV) : seqOf s (.v (.tup l)) = some l := id rfl
@[simp] theorem seqOf_lst (l : List AV) : seqOf s (.v (.lst l)) = some l := id rfl
@[simp] theorem seqOf_bo (l : List AV) : seqOf s (.bo l) = some l := id rfl
@[simp] theorem seqOf_tl (l : List AV) : seqOf s (.tl l) = some l := id rfl
@[simp] theorem seqOf_scr (l : List Int) : seqOf s (.v (.scr l)) = some (l.map .int) := id rfl
theorem seqOf_loc (n : Nat) (l : List AV) (h : s.ob[n]? = some (.lst l)) : seqOf s (.v (.loc n)) = some l := by simp [seqOf, h]
@[simp] theorem b_add (i j : Int) : binR s .add (.v (.int i)) (.v (.int j)) = some (.v (.int (i + j))) := id rfl
@[simp] theorem b_sub (i j : Int) : binR s .sub (.v (.int i)) (.v (.int j)) = some (.v (.int (i - j))) := id rfl
@[simp] theorem b_mul (i j : Int) : binR s .mul (.v (.int i)) (.v (.int j)) = if mulOk i j then some (.v (.int (i * j))) else none := id rfl
@[simp] theorem b_fdiv (i j : Int) : binR s .fdiv (.v (.int i)) (.v (.int j)) = if decide (0 < j) && decide (j < 1073741824) then some (.v (.int (i / j))) else none := id rfl
@[simp] theorem b_mod (i j : Int) : binR s .mod (.v (.int i)) (.v (.int j)) = if decide (0 < j) then some (.v (.int (i % j))) else none := id rfl
@[simp] theorem b_pow (i j : Int) : binR s .pow (.v (.int i)) (.v (.int j)) = if decide (0 ≤ j) && decide (j ≤ 1000000) && decide (i.natAbs < 2 ^ 64) then some (.v (.int (i ^ j.toNat))) else none := id rfl
@[simp] theorem b_tup (a b : List AV) : binR s .add (.v (.tup a)) (.v (.tup b)) = if decide (a.length + b.length ≤ sizeLine) then some (.v (.tup (a ++ b))) else none := id rfl
@[simp] theorem c_lt (i j : Int) : cmpR s .lt (.v (.int i)) (.v (.int j)) = some (decide (i < j)) := id rfl
@[simp] theorem c_le (i j : Int) : cmpR s .le (.v (.int i)) (.v (.int j)) = some (decide (i ≤ j)) := id rfl
@[simp] theorem c_gt (i j : Int) : cmpR s .gt (.v (.int i)) (.v (.int j)) = some (decide (j < i)) := id rfl
@[simp] theorem c_ge (i j : Int) : cmpR s .ge (.v (.int i)) (.v (.int j)) = some (decide (j ≤ i)) := id rfl
@[simp] theorem c_eq (x y : R) : cmpR s .eq x y = eqR s x y := by unfold cmpR; rfl
@[simp] theorem c_ne (x y : R) : cmpR s .ne x y = (eqR s x y).map (!·) := by unfold cmpR; rfl
@[simp] theorem c_is (x : R) : cmpR s .isn x (.v .non) = some (isNon x) := by unfold cmpR; rfl
@[simp] theorem q_int (i j : Int) : eqR s (.v (.int i)) (.v (.int j)) = some (decide (i = j)) := by
  have e : ∀ k : Int, SeqAt.shaped (.int k) = true := fun k => rfl
  simp only [eqR, dat, toD, e, Bool.and_true, if_true, PyData.eqv]
  rfl
@[simp] theorem q_bl (i j : Bool) : eqR s (.v (.bl i)) (.v (.bl j)) = some (decide (i = j)) := by
  cases i <;> cases j <;> rfl
@[simp] theorem q_nil : eqR s (.v (.lst [])) (.v (.lst [])) = some true := id rfl
@[simp] theorem sR_tup (l : List AV) (i : Int) : subR s (.v (.tup l)) (.v (.int i)) = (L2.atI l i).map .v := id rfl
@[simp] theorem sR_lst (l : List AV) (i : Int) : subR s (.v (.lst l)) (.v (.int i)) = (L2.atI l i).map .v := id rfl
@[simp] theorem sR_bo (l : List AV) (i : Int) : subR s (.bo l) (.v (.int i)) = (L2.atI l i).map .v := id rfl
@[simp] theorem sR_scr (l : List Int) (i : Int) : subR s (.v (.scr l)) (.v (.int i)) = (L2.atI (l.map AV.int) i).map .v := id rfl
theorem sR_loc (n : Nat) (l : List AV) (i : Int) (h : s.ob[n]? = some (.lst l)) : subR s (.v (.loc n)) (.v (.int i)) = (L2.atI l i).map .v := by
  show (match seqOf s (.v (.loc n)) with
    | some l => (L2.atI l i).map R.v
    | none => _) = _
  rw [seqOf_loc n l h]
@[simp] theorem k_tup (l : List AV) : kdOf s (.v (.tup l)) = some .tuple := id rfl
@[simp] theorem k_lst (l : List AV) : kdOf s (.v (.lst l)) = some .list := id rfl
@[simp] theorem k_int (i : Int) : kdOf s (.v (.int i)) = some .int := id rfl
@[simp] theorem k_bl (i : Bool) : kdOf s (.v (.bl i)) = some .bool := id rfl
@[simp] theorem k_str (i : Str) : kdOf s (.v (.str i)) = some .str := id rfl
@[simp] theorem k_non : kdOf s (.v .non) = some .non := id rfl
theorem k_loc (n : Nat) (l : List AV) (h : s.ob[n]? = some (.lst l)) : kdOf s (.v (.loc n)) = some .list := by simp [kdOf, h]
@[simp] theorem l_tup (l : List AV) : biR s .len [.v (.tup l)] = some (.v (.int l.length)) := id rfl
@[simp] theorem l_lst (l : List AV) : biR s .len [.v (.lst l)] = some (.v (.int l.length)) := id rfl
@[simp] theorem l_bo (l : List AV) : biR s .len [.bo l] = some (.v (.int l.length)) := id rfl
@[simp] theorem l_scr (l : List Int) : biR s .len [.v (.scr l)] = some (.v (.int l.length)) := by simp [biR]
theorem l_loc (n : Nat) (l : List AV) (h : s.ob[n]? = some (.lst l)) : biR s .len [.v (.loc n)] = some (.v (.int l.length)) := by simp [biR, seqOf_loc n l h]
@[simp] theorem s_lst (l : List AV) : biR s .sum [.v (.lst l)] = (intsOf l).map fun ns => .v (.int ns.sum) := id rfl
@[simp] theorem m_min (i j : Int) : biR s .min [.v (.int i), .v (.int j)] = some (.v (.int (if j < i then j else i))) := id rfl
@[simp] theorem m_max (i j : Int) : biR s .max [.v (.int i), .v (.int j)] = some (.v (.int (if j > i then j else i))) := id rfl
@[simp] theorem sl_tup (l : List AV) (a b : Option Int) : slcR s (.v (.tup l)) a b = some (.v (.tup (cutA l a b))) := id rfl
@[simp] theorem it_tup (l : List AV) : itV (.tup l) = some l := id rfl
@[simp] theorem it_lst (l : List AV) : itV (.lst l) = some l := id rfl
@[simp] theorem it_scr (l : List Int) : itV (.scr l) = some (l.map .int) := id rfl
@[simp] theorem sv_tup (l : List AV) : seqV (.tup l) = some l := id rfl
@[simp] theorem sv_lst (l : List AV) : seqV (.lst l) = some l := id rfl
@[simp] theorem ints_map (l : List Int) : intsOf (l.map .int) = some l := by
  induction l with
  | nil => rfl
  | cons i l ih => simp [intsOf, ih]
@[simp] theorem z_tup (l m : List AV) : zipR [.v (.tup l), .v (.tup m)] = some ((l.zip m).map fun p => .tup [p.1, p.2]) := id rfl
end
section
variable {F : Type}
/-- what a def's body gives -/
def fin (r : Rs (Fl × Env)) : Rs R := r.bind fun p s => match p.1 with
  | .nx => .ok (.v .non) s
  | .rt r => .ok r s
theorem call_eq {tb : F → Fn F} {f : F} {d : Nat} {l : List AV} {s : Sto} {ps ns : Nat} {b : Ss F} (h : tb f = ⟨ps, ns, b⟩) (hl : l.length = ps) : call tb (d + 1) f l s = fin (exs (call tb d) (l.map .v ++ List.replicate (ns - ps) .no) b s) := by
  show (if l.length = (tb f).ps then _ else _) = _
  rw [h]
  rw [if_pos hl]
  rfl
@[simp] theorem fin_nx (e : Env) (s : Sto) : fin (.ok (.nx, e) s) = .ok (.v .non) s := id rfl
@[simp] theorem fin_rt (r : R) (e : Env) (s : Sto) : fin (.ok (.rt r, e) s) = .ok r s := id rfl
theorem at_nat {A : Type} {l : List A} {n : Nat} {i : Int} {a : A} (hi : i = (n : Int)) (h : l[n]? = some a) : L2.atI l i = some a := by
  obtain ⟨hl, _⟩ := List.getElem?_eq_some_iff.mp h
  subst hi
  unfold L2.atI L2.ixN
  rw [if_pos (by omega), if_pos (by omega)]
  simpa using h
@[simp] theorem at0 {A : Type} (a : A) (l : List A) : L2.atI (a :: l) 0 = some a := at_nat (n := 0) rfl rfl
@[simp] theorem at1 {A : Type} (a b : A) (l : List A) : L2.atI (a :: b :: l) 1 = some b := at_nat (n := 1) rfl rfl
@[simp] theorem at2 {A : Type} (a b c : A) (l : List A) : L2.atI (a :: b :: c :: l) 2 = some c := at_nat (n := 2) rfl rfl
@[simp] theorem at3 {A : Type} (a b c e : A) (l : List A) : L2.atI (a :: b :: c :: e :: l) 3 = some e := at_nat (n := 3) rfl rfl
end
end EV

set_option maxRecDepth 100000
set_option maxHeartbeats 2000000
namespace EV
open PySem PySem.Spec
section
variable {F : Type}
def dDrawn : Ss F := (.cons (.ife (.cmp .gt (.sub (.var 0) (.cst (.int 3))) (.cst (.int 0))) (.cons (.set 2 (.bin .mod (.sub (.var 0) (.cst (.int 3))) (.var 1))) (.cons (.putL (.var 0) (.cst (.int 3)) (.bin .fdiv (.sub (.var 0) (.cst (.int 3))) (.var 1))) (.cons (.ret (.var 2)) .nil))) .nil) (.cons (.putL (.var 0) (.cst (.int 1)) (.bin .add (.sub (.var 0) (.cst (.int 1))) (.cst (.int 1)))) (.cons (.ife (.cmp .le (.sub (.var 0) (.cst (.int 1))) (.bi .len (.cons (.sub (.var 0) (.cst (.int 0))) .nil))) (.cons (.set 3 (.sub (.sub (.var 0) (.cst (.int 0))) (.bin .sub (.sub (.var 0) (.cst (.int 1))) (.cst (.int 1))))) (.cons (.putL (.var 0) (.cst (.int 3)) (.ife (.cmp .ge (.var 3) (.bin .pow (.cst (.int 10)) (.cst (.int 18)))) (.bin .fdiv (.var 3) (.var 1)) (.cst (.int 0)))) (.cons (.ret (.bin .mod (.var 3) (.var 1))) .nil))) .nil) (.cons (.putL (.var 0) (.cst (.int 2)) (.bin .mod (.bin .add (.bin .mul (.sub (.var 0) (.cst (.int 2))) (.cst (.int 48271))) (.cst (.int 11))) (.cst (.int 2147483647)))) (.cons (.ret (.bin .mod (.bin .fdiv (.sub (.var 0) (.cst (.int 2))) (.cst (.int 7))) (.var 1))) .nil)))))
def mkS (ns : List Int) (i m v : Int) (rest : List Ob) : Sto := ⟨0, .lst [.scr ns, .int i, .int m, .int v] :: rest⟩
section
variable {ns : List Int} {i m v : Int} {rest : List Ob}
@[simp] theorem mkS_at (j : Int) : subR (mkS ns i m v rest) (.v (.loc 0)) (.v (.int j)) = (L2.atI [.scr ns, .int i, .int m, .int v] j).map .v := sR_loc 0 _ j rfl
@[simp] theorem mkS_w1 (x : Int) : wr (mkS ns i m v rest) 0 (fun l => (L2.ixN l.length 1).map fun k => l.set k (.int x)) = some (mkS ns x m v rest) := rfl
@[simp] theorem mkS_w2 (x : Int) : wr (mkS ns i m v rest) 0 (fun l => (L2.ixN l.length 2).map fun k => l.set k (.int x)) = some (mkS ns i x v rest) := rfl
@[simp] theorem mkS_w3 (x : Int) : wr (mkS ns i m v rest) 0 (fun l => (L2.ixN l.length 3).map fun k => l.set k (.int x)) = some (mkS ns i m x rest) := rfl
end
/-- the state of the draws -/
def Dr (ns : List Int) (rest : List Ob) (s : Sto) : Prop := ∃ i m v, 0 ≤ i ∧ s = mkS ns i m v rest
theorem drawn_ {tb : F → Fn F} {f : F} (h : tb f = ⟨2, 4, dDrawn⟩) (d : Nat) {ns : List Int} {rest : List Ob} {s : Sto} (hs : Dr ns rest s) (many : Int) (h0 : 0 < many) (h1 : many < 1073741824) :
    ∃ x s', call tb (d + 1) f [.loc 0, .int many] s = .ok (.v (.int x)) s' ∧ 0 ≤ x ∧ x < many ∧ Dr ns rest s' := by
  obtain ⟨i, m, v, hi, rfl⟩ := hs
  rw [call_eq h rfl]
  have hd : ∀ x : Int, 0 ≤ x % many ∧ x % many < many := fun x => ⟨Int.emod_nonneg _ (by omega), Int.emod_lt_of_pos _ h0⟩
  by_cases hv : 0 < v
  · refine ⟨v % many, mkS ns i m (v / many) rest, ?_, (hd v).1, (hd v).2, _, _, _, hi, rfl⟩
    simp [dDrawn, h0, h1, hv]
  · by_cases hl : i + 1 ≤ ns.length
    · have hlt : i.toNat < ns.length := by omega
      have e1 : L2.atI (ns.map AV.int) i = some (.int ns[i.toNat]) := at_nat (n := i.toNat) (by omega) (by simp [hlt])
      have e3 : i + 1 - 1 = i := by omega
      by_cases hc : (1000000000000000000 : Int) ≤ ns[i.toNat]
      · refine ⟨ns[i.toNat] % many, mkS ns (i + 1) m (ns[i.toNat] / many) rest, ?_, (hd _).1, (hd _).2, _, _, _, by omega, rfl⟩
        simp [dDrawn, h0, h1, hv, hl, e1, e3, hc]
      · refine ⟨ns[i.toNat] % many, mkS ns (i + 1) m 0 rest, ?_, (hd _).1, (hd _).2, _, _, _, by omega, rfl⟩
        simp [dDrawn, h0, h1, hv, hl, e1, e3, hc]
    · refine ⟨(m * 48271 + 11) % 2147483647 / 7 % many, mkS ns (i + 1) ((m * 48271 + 11) % 2147483647) v rest, ?_, (hd _).1, (hd _).2, _, _, _, by omega, rfl⟩
      simp [dDrawn, h0, h1, hv, hl, mulOk]
def dStart1 : Ss F := (.cons (.set 1 (.bin .mod (.bin .add (.bin .add (.bin .mul (.var 1) (.cst (.int 48271))) (.var 2)) (.cst (.int 7))) (.cst (.int 2147483647)))) .nil)
def dStart : Ss F := (.cons (.set 1 (.cst (.int 1))) (.cons (.for_ (.nm 2) (.seq (.var 0)) dStart1) (.cons (.ret (.lst (.cons (.var 0) (.cons (.cst (.int 0)) (.cons (.var 1) (.cons (.cst (.int 0)) .nil)))))) .nil)))
@[simp] theorem szle {n : Nat} (h : n ≤ 4096) : n ≤ sizeLine := Nat.le_trans h (by decide)
theorem start_ {tb : F → Fn F} {f : F} (h : tb f = ⟨1, 3, dStart⟩) (d : Nat) (ns : List Int) (s : Sto) : ∃ m, call tb (d + 1) f [.scr ns] s = .ok (.tl [.scr ns, .int 0, .int m, .int 0]) s := by
  rw [call_eq h rfl]
  have hl : ∀ (l : List Int) (m : Int) (e : Sl), ∃ m' e', forL (loopF (call tb d) (.nm 2) dStart1) (l.map AV.int) [.v (.scr ns), .v (.int m), e] s = .ok (.nx, [.v (.scr ns), .v (.int m'), e']) s := by
    intro l
    induction l with
    | nil => exact fun m e => ⟨m, e, rfl⟩
    | cons x l ih =>
      intro m e
      obtain ⟨m', e', h⟩ := ih ((m * 48271 + x + 7) % 2147483647) (.v (.int x))
      refine ⟨m', e', ?_⟩
      rw [List.map_cons, forL]
      have e1 : loopF (call tb d) (.nm 2) dStart1 [.v (.scr ns), .v (.int m), e] (.int x) s = .ok (.nx, [.v (.scr ns), .v (.int ((m * 48271 + x + 7) % 2147483647)), .v (.int x)]) s := by
        simp [loopF, dStart1, mulOk]
      rw [e1]
      simpa using h
  obtain ⟨m, e, h⟩ := hl ns 1 .no
  refine ⟨m, ?_⟩
  simp [dStart, List.replicate, h]
end
end EV

set_option maxRecDepth 100000
set_option maxHeartbeats 2000000
namespace EV
open PySem PySem.Spec
section
variable {F : Type}
theorem lcL_filter {f : AV → Sto → Rs (Option AV)} (g : AV → Option AV) : ∀ (l acc : List AV) (s : Sto), (∀ x ∈ l, f x s = .ok (g x) s) → acc.length + l.length ≤ sizeLine → lcL f acc l s = .ok (acc ++ l.filterMap g) s
  | [], acc, s, _, _ => by simp [lcL]
  | x :: l, acc, s, h, hl => by
    rw [lcL, h x (List.mem_cons_self ..)]
    have hx : ∀ y ∈ l, f y s = .ok (g y) s := fun y hy => h y (List.mem_cons_of_mem _ hy)
    rw [List.length_cons] at hl
    cases e : g x with
    | none => simp only [Rs.bind_ok]; rw [lcL_filter g l acc s hx (by omega), List.filterMap_cons_none e]
    | some a =>
      simp only [Rs.bind_ok]
      rw [if_pos (by omega), lcL_filter g l (acc ++ [a]) s hx (by rw [List.length_append, List.length_singleton]; omega), List.filterMap_cons_some e, List.append_assoc]
      rfl
theorem lcL_map {f : AV → Sto → Rs (Option AV)} (g : AV → AV) (l : List AV) (s : Sto) (h : ∀ x ∈ l, f x s = .ok (some (g x)) s) (hl : l.length ≤ sizeLine) : lcL f [] l s = .ok (l.map g) s := by
  rw [lcL_filter (fun x => some (g x)) l [] s h (by simpa using hl), List.filterMap_eq_map']
  rfl
theorem forL_ind {f : Env → AV → Sto → Rs (Fl × Env)} (P : List AV → Env → Sto → Prop) (h : ∀ x l env s, P (x :: l) env s → ∃ env' s', f env x s = .ok (.nx, env') s' ∧ P l env' s') : ∀ (l : List AV) (env : Env) (s : Sto), P l env s → ∃ env' s', forL f l env s = .ok (.nx, env') s' ∧ P [] env' s'
  | [], env, s, q => ⟨env, s, rfl, q⟩
  | x :: l, env, s, q => by
    obtain ⟨env', s', e, q'⟩ := h x l env s q
    obtain ⟨env2, s2, e2, q2⟩ := forL_ind P h l env' s' q'
    refine ⟨env2, s2, ?_, q2⟩
    rw [forL, e]
    simpa using e2
/-- a loop that only reckons: a over the items -/
theorem forL_fold {A : Type} {f : Env → AV → Sto → Rs (Fl × Env)} (En : A → Sl → Env) (st : A → AV → A) (s : Sto) : ∀ (l : List AV) (a : A) (e : Sl), (∀ (x : AV) (a : A) (e : Sl), x ∈ l → f (En a e) x s = .ok (.nx, En (st a x) (.v x)) s) → ∃ e', forL f l (En a e) s = .ok (.nx, En (l.foldl st a) e') s
  | [], a, e, _ => ⟨e, rfl⟩
  | x :: l, a, e, h => by
    obtain ⟨e', q⟩ := forL_fold En st s l (st a x) (.v x) fun y b e hy => h y b e (List.mem_cons_of_mem _ hy)
    refine ⟨e', ?_⟩
    rw [forL, h x a e (List.mem_cons_self ..)]
    simpa using q
theorem lcL_none {f : AV → Sto → Rs (Option AV)} : ∀ (l acc : List AV) (s : Sto), (∀ x ∈ l, f x s = .ok none s) → lcL f acc l s = .ok acc s
  | [], acc, s, _ => by simp [lcL]
  | x :: l, acc, s, h => by
    rw [lcL, h x (List.mem_cons_self ..)]
    simp only [Rs.bind_ok]
    exact lcL_none l acc s fun y hy => h y (List.mem_cons_of_mem _ hy)
theorem len_seq {s : Sto} {x : R} {l : List AV} (h : seqOf s x = some l) : biR s .len [x] = some (.v (.int l.length)) := by
  show (match seqOf s x with
    | some l => some (R.v (.int l.length))
    | none => _) = _
  rw [h]
theorem sub_seq {s : Sto} {x : R} {l : List AV} (h : seqOf s x = some l) (i : Int) : subR s x (.v (.int i)) = (L2.atI l i).map .v := by
  show (match seqOf s x with
    | some l => (L2.atI l i).map R.v
    | none => _) = _
  rw [h]
theorem rng_one {j : Int} (h : smallI j = true) : rngR 1 [.v (.int j)] = some (rngL 0 j) := by
  show (if smallI j then some (rngL 0 j) else none) = _
  rw [if_pos h]
theorem rngL_mem {a b : Int} {x : AV} (h : x ∈ rngL a b) : ∃ k : Nat, x = .int (a + k) ∧ a + k < b := by
  unfold rngL at h
  obtain ⟨k, hk, rfl⟩ := List.mem_map.mp h
  have := List.mem_range.mp hk
  exact ⟨k, rfl, by omega⟩
theorem small_nat {n : Nat} (h : n < 2 ^ 62) : smallI (n : Int) = true := by
  unfold smallI
  simp only [Bool.and_eq_true, decide_eq_true_eq]
  omega
def dSame (g : F) : Ss F := (.cons (.ife (.isis (.var 1) [.tuple, .list]) (.cons (.ife (.or (.cons (.not (.isis (.var 0) [.tuple, .list])) (.cons (.cmp .ne (.isi (.var 0) .list) (.isi (.var 1) .list)) .nil))) (.cons (.ret (.cst (.bl false))) .nil) .nil) (.cons (.ife (.cmp .ne (.bi .len (.cons (.var 0) .nil)) (.bi .len (.cons (.var 1) .nil))) (.cons (.ret (.cst (.bl false))) .nil) .nil) (.cons (.ret (.cmp .eq (.lc (.nm 2) (.rng 1 (.cons (.bi .len (.cons (.var 1) .nil)) .nil)) (.some (.not (.call g (.cons (.sub (.var 0) (.var 2)) (.cons (.sub (.var 1) (.var 2)) .nil))))) (.var 2)) (.lst .nil))) .nil))) .nil) (.cons (.ife (.cmp .isn (.var 1) (.cst .non)) (.cons (.ret (.cmp .isn (.var 0) (.cst .non))) .nil) .nil) (.cons (.ife (.isi (.var 1) .str) (.cons (.ret (.and (.cons (.isi (.var 0) .str) (.cons (.cmp .eq (.var 0) (.var 1)) .nil)))) .nil) .nil) (.cons (.ife (.or (.cons (.isi (.var 1) .bool) (.cons (.isi (.var 0) .bool) .nil))) (.cons (.ret (.and (.cons (.isi (.var 1) .bool) (.cons (.isi (.var 0) .bool) (.cons (.cmp .eq (.var 0) (.var 1)) .nil))))) .nil) .nil) (.cons (.ret (.and (.cons (.isi (.var 0) .int) (.cons (.cmp .eq (.var 0) (.var 1)) .nil)))) .nil)))))
@[simp] theorem isNon_v (b : Bool) : isNon (.v (.bl b)) = false := id rfl
@[simp] theorem isNon_i (b : Int) : isNon (.v (.int b)) = false := id rfl
@[simp] theorem isNon_s (b : Str) : isNon (.v (.str b)) = false := id rfl
@[simp] theorem isNon_n : isNon (.v .non) = true := id rfl
@[simp] theorem ko1 : kdOk .tuple .tuple = true := id rfl
@[simp] theorem ko2 : kdOk .list .list = true := id rfl
@[simp] theorem ko3 : kdOk .tuple .list = false := id rfl
@[simp] theorem ko4 : kdOk .list .tuple = false := id rfl
@[simp] theorem ko5 : kdOk .int .int = true := id rfl
@[simp] theorem ko6 : kdOk .int .bool = false := id rfl
@[simp] theorem ko7 : kdOk .int .str = false := id rfl
@[simp] theorem ko8 : kdOk .int .tuple = false := id rfl
@[simp] theorem ko9 : kdOk .int .list = false := id rfl
@[simp] theorem ko10 : kdOk .bool .int = true := id rfl
@[simp] theorem ko11 : kdOk .bool .bool = true := id rfl
@[simp] theorem ko12 : kdOk .bool .str = false := id rfl
@[simp] theorem ko13 : kdOk .bool .tuple = false := id rfl
@[simp] theorem ko14 : kdOk .bool .list = false := id rfl
@[simp] theorem ko15 : kdOk .str .str = true := id rfl
@[simp] theorem ko16 : kdOk .str .tuple = false := id rfl
@[simp] theorem ko17 : kdOk .str .list = false := id rfl
@[simp] theorem ko18 : kdOk .str .int = false := id rfl
@[simp] theorem ko19 : kdOk .str .bool = false := id rfl
@[simp] theorem ko20 : kdOk .non .tuple = false := id rfl
@[simp] theorem ko21 : kdOk .non .list = false := id rfl
@[simp] theorem ko22 : kdOk .tuple .int = false := id rfl
@[simp] theorem ko23 : kdOk .tuple .bool = false := id rfl
@[simp] theorem ko24 : kdOk .tuple .str = false := id rfl
@[simp] theorem ko25 : kdOk .list .int = false := id rfl
@[simp] theorem ko26 : kdOk .list .bool = false := id rfl
@[simp] theorem ko27 : kdOk .list .str = false := id rfl
section
variable {tb : F → Fn F} {g : F} (h : tb g = ⟨2, 3, dSame g⟩)
include h
theorem same_seq {d : Nat} {s : Sto} {x y : AV} {l : List AV} {k : Kd} (hk : k = .tuple ∨ k = .list) (kx : kdOf s (.v x) = some k) (ky : kdOf s (.v y) = some k) (sx : seqOf s (.v x) = some l) (sy : seqOf s (.v y) = some l) (hl : smallI (l.length : Int) = true)
    (hc : ∀ a ∈ l, call tb d g [a, a] s = .ok (.v (.bl true)) s) : call tb (d + 1) g [x, y] s = .ok (.v (.bl true)) s := by
  rw [call_eq h rfl]
  rcases hk with rfl | rfl
  all_goals
    simp [dSame, kx, ky, len_seq sx, len_seq sy, rng_one hl]
    rw [lcL_none]
    · simp
    · intro z hz
      obtain ⟨n, rfl, hn⟩ := rngL_mem hz
      have hn : n < l.length := by omega
      rw [Int.zero_add]
      have ea : L2.atI l (n : Int) = some l[n] := at_nat (n := n) (by omega) (by simp [hn])
      have ec := hc l[n] (List.getElem_mem hn)
      simp [lcF, sub_seq sx, sub_seq sy, ea, ec]
end
/-- plain data of some depth -/
def okD : Nat → AV → Prop
  | _, .non => True
  | _, .bl _ => True
  | _, .int _ => True
  | _, .str x => SeqAt.shaped (.str x) = true
  | d + 1, .tup l => l.length < 2 ^ 62 ∧ ∀ x ∈ l, okD d x
  | d + 1, .lst l => l.length < 2 ^ 62 ∧ ∀ x ∈ l, okD d x
  | _, _ => False
theorem q_str {s : Sto} {x : Str} (h : SeqAt.shaped (.str x) = true) : eqR s (.v (.str x)) (.v (.str x)) = some true := by
  simp [eqR, dat, toD, h, PyData.eqv]
theorem same_ {tb : F → Fn F} {g : F} (h : tb g = ⟨2, 3, dSame g⟩) : ∀ (d : Nat) (a : AV) (s : Sto), okD d a → call tb (d + 1) g [a, a] s = .ok (.v (.bl true)) s
  | d, .non, s, _ => by rw [call_eq h rfl]; simp [dSame]
  | d, .bl _, s, _ => by rw [call_eq h rfl]; simp [dSame]
  | d, .int _, s, _ => by rw [call_eq h rfl]; simp [dSame]
  | d, .str x, s, q => by
    have q : SeqAt.shaped (.str x) = true := by cases d <;> exact q
    rw [call_eq h rfl]; simp [dSame, q_str q]
  | d + 1, .tup l, s, q => same_seq h (.inl rfl) rfl rfl rfl rfl (small_nat q.1) fun a ha => same_ h d a s (q.2 a ha)
  | d + 1, .lst l, s, q => same_seq h (.inr rfl) rfl rfl rfl rfl (small_nat q.1) fun a ha => same_ h d a s (q.2 a ha)
  | 0, .tup l, s, q => q.elim
  | 0, .lst l, s, q => q.elim
  | 0, .scr l, s, q => q.elim
  | 0, .loc l, s, q => q.elim
  | d + 1, .scr l, s, q => q.elim
  | d + 1, .loc l, s, q => q.elim
end
end EV

set_option maxRecDepth 100000
set_option maxHeartbeats 0
namespace LW
open PySem PySem.Spec PyProof.Rows L2
inductive Fu where
  | is_number
  | are_sides
  | many_of
  | is_look
  | need_look
  | least_of
  | greatest_of
  | places_of
  | cell_of
  | cells_of
  | cells
  | row_steps
  | whole_of
  | whole
  | Lstart
  | Ldrawn
  | Lsame
  | Lsides
  | Llook
  | Lplaces
  | Lcell
  | Lcells
  | LAW
  deriving DecidableEq
namespace Fu
/-- is_number : 0=part 1=low 2=high -/
def bis_number : EV.Ss Fu := (.cons (.ret (.and (.cons (.isi (.var 0) .int) (.cons (.not (.isi (.var 0) .bool)) (.cons (.ch2 .le .le (.var 1) (.var 0) (.var 2)) .nil))))) .nil)
/-- are_sides : 0=sides 1=side -/
def bare_sides : EV.Ss Fu := (.cons (.ife (.or (.cons (.not (.isi (.var 0) .tuple)) (.cons (.cmp .gt (.bi .len (.cons (.var 0) .nil)) (.glb "MOST_SIDES" (.int 3))) .nil))) (.cons (.ret (.cst (.bl false))) .nil) .nil) (.cons (.ret (.cmp .eq (.lc (.nm 1) (.seq (.var 0)) (.some (.not (.call .is_number (.cons (.var 1) (.cons (.cst (.int 0)) (.cons (.glb "MOST_SIDE" (.int 8)) .nil)))))) (.var 1)) (.lst .nil))) .nil))
def bmany_of_1 : EV.Ss Fu := (.cons (.set 1 (.bin .mul (.var 1) (.var 2))) .nil)
/-- many_of : 0=sides 1=found 2=side -/
def bmany_of : EV.Ss Fu := (.cons (.set 1 (.cst (.int 1))) (.cons (.for_ (.nm 2) (.seq (.var 0)) bmany_of_1) (.cons (.ret (.var 1)) .nil)))
/-- is_look : 0=look 1=start 2=sides 3=steps 4=step -/
def bis_look : EV.Ss Fu := (.cons (.ife (.or (.cons (.not (.isi (.var 0) .tuple)) (.cons (.cmp .ne (.bi .len (.cons (.var 0) .nil)) (.cst (.int 3))) (.cons (.not (.call .is_number (.cons (.sub (.var 0) (.cst (.int 0))) (.cons (.cst (.int 0)) (.cons (.bin .sub (.glb "MOST_CELLS" (.int 512)) (.cst (.int 1))) .nil))))) .nil)))) (.cons (.ret (.cst (.bl false))) .nil) .nil) (.cons (.unp [1, 2, 3] (.var 0)) (.cons (.ife (.or (.cons (.not (.call .are_sides (.cons (.var 2) .nil))) (.cons (.not (.isi (.var 3) .tuple)) (.cons (.cmp .ne (.bi .len (.cons (.var 3) .nil)) (.bi .len (.cons (.var 2) .nil))) .nil)))) (.cons (.ret (.cst (.bl false))) .nil) .nil) (.cons (.ife (.cmp .ne (.lc (.nm 4) (.seq (.var 3)) (.some (.not (.call .is_number (.cons (.var 4) (.cons (.bin .sub (.cst (.int 0)) (.glb "MOST_CELLS" (.int 512))) (.cons (.glb "MOST_CELLS" (.int 512)) .nil)))))) (.var 4)) (.lst .nil)) (.cons (.ret (.cst (.bl false))) .nil) .nil) (.cons (.ret (.or (.cons (.cmp .eq (.call .many_of (.cons (.var 2) .nil)) (.cst (.int 0))) (.cons (.ch3 .le .le .lt (.cst (.int 0)) (.call .least_of (.cons (.var 0) .nil)) (.call .greatest_of (.cons (.var 0) .nil)) (.glb "MOST_CELLS" (.int 512))) .nil)))) .nil)))))
/-- need_look : 0=look -/
def bneed_look : EV.Ss Fu := (.cons (.ife (.not (.call .is_look (.cons (.var 0) .nil))) (.cons (.never) .nil) .nil) .nil)
/-- least_of : 0=look 1=side 2=step -/
def bleast_of : EV.Ss Fu := (.cons (.ret (.bin .add (.sub (.var 0) (.cst (.int 0))) (.bi .sum (.cons (.lc (.tp [1, 2]) (.zip (.cons (.sub (.var 0) (.cst (.int 1))) (.cons (.sub (.var 0) (.cst (.int 2))) .nil))) .none (.bi .min (.cons (.cst (.int 0)) (.cons (.bin .mul (.var 2) (.bin .sub (.var 1) (.cst (.int 1)))) .nil)))) .nil)))) .nil)
/-- greatest_of : 0=look 1=side 2=step -/
def bgreatest_of : EV.Ss Fu := (.cons (.ret (.bin .add (.sub (.var 0) (.cst (.int 0))) (.bi .sum (.cons (.lc (.tp [1, 2]) (.zip (.cons (.sub (.var 0) (.cst (.int 1))) (.cons (.sub (.var 0) (.cst (.int 2))) .nil))) .none (.bi .max (.cons (.cst (.int 0)) (.cons (.bin .mul (.var 2) (.bin .sub (.var 1) (.cst (.int 1)))) .nil)))) .nil)))) .nil)
def bplaces_of_1 : EV.Ss Fu := (.cons (.ext 3 (.lc (.nm 5) (.rng 1 (.cons (.var 2) .nil)) .none (.bin .add (.var 4) (.tup (.cons (.var 5) .nil))))) .nil)
def bplaces_of_2 : EV.Ss Fu := (.cons (.own 3 (.lst .nil)) (.cons (.for_ (.nm 4) (.seq (.var 1)) bplaces_of_1) (.cons (.mv 1 3) .nil)))
/-- places_of : 0=sides 1=found 2=side 3=longer 4=place 5=k -/
def bplaces_of : EV.Ss Fu := (.cons (.set 1 (.lst (.cons (.tup .nil) .nil))) (.cons (.for_ (.nm 2) (.seq (.var 0)) bplaces_of_2) (.cons (.ret (.var 1)) .nil)))
/-- cell_of : 0=look 1=place 2=one 3=step -/
def bcell_of : EV.Ss Fu := (.cons (.ret (.bin .add (.sub (.var 0) (.cst (.int 0))) (.bi .sum (.cons (.lc (.tp [2, 3]) (.zip (.cons (.var 1) (.cons (.sub (.var 0) (.cst (.int 2))) .nil))) .none (.bin .mul (.var 2) (.var 3))) .nil)))) .nil)
/-- cells_of : 0=look 1=place -/
def bcells_of : EV.Ss Fu := (.cons (.ret (.lc (.nm 1) (.seq (.call .places_of (.cons (.sub (.var 0) (.cst (.int 1))) .nil))) .none (.call .cell_of (.cons (.var 0) (.cons (.var 1) .nil))))) .nil)
/-- cells : 0=look -/
def bcells : EV.Ss Fu := (.cons (.expr (.call .need_look (.cons (.var 0) .nil))) (.cons (.ret (.call .cells_of (.cons (.var 0) .nil))) .nil))
def brow_steps_1 : EV.Ss Fu := (.cons (.set 1 (.bin .add (.tup (.cons (.var 2) .nil)) (.var 1))) (.cons (.set 2 (.bin .mul (.var 2) (.var 3))) .nil))
/-- row_steps : 0=sides 1=found 2=step 3=side -/
def brow_steps : EV.Ss Fu := (.cons (.set 1 (.tup .nil)) (.cons (.set 2 (.cst (.int 1))) (.cons (.for_ (.nm 3) (.rev (.var 0)) brow_steps_1) (.cons (.ret (.var 1)) .nil))))
/-- whole_of : 0=sides -/
def bwhole_of : EV.Ss Fu := (.cons (.ret (.tup (.cons (.cst (.int 0)) (.cons (.var 0) (.cons (.call .row_steps (.cons (.var 0) .nil)) .nil))))) .nil)
/-- whole : 0=sides -/
def bwhole : EV.Ss Fu := (.cons (.ife (.not (.call .are_sides (.cons (.var 0) .nil))) (.cons (.never) .nil) .nil) (.cons (.ret (.call .whole_of (.cons (.var 0) .nil))) .nil))
def bLstart_1 : EV.Ss Fu := (.cons (.set 1 (.bin .mod (.bin .add (.bin .add (.bin .mul (.var 1) (.cst (.int 48271))) (.var 2)) (.cst (.int 7))) (.cst (.int 2147483647)))) .nil)
/-- _law_start : 0=_law_script 1=_law_mixed 2=_law_cell_here -/
def bLstart : EV.Ss Fu := (.cons (.set 1 (.cst (.int 1))) (.cons (.for_ (.nm 2) (.seq (.var 0)) bLstart_1) (.cons (.ret (.lst (.cons (.var 0) (.cons (.cst (.int 0)) (.cons (.var 1) (.cons (.cst (.int 0)) .nil)))))) .nil)))
/-- _law_drawn : 0=_law_state 1=_law_many 2=_law_found 3=_law_cell_here -/
def bLdrawn : EV.Ss Fu := (.cons (.ife (.cmp .gt (.sub (.var 0) (.cst (.int 3))) (.cst (.int 0))) (.cons (.set 2 (.bin .mod (.sub (.var 0) (.cst (.int 3))) (.var 1))) (.cons (.putL (.var 0) (.cst (.int 3)) (.bin .fdiv (.sub (.var 0) (.cst (.int 3))) (.var 1))) (.cons (.ret (.var 2)) .nil))) .nil) (.cons (.putL (.var 0) (.cst (.int 1)) (.bin .add (.sub (.var 0) (.cst (.int 1))) (.cst (.int 1)))) (.cons (.ife (.cmp .le (.sub (.var 0) (.cst (.int 1))) (.bi .len (.cons (.sub (.var 0) (.cst (.int 0))) .nil))) (.cons (.set 3 (.sub (.sub (.var 0) (.cst (.int 0))) (.bin .sub (.sub (.var 0) (.cst (.int 1))) (.cst (.int 1))))) (.cons (.putL (.var 0) (.cst (.int 3)) (.ife (.cmp .ge (.var 3) (.bin .pow (.cst (.int 10)) (.cst (.int 18)))) (.bin .fdiv (.var 3) (.var 1)) (.cst (.int 0)))) (.cons (.ret (.bin .mod (.var 3) (.var 1))) .nil))) .nil) (.cons (.putL (.var 0) (.cst (.int 2)) (.bin .mod (.bin .add (.bin .mul (.sub (.var 0) (.cst (.int 2))) (.cst (.int 48271))) (.cst (.int 11))) (.cst (.int 2147483647)))) (.cons (.ret (.bin .mod (.bin .fdiv (.sub (.var 0) (.cst (.int 2))) (.cst (.int 7))) (.var 1))) .nil)))))
/-- _law_same : 0=_law_found 1=_law_due 2=_law_k -/
def bLsame : EV.Ss Fu := (.cons (.ife (.isis (.var 1) [.tuple, .list]) (.cons (.ife (.or (.cons (.not (.isis (.var 0) [.tuple, .list])) (.cons (.cmp .ne (.isi (.var 0) .list) (.isi (.var 1) .list)) .nil))) (.cons (.ret (.cst (.bl false))) .nil) .nil) (.cons (.ife (.cmp .ne (.bi .len (.cons (.var 0) .nil)) (.bi .len (.cons (.var 1) .nil))) (.cons (.ret (.cst (.bl false))) .nil) .nil) (.cons (.ret (.cmp .eq (.lc (.nm 2) (.rng 1 (.cons (.bi .len (.cons (.var 1) .nil)) .nil)) (.some (.not (.call .Lsame (.cons (.sub (.var 0) (.var 2)) (.cons (.sub (.var 1) (.var 2)) .nil))))) (.var 2)) (.lst .nil))) .nil))) .nil) (.cons (.ife (.cmp .isn (.var 1) (.cst .non)) (.cons (.ret (.cmp .isn (.var 0) (.cst .non))) .nil) .nil) (.cons (.ife (.isi (.var 1) .str) (.cons (.ret (.and (.cons (.isi (.var 0) .str) (.cons (.cmp .eq (.var 0) (.var 1)) .nil)))) .nil) .nil) (.cons (.ife (.or (.cons (.isi (.var 1) .bool) (.cons (.isi (.var 0) .bool) .nil))) (.cons (.ret (.and (.cons (.isi (.var 1) .bool) (.cons (.isi (.var 0) .bool) (.cons (.cmp .eq (.var 0) (.var 1)) .nil))))) .nil) .nil) (.cons (.ret (.and (.cons (.isi (.var 0) .int) (.cons (.cmp .eq (.var 0) (.var 1)) .nil)))) .nil)))))
def bLsides_1 : EV.Ss Fu := (.cons (.set 4 (.bin .add (.cst (.int 1)) (.call .Ldrawn (.cons (.var 0) (.cons (.var 1) .nil))))) (.cons (.set 2 (.bin .add (.var 2) (.tup (.cons (.sub (.lst (.cons (.var 4) (.cons (.var 4) (.cons (.var 4) (.cons (.cst (.int 0)) .nil))))) (.bin .fdiv (.call .Ldrawn (.cons (.var 0) (.cons (.cst (.int 16)) .nil))) (.cst (.int 5)))) .nil)))) .nil))
/-- _law_sides : 0=_law_state 1=_law_most 2=_law_found 3=_law_k 4=_law_side -/
def bLsides : EV.Ss Fu := (.cons (.set 2 (.tup .nil)) (.cons (.for_ (.nm 3) (.rng 1 (.cons (.call .Ldrawn (.cons (.var 0) (.cons (.cst (.int 4)) .nil))) .nil)) bLsides_1) (.cons (.ret (.var 2)) .nil)))
def bLlook_1 : EV.Ss Fu := (.cons (.own 7 (.lst (.cons (.var 3) (.cons (.var 3) (.cons (.bin .sub (.cst (.int 0)) (.var 3)) (.cons (.bin .sub (.call .Ldrawn (.cons (.var 0) (.cons (.cst (.int 9)) .nil))) (.cst (.int 4))) (.cons (.bin .sub (.call .Ldrawn (.cons (.var 0) (.cons (.cst (.int 41)) .nil))) (.cst (.int 20))) (.cons (.bin .mul (.cst (.int 2)) (.var 3)) (.cons (.cst (.int 0)) .nil))))))))) (.cons (.ife (.and (.cons (.cmp .lt (.var 4) (.cst (.int 3))) (.cons (.cmp .eq (.call .Ldrawn (.cons (.var 0) (.cons (.cst (.int 3)) .nil))) (.cst (.int 2))) .nil))) (.cons (.putO 7 (.cst (.int 6)) (.bin .sub (.call .Ldrawn (.cons (.var 0) (.cons (.cst (.int 1025)) .nil))) (.cst (.int 512)))) .nil) .nil) (.cons (.set 2 (.bin .add (.tup (.cons (.sub (.var 7) (.call .Ldrawn (.cons (.var 0) (.cons (.cst (.int 7)) .nil)))) .nil)) (.var 2))) (.cons (.set 3 (.bin .mul (.var 3) (.bi .max (.cons (.cst (.int 1)) (.cons (.var 4) .nil))))) .nil))))
/-- _law_look : 0=_law_state 1=_law_sides_here 2=_law_steps 3=_law_step 4=_law_side 5=_law_low 6=_law_high 7=_law_some 8=_law_k -/
def bLlook : EV.Ss Fu := (.cons (.set 1 (.call .Lsides (.cons (.var 0) (.cons (.sub (.lst (.cons (.cst (.int 3)) (.cons (.cst (.int 3)) (.cons (.cst (.int 5)) (.cons (.cst (.int 8)) .nil))))) (.call .Ldrawn (.cons (.var 0) (.cons (.cst (.int 4)) .nil)))) .nil)))) (.cons (.set 2 (.tup .nil)) (.cons (.set 3 (.cst (.int 1))) (.cons (.for_ (.nm 4) (.rev (.var 1)) bLlook_1) (.cons (.set 5 (.bi .sum (.cons (.lc (.nm 8) (.rng 1 (.cons (.bi .len (.cons (.var 1) .nil)) .nil)) (.some (.cmp .gt (.sub (.var 1) (.var 8)) (.cst (.int 0)))) (.bi .min (.cons (.cst (.int 0)) (.cons (.bin .mul (.sub (.var 2) (.var 8)) (.bin .sub (.sub (.var 1) (.var 8)) (.cst (.int 1)))) .nil)))) .nil))) (.cons (.set 6 (.bi .sum (.cons (.lc (.nm 8) (.rng 1 (.cons (.bi .len (.cons (.var 1) .nil)) .nil)) (.some (.cmp .gt (.sub (.var 1) (.var 8)) (.cst (.int 0)))) (.bi .max (.cons (.cst (.int 0)) (.cons (.bin .mul (.sub (.var 2) (.var 8)) (.bin .sub (.sub (.var 1) (.var 8)) (.cst (.int 1)))) .nil)))) .nil))) (.cons (.ife (.cmp .gt (.bin .sub (.var 6) (.var 5)) (.cst (.int 511))) (.cons (.ret (.tup (.cons (.cst (.int 0)) (.cons (.slc (.var 1) .none (.some (.cst (.int 1)))) (.cons (.slc (.tup (.cons (.cst (.int 1)) .nil)) .none (.some (.bi .len (.cons (.slc (.var 1) .none (.some (.cst (.int 1)))) .nil)))) .nil))))) .nil) .nil) (.cons (.ret (.tup (.cons (.bin .add (.bin .sub (.cst (.int 0)) (.var 5)) (.call .Ldrawn (.cons (.var 0) (.cons (.bi .min (.cons (.cst (.int 20)) (.cons (.bin .add (.bin .sub (.cst (.int 512)) (.var 6)) (.var 5)) .nil))) .nil)))) (.cons (.var 1) (.cons (.var 2) .nil))))) .nil))))))))
def bLplaces_1 : EV.Ss Fu := (.cons (.ext 1 (.lc (.nm 3) (.seq (.call .Lplaces (.cons (.slc (.var 0) (.some (.cst (.int 1))) .none) .nil))) .none (.bin .add (.tup (.cons (.var 2) .nil)) (.var 3)))) .nil)
/-- _law_places : 0=_law_sides_here 1=_law_found 2=_law_k 3=_law_rest -/
def bLplaces : EV.Ss Fu := (.cons (.ife (.cmp .eq (.var 0) (.tup .nil)) (.cons (.ret (.lst (.cons (.tup .nil) .nil))) .nil) .nil) (.cons (.own 1 (.lst .nil)) (.cons (.for_ (.nm 2) (.rng 1 (.cons (.sub (.var 0) (.cst (.int 0))) .nil)) bLplaces_1) (.cons (.retV 1) .nil))))
def bLcell_1 : EV.Ss Fu := (.cons (.set 2 (.bin .add (.var 2) (.bin .mul (.sub (.var 1) (.var 3)) (.sub (.sub (.var 0) (.cst (.int 2))) (.var 3))))) .nil)
/-- _law_cell : 0=_law_look_here 1=_law_place 2=_law_found 3=_law_k -/
def bLcell : EV.Ss Fu := (.cons (.set 2 (.sub (.var 0) (.cst (.int 0)))) (.cons (.for_ (.nm 3) (.rng 1 (.cons (.bi .len (.cons (.var 1) .nil)) .nil)) bLcell_1) (.cons (.ret (.var 2)) .nil)))
/-- _law_cells : 0=_law_look_here 1=_law_place -/
def bLcells : EV.Ss Fu := (.cons (.ret (.lc (.nm 1) (.seq (.call .Lplaces (.cons (.sub (.var 0) (.cst (.int 1))) .nil))) .none (.call .Lcell (.cons (.var 0) (.cons (.var 1) .nil))))) .nil)
def bLAW_1 : EV.Ss Fu := (.cons (.set 9 (.bin .mul (.var 9) (.var 10))) .nil)
def bLAW_2 : EV.Ss Fu := (.cons (.set 9 (.cst (.int 1))) (.cons (.for_ (.nm 10) (.seq (.slc (.var 5) (.some (.bin .add (.var 7) (.cst (.int 1)))) .none)) bLAW_1) (.cons (.set 6 (.bin .add (.var 6) (.tup (.cons (.var 9) .nil)))) .nil)))
def bLAW_3 : EV.Ss Fu := (.cons (.heap 8 (.call .cells (.cons (.var 3) .nil))) (.cons (.ife (.not (.call .Lsame (.cons (.var 8) (.cons (.call .Lcells (.cons (.var 3) .nil)) .nil)))) (.cons (.ret (.cst (.bl false))) .nil) .nil) (.cons (.appL (.var 8) (.cst (.int 0))) .nil)))
def bLAW_4 : EV.Ss Fu := (.cons (.set 3 (.call .Llook (.cons (.var 1) .nil))) (.cons (.for_ (.nm 4) (.rng 1 (.cons (.cst (.int 2)) .nil)) bLAW_3) (.cons (.set 5 (.call .Lsides (.cons (.var 1) (.cons (.cst (.int 8)) .nil)))) (.cons (.set 6 (.tup .nil)) (.cons (.for_ (.nm 7) (.rng 1 (.cons (.bi .len (.cons (.var 5) .nil)) .nil)) bLAW_2) (.cons (.ife (.not (.call .Lsame (.cons (.call .whole (.cons (.var 5) .nil)) (.cons (.tup (.cons (.cst (.int 0)) (.cons (.var 5) (.cons (.var 6) .nil)))) .nil)))) (.cons (.ret (.cst (.bl false))) .nil) .nil) .nil))))))
/-- law : 0=_law_script 1=_law_state 2=_law_turn 3=_law_look_here 4=_law_again 5=_law_sides_here 6=_law_steps 7=_law_k 8=_law_found 9=_law_behind 10=_law_side -/
def bLAW : EV.Ss Fu := (.cons (.heap 1 (.call .Lstart (.cons (.var 0) .nil))) (.cons (.for_ (.nm 2) (.rng 1 (.cons (.cst (.int 10)) .nil)) bLAW_4) (.cons (.ret (.cst (.bl true))) .nil)))
def tb : Fu → EV.Fn Fu
  | .is_number => ⟨3, 3, bis_number⟩
  | .are_sides => ⟨1, 2, bare_sides⟩
  | .many_of => ⟨1, 3, bmany_of⟩
  | .is_look => ⟨1, 5, bis_look⟩
  | .need_look => ⟨1, 1, bneed_look⟩
  | .least_of => ⟨1, 3, bleast_of⟩
  | .greatest_of => ⟨1, 3, bgreatest_of⟩
  | .places_of => ⟨1, 6, bplaces_of⟩
  | .cell_of => ⟨2, 4, bcell_of⟩
  | .cells_of => ⟨1, 2, bcells_of⟩
  | .cells => ⟨1, 1, bcells⟩
  | .row_steps => ⟨1, 4, brow_steps⟩
  | .whole_of => ⟨1, 1, bwhole_of⟩
  | .whole => ⟨1, 1, bwhole⟩
  | .Lstart => ⟨1, 3, bLstart⟩
  | .Ldrawn => ⟨2, 4, bLdrawn⟩
  | .Lsame => ⟨2, 3, bLsame⟩
  | .Lsides => ⟨2, 5, bLsides⟩
  | .Llook => ⟨1, 9, bLlook⟩
  | .Lplaces => ⟨1, 4, bLplaces⟩
  | .Lcell => ⟨2, 4, bLcell⟩
  | .Lcells => ⟨1, 2, bLcells⟩
  | .LAW => ⟨1, 11, bLAW⟩
def nm : Fu → Str
  | .is_number => "is_number"
  | .are_sides => "are_sides"
  | .many_of => "many_of"
  | .is_look => "is_look"
  | .need_look => "need_look"
  | .least_of => "least_of"
  | .greatest_of => "greatest_of"
  | .places_of => "places_of"
  | .cell_of => "cell_of"
  | .cells_of => "cells_of"
  | .cells => "cells"
  | .row_steps => "row_steps"
  | .whole_of => "whole_of"
  | .whole => "whole"
  | .Lstart => "_law_start"
  | .Ldrawn => "_law_drawn"
  | .Lsame => "_law_same"
  | .Lsides => "_law_sides"
  | .Llook => "_law_look"
  | .Lplaces => "_law_places"
  | .Lcell => "_law_cell"
  | .Lcells => "_law_cells"
  | .LAW => "law"
def ps : Fu → List Str
  | .is_number => ["part", "low", "high"]
  | .are_sides => ["sides"]
  | .many_of => ["sides"]
  | .is_look => ["look"]
  | .need_look => ["look"]
  | .least_of => ["look"]
  | .greatest_of => ["look"]
  | .places_of => ["sides"]
  | .cell_of => ["look", "place"]
  | .cells_of => ["look"]
  | .cells => ["look"]
  | .row_steps => ["sides"]
  | .whole_of => ["sides"]
  | .whole => ["sides"]
  | .Lstart => ["_law_script"]
  | .Ldrawn => ["_law_state", "_law_many"]
  | .Lsame => ["_law_found", "_law_due"]
  | .Lsides => ["_law_state", "_law_most"]
  | .Llook => ["_law_state"]
  | .Lplaces => ["_law_sides_here"]
  | .Lcell => ["_law_look_here", "_law_place"]
  | .Lcells => ["_law_look_here"]
  | .LAW => ["_law_script"]
def loc : Fu → List Str
  | .is_number => ["part", "low", "high"]
  | .are_sides => ["sides", "side"]
  | .many_of => ["sides", "found", "side"]
  | .is_look => ["look", "start", "sides", "steps", "step"]
  | .need_look => ["look"]
  | .least_of => ["look", "side", "step"]
  | .greatest_of => ["look", "side", "step"]
  | .places_of => ["sides", "found", "side", "longer", "place", "k"]
  | .cell_of => ["look", "place", "one", "step"]
  | .cells_of => ["look", "place"]
  | .cells => ["look"]
  | .row_steps => ["sides", "found", "step", "side"]
  | .whole_of => ["sides"]
  | .whole => ["sides"]
  | .Lstart => ["_law_script", "_law_mixed", "_law_cell_here"]
  | .Ldrawn => ["_law_state", "_law_many", "_law_found", "_law_cell_here"]
  | .Lsame => ["_law_found", "_law_due", "_law_k"]
  | .Lsides => ["_law_state", "_law_most", "_law_found", "_law_k", "_law_side"]
  | .Llook => ["_law_state", "_law_sides_here", "_law_steps", "_law_step", "_law_side", "_law_low", "_law_high", "_law_some", "_law_k"]
  | .Lplaces => ["_law_sides_here", "_law_found", "_law_k", "_law_rest"]
  | .Lcell => ["_law_look_here", "_law_place", "_law_found", "_law_k"]
  | .Lcells => ["_law_look_here", "_law_place"]
  | .LAW => ["_law_script", "_law_state", "_law_turn", "_law_look_here", "_law_again", "_law_sides_here", "_law_steps", "_law_k", "_law_found", "_law_behind", "_law_side"]
def ix : Fu → Nat
  | .is_number => 7
  | .are_sides => 8
  | .many_of => 9
  | .is_look => 10
  | .need_look => 11
  | .least_of => 12
  | .greatest_of => 13
  | .places_of => 14
  | .cell_of => 15
  | .cells_of => 16
  | .cells => 17
  | .row_steps => 18
  | .whole_of => 19
  | .whole => 20
  | .Lstart => 22
  | .Ldrawn => 23
  | .Lsame => 24
  | .Lsides => 25
  | .Llook => 26
  | .Lplaces => 27
  | .Lcell => 28
  | .Lcells => 29
  | .LAW => 30
end Fu
def gcs : List (Str × Const) := [("MOST_CELLS", .int 512), ("MOST_SIDES", .int 3), ("MOST_SIDE", .int 8)]
def Fu.po : Fu → Nat
  | .is_number => 0
  | .are_sides => 1
  | .many_of => 2
  | .is_look => 3
  | .need_look => 4
  | .least_of => 5
  | .greatest_of => 6
  | .places_of => 7
  | .cell_of => 8
  | .cells_of => 9
  | .cells => 10
  | .row_steps => 11
  | .whole_of => 12
  | .whole => 13
  | .Lstart => 14
  | .Ldrawn => 15
  | .Lsame => 16
  | .Lsides => 17
  | .Llook => 18
  | .Lplaces => 19
  | .Lcell => 20
  | .Lcells => 21
  | .LAW => 22
end LW

set_option maxRecDepth 100000
set_option maxHeartbeats 2000000
namespace LW
open EV PySem PySem.Spec
def tI (p : List Int) : AV := .tup (p.map .int)
theorem is_number_ (d : Nat) (p lo hi : Int) (s : Sto) : call Fu.tb (d + 1) .is_number [.int p, .int lo, .int hi] s = .ok (.v (.bl (decide (lo ≤ p) && decide (p ≤ hi)))) s := by
  rw [call_eq rfl rfl]
  by_cases h : lo ≤ p <;> simp [Fu.bis_number, h]
theorem are_sides_ (d : Nat) (sd : List Int) (s : Sto) (h1 : sd.length ≤ 3) (h2 : ∀ x ∈ sd, 0 ≤ x ∧ x ≤ 8) : call Fu.tb (d + 2) .are_sides [tI sd] s = .ok (.v (.bl true)) s := by
  rw [call_eq rfl rfl]
  have : ¬ (3 < (sd.length : Int)) := by omega
  simp [Fu.bare_sides, tI, this]
  rw [lcL_none]
  · simp
  · intro z hz
    obtain ⟨x, hx, rfl⟩ := List.mem_map.mp hz
    have := h2 x hx
    simp [lcF, is_number_, this.1, this.2]
def pr : List Int → Int
  | [] => 1
  | x :: l => x * pr l
def mulA (a : Int) : AV → Int
  | .int i => a * i
  | _ => a
theorem pr_fold (l : List Int) : ∀ a : Int, (l.map AV.int).foldl mulA a = a * pr l := by
  induction l with
  | nil => intro a; simp [pr]
  | cons x l ih => intro a; simp [pr, ih, mulA, Int.mul_assoc]
theorem many_of_ (d : Nat) (sd : List Int) (s : Sto) (h2 : ∀ x ∈ sd, 0 ≤ x ∧ x ≤ 8) : call Fu.tb (d + 1) .many_of [tI sd] s = .ok (.v (.int (pr sd))) s := by
  rw [call_eq rfl rfl]
  obtain ⟨e', h⟩ := forL_fold (f := loopF (call Fu.tb d) (.nm 2) Fu.bmany_of_1) (fun (a : Int) e => [.v (tI sd), .v (.int a), e]) mulA s (sd.map AV.int) 1 .no (by
    intro x a e hx
    obtain ⟨y, hy, rfl⟩ := List.mem_map.mp hx
    have := h2 y hy
    have : mulOk a y = true := by unfold mulOk; simp; omega
    simp [loopF, Fu.bmany_of_1, this, mulA])
  rw [pr_fold] at h
  simp [Fu.bmany_of, tI, List.replicate] at h ⊢
  simp [h]
/-- the walk over two tuples, a sum of what each pair gives -/
def zs (g : Int → Int → Int) : List Int → List Int → Int
  | x :: l, y :: m => g x y + zs g l m
  | _, _ => 0
theorem zip_ints (g : Int → Int → Int) : ∀ l m : List Int, ∃ r : List Int, ((l.map AV.int).zip (m.map AV.int)).map (fun p => AV.tup [p.1, p.2]) = (l.zip m).map (fun p => AV.tup [.int p.1, .int p.2]) ∧ r = (l.zip m).map (fun p => g p.1 p.2) ∧ r.sum = zs g l m
  | [], m => ⟨[], by simp, by simp, by simp [zs]⟩
  | x :: l, [] => ⟨[], by simp, by simp, by simp [zs]⟩
  | x :: l, y :: m => by
    obtain ⟨r, h1, h2, h3⟩ := zip_ints g l m
    exact ⟨g x y :: r, by simp [h1], by simp [h2], by simp [zs, h3]⟩
def zm (g : Int → Int → Int) (l m : List Int) : List Int := (l.zip m).map fun p => g p.1 p.2
theorem lcZ {C : Cf Fu} {env : EV.Env} {t : Tg} {e : E Fu} {s : Sto} (g : Int → Int → Int) (l m : List Int) (hl : l.length ≤ 4096) (h : ∀ x y, x ∈ l → y ∈ m → lcF C env t .none e (.tup [.int x, .int y]) s = .ok (some (.int (g x y))) s) :
    lcL (lcF C env t .none e) [] (((l.map AV.int).zip (m.map AV.int)).map (fun p => AV.tup [p.1, p.2])) s = .ok ((zm g l m).map AV.int) s := by
  obtain ⟨r, h1, h2, h3⟩ := zip_ints g l m
  rw [h1, lcL_map (fun v => match v with | .tup [.int x, .int y] => .int (g x y) | v => v) _ s _ (by simp; exact szle (by omega))]
  · simp [zm, List.map_map, Function.comp_def]
  · intro v hv
    obtain ⟨p, hp, rfl⟩ := List.mem_map.mp hv
    obtain ⟨q1, q2⟩ := List.of_mem_zip hp
    exact h _ _ q1 q2
@[simp] theorem sum_z (g : Int → Int → Int) (l m : List Int) : (zm g l m).sum = zs g l m := by
  unfold zm
  obtain ⟨r, h1, h2, h3⟩ := zip_ints g l m
  rw [← h2, h3]
def lo1 (side step : Int) : Int := min 0 (step * (side - 1))
def hi1 (side step : Int) : Int := max 0 (step * (side - 1))
def lk (st : Int) (sd sp : List Int) : AV := .tup [.int st, tI sd, tI sp]
theorem least_of_ (d : Nat) (st : Int) (sd sp : List Int) (s : Sto) (h1 : sd.length ≤ 3) (h2 : ∀ x ∈ sd, 0 ≤ x ∧ x ≤ 8) : call Fu.tb (d + 1) .least_of [lk st sd sp] s = .ok (.v (.int (st + zs lo1 sd sp))) s := by
  rw [call_eq rfl rfl]
  simp [Fu.bleast_of, lk, tI]
  rw [lcZ lo1 sd sp (by omega)]
  · simp [sum_z]
  · intro x y hx hy
    have := h2 x hx
    have : mulOk y (x - 1) = true := by unfold mulOk; simp; omega
    simp [lcF, wipeT, setT, rd, this, lo1]
    split <;> omega
theorem greatest_of_ (d : Nat) (st : Int) (sd sp : List Int) (s : Sto) (h1 : sd.length ≤ 3) (h2 : ∀ x ∈ sd, 0 ≤ x ∧ x ≤ 8) : call Fu.tb (d + 1) .greatest_of [lk st sd sp] s = .ok (.v (.int (st + zs hi1 sd sp))) s := by
  rw [call_eq rfl rfl]
  simp [Fu.bgreatest_of, lk, tI]
  rw [lcZ hi1 sd sp (by omega)]
  · simp [sum_z]
  · intro x y hx hy
    have := h2 x hx
    have : mulOk y (x - 1) = true := by unfold mulOk; simp; omega
    simp [lcF, wipeT, setT, rd, this, hi1]
    split <;> omega

theorem cell_of_ (d : Nat) (st : Int) (sd sp p : List Int) (s : Sto) (h1 : p.length ≤ 3) (h2 : ∀ x ∈ p, 0 ≤ x ∧ x ≤ 8) : call Fu.tb (d + 1) .cell_of [lk st sd sp, tI p] s = .ok (.v (.int (st + zs (· * ·) p sp))) s := by
  rw [call_eq rfl rfl]
  simp [Fu.bcell_of, lk, tI]
  rw [lcZ (· * ·) p sp (by omega)]
  · simp [sum_z]
  · intro x y hx hy
    have := h2 x hx
    have : mulOk x y = true := by unfold mulOk; simp; omega
    simp [lcF, wipeT, setT, rd, this]
def rg (a : Int) : List Int := (List.range a.toNat).map fun (k : Nat) => (k : Int)
theorem rg_mem {a k : Int} (h : k ∈ rg a) : 0 ≤ k ∧ k < a := by
  obtain ⟨n, hn, rfl⟩ := List.mem_map.mp h
  have := List.mem_range.mp hn
  omega
theorem rg_len (a : Int) : (rg a).length = a.toNat := by simp [rg]
theorem rngL_rg (a : Int) : rngL 0 a = (rg a).map .int := by
  simp [rngL, rg, Function.comp_def]
theorem rng_rg {a : Int} (h1 : 0 ≤ a) (h : a ≤ 4096) : rngR 1 [.v (.int a)] = some ((rg a).map .int) := by
  rw [rng_one, rngL_rg]
  unfold smallI
  simp
  omega
theorem lcR {f : AV → Sto → Rs (Option AV)} {a : Int} {s : Sto} (g : Int → AV) (h1 : 0 ≤ a) (ha : a ≤ 4096) (h : ∀ k, 0 ≤ k → k < a → f (.int k) s = .ok (some (g k)) s) : lcL f [] ((rg a).map .int) s = .ok ((rg a).map g) s := by
  rw [lcL_map (fun v => match v with | .int k => g k | v => v) _ s _ (by simp; rw [rg_len]; exact szle (by omega))]
  · simp [List.map_map, Function.comp_def]
  · intro v hv
    obtain ⟨k, hk, rfl⟩ := List.mem_map.mp hv
    obtain ⟨q1, q2⟩ := rg_mem hk
    exact h _ q1 q2
def pl : List Int → List (List Int)
  | [] => [[]]
  | a :: r => (rg a).flatMap fun k => (pl r).map (k :: ·)
theorem pl_mem : ∀ (sd : List Int), (∀ x ∈ sd, 0 ≤ x ∧ x ≤ 8) → ∀ p ∈ pl sd, p.length = sd.length ∧ ∀ x ∈ p, 0 ≤ x ∧ x ≤ 8
  | [], _, p, hp => by
    simp [pl] at hp
    subst hp
    simp
  | a :: r, h, p, hp => by
    simp only [pl, List.mem_flatMap, List.mem_map] at hp
    obtain ⟨k, hk, q, hq, rfl⟩ := hp
    obtain ⟨h1, h2⟩ := pl_mem r (fun x hx => h x (List.mem_cons_of_mem _ hx)) q hq
    have ha := h a (List.mem_cons_self ..)
    have hk := rg_mem hk
    refine ⟨by simp [h1], fun x hx => ?_⟩
    rcases List.mem_cons.mp hx with rfl | hx
    · omega
    · exact h2 x hx
def stP (acc : List (List Int)) (a : Int) : List (List Int) := acc.flatMap fun p => (rg a).map fun k => p ++ [k]
theorem stP_len (a : Int) (h : a ≤ 8) : ∀ acc : List (List Int), (stP acc a).length ≤ 8 * acc.length
  | [] => by simp [stP]
  | p :: acc => by
    have ih := stP_len a h acc
    have e : (stP (p :: acc) a).length = a.toNat + (stP acc a).length := by simp [stP, rg_len]
    rw [e, List.length_cons]
    omega
theorem pl_step (a : Int) (r : List Int) (acc : List (List Int)) : (stP acc a).flatMap (fun p => (pl r).map (p ++ ·)) = acc.flatMap fun p => (pl (a :: r)).map (p ++ ·) := by
  simp [stP, pl, List.flatMap_assoc, List.flatMap_map, List.map_flatMap, List.map_map, Function.comp_def]
theorem places_of_ (d : Nat) (sd : List Int) (s : Sto) (h1 : sd.length ≤ 3) (h2 : ∀ x ∈ sd, 0 ≤ x ∧ x ≤ 8) : call Fu.tb (d + 1) .places_of [tI sd] s = .ok (.v (.lst ((pl sd).map tI))) s := by
  rw [call_eq rfl rfl]
  obtain ⟨env', s', e, rfl, r, acc, e2, e4, e5, h3, h4, h5, h6, h7, rfl⟩ := forL_ind (f := loopF (call Fu.tb d) (.nm 2) Fu.bplaces_of_2) (fun l env t => t = s ∧ ∃ (r : List Int) (acc : List (List Int)) (e2 e4 e5 : Sl), l = r.map .int ∧ (∀ x ∈ r, 0 ≤ x ∧ x ≤ 8) ∧ (∀ p ∈ acc, p.length + r.length ≤ 3) ∧ acc.length * 8 ^ r.length ≤ 512 ∧ acc.flatMap (fun p => (pl r).map (p ++ ·)) = pl sd ∧ env = [.v (tI sd), .v (.lst (acc.map tI)), e2, .no, e4, .no]) (by
      rintro x l env s ⟨rfl, r, acc, e2, e4, e5, h3, h4, h5, h6, h7, rfl⟩
      cases r with
      | nil => cases h3
      | cons a r =>
        cases h3
        have ha := h4 a (List.mem_cons_self ..)
        have hal : acc.length ≤ 64 := by
          rw [List.length_cons, Nat.pow_succ] at h6
          have : 1 ≤ 8 ^ r.length := Nat.pow_pos (by decide)
          have : acc.length * 8 ≤ acc.length * (8 ^ r.length * 8) := Nat.mul_le_mul_left _ (by omega)
          omega
        obtain ⟨env', s', e, rfl, r', cur, f4, g3, g4, g5, g6, rfl⟩ := forL_ind (f := loopF (call Fu.tb d) (.nm 4) Fu.bplaces_of_1) (fun l env t => t = s ∧ ∃ (r' cur : List (List Int)) (f4 : Sl), l = r'.map tI ∧ (∀ p ∈ r', p.length ≤ 3) ∧ cur ++ stP r' a = stP acc a ∧ cur.length + 8 * r'.length ≤ 512 ∧ env = [.v (tI sd), .v (.lst (acc.map tI)), .v (.int a), .own (cur.map tI), f4, .no]) (by
            rintro x l env s ⟨rfl, r', cur, f4, g3, g4, g5, g6, rfl⟩
            cases r' with
            | nil => cases g3
            | cons p r' =>
              cases g3
              have hp := g4 p (List.mem_cons_self ..)
              refine ⟨[.v (tI sd), .v (.lst (acc.map tI)), .v (.int a), .own ((cur ++ (rg a).map fun k => p ++ [k]).map tI), .v (tI p), .no], s, ?_, rfl, r', _, _, rfl, fun q hq => g4 q (List.mem_cons_of_mem _ hq), ?_, ?_, rfl⟩
              · simp [loopF, Fu.bplaces_of_1, rng_rg ha.1 (by omega : a ≤ 4096)]
                rw [lcR (fun k => tI (p ++ [k])) ha.1 (by omega)]
                · have : cur.length + (rg a).length ≤ sizeLine := by
                    rw [rg_len]
                    simp at g6
                    exact szle (by omega)
                  simp [this]
                · intro k _ _
                  have : p.length + 1 ≤ sizeLine := szle (by omega)
                  simp [lcF, tI, this]
              · rw [← g5]
                simp [stP]
              · rw [List.length_append, List.length_map, rg_len]
                simp at g6
                omega) (acc.map tI) [.v (tI sd), .v (.lst (acc.map tI)), .v (.int a), .own [], e4, .no] s ⟨rfl, acc, [], e4, rfl, fun p hp => by have := h5 p hp; omega, rfl, by simp; omega, rfl⟩
        have hr : r' = [] := by cases r' with | nil => rfl | cons _ _ => cases g3
        subst hr
        simp [stP] at g5
        refine ⟨[.v (tI sd), .v (.lst ((stP acc a).map tI)), .v (.int a), .no, f4, .no], s', ?_, rfl, r, stP acc a, _, _, .no, rfl, fun x hx => h4 x (List.mem_cons_of_mem _ hx), ?_, ?_, ?_, rfl⟩
        · simp [loopF, Fu.bplaces_of_2, e]
          rw [g5]
          rfl
        · intro p hp
          simp only [stP, List.mem_flatMap, List.mem_map] at hp
          obtain ⟨q, hq, k, hk, rfl⟩ := hp
          have := h5 q hq
          simp at this ⊢
          omega
        · have := stP_len a ha.2 acc
          rw [List.length_cons, Nat.pow_succ] at h6
          calc (stP acc a).length * 8 ^ r.length ≤ (8 * acc.length) * 8 ^ r.length := Nat.mul_le_mul_right _ this
            _ = acc.length * (8 ^ r.length * 8) := by rw [Nat.mul_comm 8 acc.length, Nat.mul_assoc, Nat.mul_comm 8]
            _ ≤ 512 := h6
        · rw [pl_step, h7]) (sd.map .int) [.v (tI sd), .v (.lst [.tup []]), .no, .no, .no, .no] s ⟨rfl, sd, [[]], .no, .no, .no, rfl, h2, by simpa using h1, by
          have : (8 : Nat) ^ sd.length ≤ 8 ^ 3 := Nat.pow_le_pow_right (by decide) h1
          simpa using this, by simp, rfl⟩
  have hr : r = [] := by cases r with | nil => rfl | cons _ _ => cases h3
  subst hr
  simp [pl] at h7
  simp [Fu.bplaces_of, tI, List.replicate] at e ⊢
  simp [e, h7]
end LW

set_option maxRecDepth 100000
set_option maxHeartbeats 2000000
namespace LW
open EV PySem PySem.Spec
structure Lk (st : Int) (sd sp : List Int) : Prop where
  h1 : sd.length ≤ 3
  h2 : ∀ x ∈ sd, 0 ≤ x ∧ x ≤ 8
  h3 : sp.length = sd.length
  h4 : ∀ x ∈ sp, -512 ≤ x ∧ x ≤ 512
  h5 : 0 ≤ st ∧ st ≤ 511
  h6 : pr sd = 0 ∨ (0 ≤ st + zs lo1 sd sp ∧ st + zs lo1 sd sp ≤ st + zs hi1 sd sp ∧ st + zs hi1 sd sp < 512)
theorem is_look_ (d : Nat) {st : Int} {sd sp : List Int} (h : Lk st sd sp) (s : Sto) : call Fu.tb (d + 3) .is_look [lk st sd sp] s = .ok (.v (.bl true)) s := by
  rw [call_eq rfl rfl]
  have e1 := is_number_ (d + 1) st 0 511 s
  have e2 := are_sides_ d sd s h.h1 h.h2
  have e3 := many_of_ (d + 1) sd s h.h2
  have e4 := least_of_ (d + 1) st sd sp s h.h1 h.h2
  have e5 := greatest_of_ (d + 1) st sd sp s h.h1 h.h2
  have q1 := h.h5.1
  have q2 := h.h5.2
  have e6 : lcL (lcF (call Fu.tb (d + 2)) [Sl.v (lk st sd sp), Sl.v (.int st), Sl.v (tI sd), Sl.v (tI sp), Sl.no] (.nm 4) (.some (.not (.call .is_number (.cons (.var 4) (.cons (.bin .sub (.cst (.int 0)) (.glb "MOST_CELLS" (.int 512))) (.cons (.glb "MOST_CELLS" (.int 512)) .nil)))))) (.var 4)) [] (sp.map .int) s = .ok [] s := by
    refine lcL_none _ _ _ fun z hz => ?_
    obtain ⟨x, hx, rfl⟩ := List.mem_map.mp hz
    have := h.h4 x hx
    simp [lcF, is_number_, this.1, this.2]
  have e3' := h.h3
  unfold lk tI at *
  simp [Fu.bis_look, e1, e2, q1, q2, e3', List.zip, List.zipWith, e6, e3]
  by_cases hz : pr sd = 0
  · simp [hz]
  · have h6 := h.h6.resolve_left hz
    have h7 : zs lo1 sd sp ≤ zs hi1 sd sp := by omega
    simp [hz, e4, e5, h6.1, h6.2.2, h7]
theorem need_look_ (d : Nat) {st : Int} {sd sp : List Int} (h : Lk st sd sp) (s : Sto) : call Fu.tb (d + 4) .need_look [lk st sd sp] s = .ok (.v .non) s := by
  rw [call_eq rfl rfl]
  simp [Fu.bneed_look, is_look_ d h s]
theorem flat_len {A B : Type} (f : A → List B) (n : Nat) : ∀ l : List A, (∀ x ∈ l, (f x).length ≤ n) → (l.flatMap f).length ≤ l.length * n
  | [], _ => by simp
  | x :: l, h => by
    have := flat_len f n l fun y hy => h y (List.mem_cons_of_mem _ hy)
    have := h x (List.mem_cons_self ..)
    rw [List.flatMap_cons, List.length_append, List.length_cons, Nat.succ_mul]
    omega
theorem pl_len : ∀ sd : List Int, (∀ x ∈ sd, 0 ≤ x ∧ x ≤ 8) → (pl sd).length ≤ 8 ^ sd.length
  | [], _ => by simp [pl]
  | a :: r, h => by
    have ih := pl_len r fun x hx => h x (List.mem_cons_of_mem _ hx)
    have := flat_len (fun k => (pl r).map (k :: ·)) (8 ^ r.length) (rg a) fun x _ => by simpa using ih
    have ha := h a (List.mem_cons_self ..)
    rw [rg_len] at this
    have : a.toNat * 8 ^ r.length ≤ 8 * 8 ^ r.length := Nat.mul_le_mul_right _ (by omega)
    rw [List.length_cons, Nat.pow_succ, Nat.mul_comm _ 8]
    unfold pl
    omega
theorem pl_512 {sd : List Int} (h1 : sd.length ≤ 3) (h2 : ∀ x ∈ sd, 0 ≤ x ∧ x ≤ 8) : (pl sd).length ≤ 512 :=
  Nat.le_trans (pl_len sd h2) (Nat.le_trans (Nat.pow_le_pow_right (by decide) h1) (by decide))
/-- the cells of a look -/
def cz (st : Int) (sd sp : List Int) : List AV := (pl sd).map fun p => .int (st + zs (· * ·) p sp)
theorem cells_of_ (d : Nat) {st : Int} {sd sp : List Int} (h : Lk st sd sp) (s : Sto) : call Fu.tb (d + 2) .cells_of [lk st sd sp] s = .ok (.tl (cz st sd sp)) s := by
  rw [call_eq rfl rfl]
  have e1 := places_of_ d sd s h.h1 h.h2
  have e2 : L2.atI [AV.int st, tI sd, tI sp] 1 = some (tI sd) := at1 _ _ _
  simp [Fu.bcells_of]
  have e3 : subR s (.v (lk st sd sp)) (.v (.int 1)) = some (.v (tI sd)) := by simp [lk]
  simp [e3, e1]
  rw [lcL_map (fun v => match v with | .tup l => .int (match intsOf l with | some p => st + zs (· * ·) p sp | none => 0) | v => v)]
  · simp [cz, tI, Function.comp_def]
  · intro v hv
    obtain ⟨p, hp, rfl⟩ := List.mem_map.mp hv
    obtain ⟨q1, q2⟩ := pl_mem sd h.h2 p hp
    have := cell_of_ d st sd sp p s (by rw [q1]; exact h.h1) q2
    unfold tI at this ⊢
    simp [lcF, this]
  · rw [List.length_map]
    exact szle (Nat.le_trans (pl_512 h.h1 h.h2) (by decide))
theorem cells_ (d : Nat) {st : Int} {sd sp : List Int} (h : Lk st sd sp) (s : Sto) : call Fu.tb (d + 5) .cells [lk st sd sp] s = .ok (.tl (cz st sd sp)) s := by
  rw [call_eq rfl rfl]
  have := cells_of_ (d + 2) h s
  simp [Fu.bcells, need_look_ d h s, this]
/-- row steps -/
def rs : List Int → List Int
  | [] => []
  | _ :: r => pr r :: rs r
theorem rs_len : ∀ l : List Int, (rs l).length = l.length
  | [] => rfl
  | _ :: r => by simp [rs, rs_len r]
theorem row_steps_ (d : Nat) (sd : List Int) (s : Sto) (h1 : sd.length ≤ 3) (h2 : ∀ x ∈ sd, 0 ≤ x ∧ x ≤ 8) : call Fu.tb (d + 1) .row_steps [tI sd] s = .ok (.v (tI (rs sd))) s := by
  rw [call_eq rfl rfl]
  obtain ⟨env', s', e, rfl, t, q, e3, h3, h4, rfl⟩ := forL_ind (f := loopF (call Fu.tb d) (.nm 3) Fu.brow_steps_1) (fun l env u => u = s ∧ ∃ (t q : List Int) (e3 : Sl), l = t.map .int ∧ t.reverse ++ q = sd ∧ env = [.v (tI sd), .v (tI (rs q)), .v (.int (pr q)), e3]) (by
    rintro x l env s ⟨rfl, t, q, e3, h3, h4, rfl⟩
    cases t with
    | nil => cases h3
    | cons a t =>
      cases h3
      have ha := h2 a (by rw [← h4]; simp)
      have hm : mulOk (pr q) a = true := by unfold mulOk; simp; omega
      have hl : 1 + q.length ≤ sizeLine := szle (by have := congrArg List.length h4; simp at this; omega)
      refine ⟨[.v (tI sd), .v (tI (rs (a :: q))), .v (.int (pr (a :: q))), .v (.int a)], s, ?_, rfl, t, a :: q, _, rfl, by rw [← h4]; simp, rfl⟩
      simp [loopF, Fu.brow_steps_1, tI, hm, rs, pr, rs_len, hl, Int.mul_comm]) (sd.reverse.map .int) [.v (tI sd), .v (.tup []), .v (.int 1), .no] s ⟨rfl, sd.reverse, [], .no, rfl, by simp, rfl⟩
  have ht : t = [] := by cases t with | nil => rfl | cons _ _ => cases h3
  subst ht
  simp at h4
  subst h4
  simp [Fu.brow_steps, tI, List.replicate] at e ⊢
  simp [e]
theorem whole_of_ (d : Nat) (sd : List Int) (s : Sto) (h1 : sd.length ≤ 3) (h2 : ∀ x ∈ sd, 0 ≤ x ∧ x ≤ 8) : call Fu.tb (d + 2) .whole_of [tI sd] s = .ok (.v (lk 0 sd (rs sd))) s := by
  rw [call_eq rfl rfl]
  simp [Fu.bwhole_of, row_steps_ d sd s h1 h2, lk]
theorem whole_ (d : Nat) (sd : List Int) (s : Sto) (h1 : sd.length ≤ 3) (h2 : ∀ x ∈ sd, 0 ≤ x ∧ x ≤ 8) : call Fu.tb (d + 3) .whole [tI sd] s = .ok (.v (lk 0 sd (rs sd))) s := by
  rw [call_eq rfl rfl]
  simp [Fu.bwhole, are_sides_ d sd s h1 h2, whole_of_ d sd s h1 h2]
end LW

set_option maxRecDepth 100000
set_option maxHeartbeats 2000000
namespace LW
open EV PySem PySem.Spec
theorem cut_tail {A : Type} (x : A) (l : List A) : cutA (x :: l) (some 1) none = l := by
  unfold cutA HT.sIx
  have : min (Int.toNat 1) (x :: l).length = 1 := by simp
  simp [this]
theorem cut_drop {A : Type} (l : List A) (n : Nat) (h : n ≤ l.length) : cutA l (some (n : Int)) none = l.drop n := by
  unfold cutA HT.sIx
  have : ¬ ((n : Int) < 0) := by omega
  simp [this, Nat.min_eq_left h]
  exact List.take_of_length_le (by simp)
theorem toDs_ints : ∀ l : List Int, toDs (l.map .int) = some (l.map .int)
  | [] => rfl
  | x :: l => by simp [toDs, toD, toDs_ints l]
theorem canLay_ints : ∀ l : List Int, PyData.canLayAll0 (l.map .int) = true
  | [] => by simp [PyData.canLayAll0]
  | x :: l => by simp [PyData.canLayAll0, PyData.canLay0, canLay_ints l]
theorem depth_ints : ∀ l : List Int, PyData.depthAll (l.map .int) ≤ 1
  | [] => by simp [PyData.depthAll]
  | x :: l => by
    have := depth_ints l
    simp [PyData.depthAll, PyData.depth]
    try omega
theorem shaped_ints (l : List Int) : SeqAt.shaped (.tuple (l.map .int)) = true := by
  have := depth_ints l
  unfold SeqAt.shaped
  simp [PyData.canLay0, canLay_ints, PyData.depth]
  omega
theorem Lcell_ (d : Nat) {st : Int} {sd sp p : List Int} (s : Sto) (h1 : p.length ≤ 3) (h2 : ∀ x ∈ p, 0 ≤ x ∧ x ≤ 8) (h3 : p.length = sp.length) : call Fu.tb (d + 1) .Lcell [lk st sd sp, tI p] s = .ok (.v (.int (st + zs (· * ·) p sp))) s := by
  rw [call_eq rfl rfl]
  obtain ⟨env', s', e, rfl, n, m, acc, e3, h4, h5, h6, rfl⟩ := forL_ind (f := loopF (call Fu.tb d) (.nm 3) Fu.bLcell_1) (fun l env u => u = s ∧ ∃ (n m : Nat) (acc : Int) (e3 : Sl), l = ((List.range' n m).map fun (k : Nat) => (k : Int)).map .int ∧ n + m = p.length ∧ acc + zs (· * ·) (p.drop n) (sp.drop n) = st + zs (· * ·) p sp ∧ env = [.v (lk st sd sp), .v (tI p), .v (.int acc), e3]) (by
    rintro x l env s ⟨rfl, n, m, acc, e3, h4, h5, h6, rfl⟩
    cases m with
    | zero => cases h4
    | succ m =>
      rw [List.range'_succ] at h4
      cases h4
      have hn : n < p.length := by omega
      have hn' : n < sp.length := by omega
      have ha := h2 p[n] (List.getElem_mem hn)
      have hm : mulOk p[n] sp[n] = true := by unfold mulOk; simp; omega
      have a1 : L2.atI (p.map AV.int) (n : Int) = some (.int p[n]) := at_nat rfl (by simp [hn])
      have a2 : L2.atI (sp.map AV.int) (n : Int) = some (.int sp[n]) := at_nat rfl (by simp [hn'])
      refine ⟨[.v (lk st sd sp), .v (tI p), .v (.int (acc + p[n] * sp[n])), .v (.int n)], s, ?_, rfl, n + 1, m, _, _, rfl, by omega, ?_, rfl⟩
      · simp [loopF, Fu.bLcell_1, lk, tI, a1, a2, hm]
      · rw [← h6, List.drop_eq_getElem_cons hn, List.drop_eq_getElem_cons hn', zs, Int.add_assoc]) ((rg p.length).map .int) [.v (lk st sd sp), .v (tI p), .v (.int st), .no] s ⟨rfl, 0, p.length, st, .no, by simp [rg, List.range_eq_range'], by omega, by simp, rfl⟩
  have hm : m = 0 := by cases m with | zero => rfl | succ m => rw [List.range'_succ] at h4; cases h4
  subst hm
  have hn : n = p.length := by omega
  subst hn
  simp [zs] at h6
  have hz : acc = st + zs (· * ·) p sp := by
    rw [← h6]
  have hr := rng_rg (a := (p.length : Int)) (by omega) (by omega)
  simp [Fu.bLcell, lk, tI, List.replicate, hr] at e ⊢
  simp [e, hz]
theorem Lplaces_ : ∀ (sd : List Int) (d : Nat) (s : Sto), sd.length ≤ 3 → (∀ x ∈ sd, 0 ≤ x ∧ x ≤ 8) → call Fu.tb (d + sd.length + 1) .Lplaces [tI sd] s = .ok (.tl ((pl sd).map tI)) s
  | [], d, s, h1, h2 => by
    rw [call_eq rfl rfl]
    have : eqR s (.v (.tup [])) (.v (.tup [])) = some true := rfl
    simp [Fu.bLplaces, tI, pl, this]
  | a :: r, d, s, h1, h2 => by
    have ih := Lplaces_ r d s (by simp at h1; omega) fun x hx => h2 x (List.mem_cons_of_mem _ hx)
    rw [call_eq rfl rfl]
    have ha := h2 a (List.mem_cons_self ..)
    have hq : eqR s (.v (tI (a :: r))) (.v (.tup [])) = some false := by
      have e1 : toD (tI (a :: r)) = some (.tuple ((a :: r).map .int)) := by
        unfold tI
        rw [toD, toDs_ints]
        rfl
      have e2 := shaped_ints (a :: r)
      have e3 : SeqAt.shaped (.tuple []) = true := rfl
      have e4 : toD (.tup []) = some (.tuple []) := rfl
      unfold eqR dat
      simp only [tI] at e1 ⊢
      rw [e1, e4]
      simp only [e2, e3, Bool.and_true, if_true]
      rfl
    have hr := rng_rg (a := a) (by omega) (by omega)
    have hp : (pl r).length ≤ 64 := by
      have := pl_len r fun x hx => h2 x (List.mem_cons_of_mem _ hx)
      have : (8 : Nat) ^ r.length ≤ 8 ^ 2 := Nat.pow_le_pow_right (by decide) (by simp at h1; omega)
      omega
    obtain ⟨env', s', e, rfl, t, cur, e2, e3, h3, h4, h5, rfl⟩ := forL_ind (f := loopF (call Fu.tb (d + (a :: r).length)) (.nm 2) Fu.bLplaces_1) (fun l env u => u = s ∧ ∃ (t : List Int) (cur : List (List Int)) (e2 e3 : Sl), l = t.map .int ∧ cur ++ t.flatMap (fun k => (pl r).map (k :: ·)) = pl (a :: r) ∧ cur.length + 64 * t.length ≤ 512 ∧ env = [.v (tI (a :: r)), .own (cur.map tI), e2, .no]) (by
      rintro x l env s ⟨rfl, t, cur, e2, e3, h3, h4, h5, rfl⟩
      cases t with
      | nil => cases h3
      | cons k t =>
        cases h3
        refine ⟨[.v (tI (a :: r)), .own ((cur ++ (pl r).map (k :: ·)).map tI), .v (.int k), .no], s, ?_, rfl, t, _, _, .no, rfl, by rw [← h4]; simp, ?_, rfl⟩
        · have hc : cutA ((a :: r).map AV.int) (some 1) none = r.map AV.int := cut_tail _ _
          simp at hc
          have ih' : call Fu.tb (d + (r.length + 1)) .Lplaces [.tup (r.map .int)] s = .ok (.tl ((pl r).map tI)) s := ih
          simp [loopF, Fu.bLplaces_1, tI, hc, ih']
          rw [lcL_map (fun v => match v with | .tup l => .tup (.int k :: l) | v => v)]
          · have : cur.length + (pl r).length ≤ sizeLine := szle (by simp at h5; omega)
            simp [this, tI, Function.comp_def]
          · intro v hv
            obtain ⟨p, hp, rfl⟩ := List.mem_map.mp hv
            have q1 := (pl_mem r (fun x hx => h2 x (List.mem_cons_of_mem _ hx)) p hp).1
            have : 1 + p.length ≤ sizeLine := szle (by simp at h1; omega)
            simp [lcF, tI, this]
          · rw [List.length_map]
            exact szle (by omega)
        · rw [List.length_append, List.length_map]
          simp at h5
          omega) ((rg a).map .int) [.v (tI (a :: r)), .own [], .no, .no] s ⟨rfl, rg a, [], .no, .no, rfl, rfl, by rw [rg_len]; simp; omega, rfl⟩
    have ht : t = [] := by cases t with | nil => rfl | cons _ _ => cases h3
    subst ht
    simp at h4
    subst h4
    have a1 : subR s' (.v (tI (a :: r))) (.v (.int 0)) = some (.v (.int a)) := by simp [tI]
    simp [Fu.bLplaces, hq, hr, List.replicate, a1] at e ⊢
    simp [e]
theorem Lcells_ (d : Nat) {st : Int} {sd sp : List Int} (h : Lk st sd sp) (s : Sto) : call Fu.tb (d + 5) .Lcells [lk st sd sp] s = .ok (.tl (cz st sd sp)) s := by
  rw [call_eq rfl rfl]
  have hl := h.h1
  have e1 := Lplaces_ sd (d + 4 - 1 - sd.length) s h.h1 h.h2
  rw [show d + 4 - 1 - sd.length + sd.length + 1 = d + 4 by omega] at e1
  have e3 : subR s (.v (lk st sd sp)) (.v (.int 1)) = some (.v (tI sd)) := by simp [lk]
  simp [Fu.bLcells, e3, e1]
  rw [lcL_map (fun v => match v with | .tup l => .int (match intsOf l with | some p => st + zs (· * ·) p sp | none => 0) | v => v)]
  · simp [cz, tI, Function.comp_def]
  · intro v hv
    obtain ⟨p, hp, rfl⟩ := List.mem_map.mp hv
    obtain ⟨q1, q2⟩ := pl_mem sd h.h2 p hp
    have := Lcell_ (d + 3) (st := st) (sd := sd) (sp := sp) s (by rw [q1]; exact h.h1) q2 (by rw [q1, h.h3])
    unfold tI at this ⊢
    simp [lcF, this]
  · rw [List.length_map]
    exact szle (Nat.le_trans (pl_512 h.h1 h.h2) (by decide))
end LW

set_option maxRecDepth 100000
set_option maxHeartbeats 2000000
namespace LW
open EV PySem PySem.Spec
theorem at_ints (l : List Int) (x : Int) (h0 : 0 ≤ x) (h1 : x < l.length) : ∃ y ∈ l, L2.atI (l.map AV.int) x = some (AV.int y) := by
  have hx : x.toNat < l.length := by omega
  exact ⟨l[x.toNat], List.getElem_mem hx, at_nat (n := x.toNat) (by omega) (by simp [hx])⟩
variable {ns : List Int} {rest : List Ob}
theorem Ldrawn_ (d : Nat) {s : Sto} (hs : Dr ns rest s) (many : Int) (h0 : 0 < many) (h1 : many < 1073741824) :
    ∃ x s', call Fu.tb (d + 1) .Ldrawn [.loc 0, .int many] s = .ok (.v (.int x)) s' ∧ 0 ≤ x ∧ x < many ∧ Dr ns rest s' := drawn_ rfl d hs many h0 h1
theorem Lsides_ (d : Nat) {s : Sto} (hs : Dr ns rest s) (most : Int) (h0 : 0 < most) (h1 : most ≤ 8) :
    ∃ sd s', call Fu.tb (d + 2) .Lsides [.loc 0, .int most] s = .ok (.v (tI sd)) s' ∧ sd.length ≤ 3 ∧ (∀ x ∈ sd, 0 ≤ x ∧ x ≤ 8) ∧ Dr ns rest s' := by
  rw [call_eq rfl rfl]
  obtain ⟨k, s1, d1, hk0, hk1, D1⟩ := Ldrawn_ d hs 4 (by decide) (by decide)
  have hr := rng_rg (a := k) (by omega) (by omega)
  obtain ⟨env', s', e, t, w, e3, e4, h3, h4, h5, D, rfl⟩ := forL_ind (f := loopF (call Fu.tb (d + 1)) (.nm 3) Fu.bLsides_1) (fun l env u => ∃ (t w : List Int) (e3 e4 : Sl), l = t.map .int ∧ w.length + t.length ≤ 3 ∧ (∀ x ∈ w, 0 ≤ x ∧ x ≤ 8) ∧ Dr ns rest u ∧ env = [.v (.loc 0), .v (.int most), .v (tI w), e3, e4]) (by
    rintro x l env s ⟨t, w, e3, e4, h3, h4, h5, D, rfl⟩
    cases t with
    | nil => cases h3
    | cons k t =>
      cases h3
      obtain ⟨x1, s1, d1, a1, b1, D1⟩ := Ldrawn_ d D most h0 (by omega)
      obtain ⟨x2, s2, d2, a2, b2, D2⟩ := Ldrawn_ d D1 16 (by decide) (by decide)
      obtain ⟨y, hy, e⟩ := at_ints [1 + x1, 1 + x1, 1 + x1, 0] (x2 / 5) (by omega) (by simp; omega)
      simp only [List.map_cons, List.map_nil] at e
      have hl : w.length + 1 ≤ sizeLine := szle (by omega)
      refine ⟨[.v (.loc 0), .v (.int most), .v (tI (w ++ [y])), .v (.int k), .v (.int (1 + x1))], s2, ?_, t, w ++ [y], _, _, rfl, by simp at h4 ⊢; omega, ?_, D2, rfl⟩
      · simp [loopF, Fu.bLsides_1, d1, d2, e, tI, hl]
      · intro z hz
        rcases List.mem_append.mp hz with hz | hz
        · exact h5 z hz
        · simp at hz hy
          omega) ((rg k).map .int) [.v (.loc 0), .v (.int most), .v (.tup []), .no, .no] s1 ⟨rg k, [], .no, .no, rfl, by rw [rg_len]; simp; omega, by simp, D1, rfl⟩
  have ht : t = [] := by cases t with | nil => rfl | cons _ _ => cases h3
  subst ht
  refine ⟨w, s', ?_, by simpa using h4, h5, D⟩
  simp [Fu.bLsides, d1, hr, List.replicate, e]
/-- a sum over the sides that are not 0 -/
def z2 (g : Int → Int → Int) : Int → Int → Int := fun a b => if 0 < a then g a b else 0
theorem lcK {f : AV → Sto → Rs (Option AV)} (g : Int → Int → Int) {sd sp : List Int} {s : Sto} (hl : sp.length = sd.length) (h : ∀ (n : Nat) (h1 : n < sd.length) (h2 : n < sp.length), f (.int n) s = .ok (if 0 < sd[n] then some (.int (g sd[n] sp[n])) else none) s) :
    ∀ (m n : Nat) (acc : List AV), n + m = sd.length → acc.length + m ≤ 4096 → ∃ out : List Int, lcL f acc (((List.range' n m).map fun (k : Nat) => (k : Int)).map .int) s = .ok (acc ++ out.map .int) s ∧ out.sum = zs (z2 g) (sd.drop n) (sp.drop n)
  | 0, n, acc, hn, _ => ⟨[], by simp [lcL], by
    have : sd.drop n = [] := by simp; omega
    simp [this, zs]⟩
  | m + 1, n, acc, hn, ha => by
    have h1 : n < sd.length := by omega
    have h2 : n < sp.length := by omega
    have e := h n h1 h2
    rw [List.drop_eq_getElem_cons h1, List.drop_eq_getElem_cons h2]
    by_cases hp : 0 < sd[n]
    · obtain ⟨out, q1, q2⟩ := lcK g hl h m (n + 1) (acc ++ [.int (g sd[n] sp[n])]) (by omega) (by simp; omega)
      refine ⟨g sd[n] sp[n] :: out, ?_, by simp [zs, z2, hp, q2]⟩
      have : acc.length < sizeLine := Nat.lt_of_lt_of_le (by omega : acc.length < 4096) (by decide)
      rw [List.range'_succ, List.map_cons, List.map_cons, lcL, e]
      simp only [hp, if_true, Rs.bind_ok, this]
      rw [q1]
      simp
    · obtain ⟨out, q1, q2⟩ := lcK g hl h m (n + 1) acc (by omega) (by omega)
      refine ⟨out, ?_, by simp [zs, z2, hp, q2]⟩
      rw [List.range'_succ, List.map_cons, List.map_cons, lcL, e]
      simp only [hp, if_false, Rs.bind_ok]
      exact q1
theorem zs_lo (l m : List Int) : zs (z2 lo1) l m ≤ 0 := by
  induction l generalizing m with
  | nil => simp [zs]
  | cons a l ih =>
    cases m with
    | nil => simp [zs]
    | cons b m =>
      have := ih m
      simp only [zs, z2, lo1]
      split <;> omega
theorem zs_hi (l m : List Int) : 0 ≤ zs (z2 hi1) l m := by
  induction l generalizing m with
  | nil => simp [zs]
  | cons a l ih =>
    cases m with
    | nil => simp [zs]
    | cons b m =>
      have := ih m
      simp only [zs, z2, hi1]
      split <;> omega
theorem pr_zs (g : Int → Int → Int) : ∀ (l m : List Int), (∀ x ∈ l, 0 ≤ x) → pr l ≠ 0 → zs (z2 g) l m = zs g l m
  | [], m, _, _ => by simp [zs]
  | a :: l, [], _, _ => by simp [zs]
  | a :: l, b :: m, h, hz => by
    have ha : a ≠ 0 := fun e => hz (by simp [pr, e])
    have hl : pr l ≠ 0 := fun e => hz (by simp [pr, e])
    have := h a (List.mem_cons_self ..)
    have ih := pr_zs g l m (fun x hx => h x (List.mem_cons_of_mem _ hx)) hl
    have hp : 0 < a := by omega
    simp [zs, z2, hp]
    exact ih
theorem cut_one {A : Type} (l : List A) : cutA l none (some 1) = l.take 1 := by
  unfold cutA HT.sIx
  cases l <;> simp
end LW

set_option maxRecDepth 100000
set_option maxHeartbeats 2000000
namespace LW
open EV PySem PySem.Spec
variable {ns : List Int} {rest : List Ob}
/-- what a turn of _law_look's walk leaves -/
theorem look_turn (d : Nat) (sd t w : List Int) (a st : Int) (e4 e7 : Sl) {s : Sto} (D : Dr ns rest s) (h1 : w.length + 1 + t.length ≤ 3) (hw : ∀ x ∈ w, -512 ≤ x ∧ x ≤ 512) (ha : 0 ≤ a ∧ a ≤ 8) (hst : 1 ≤ st) (hst2 : st ≤ 64) :
    ∃ y e7' s', loopF (call Fu.tb (d + 2)) (.nm 4) Fu.bLlook_1 [.v (.loc 0), .v (tI sd), .v (tI w), .v (.int st), e4, .no, .no, e7, .no] (.int a) s = .ok (.nx, [.v (.loc 0), .v (tI sd), .v (tI (y :: w)), .v (.int (st * max 1 a)), .v (.int a), .no, .no, e7', .no]) s' ∧ -512 ≤ y ∧ y ≤ 512 ∧ Dr ns rest s' := by
  obtain ⟨x1, s1, d1, a1, b1, D1⟩ := Ldrawn_ (d + 1) D 9 (by decide) (by decide)
  obtain ⟨x2, s2, d2, a2, b2, D2⟩ := Ldrawn_ (d + 1) D1 41 (by decide) (by decide)
  have hl : 1 + w.length ≤ sizeLine := szle (by omega)
  have hm1 : mulOk 2 st = true := by unfold mulOk; simp
  have hm2 : ∀ b : Int, b ≤ 8 → 1 ≤ b → mulOk st b = true := fun b _ _ => by unfold mulOk; simp; omega
  have hmax : (if 1 < a then a else 1) = max 1 a := by omega
  have hm3 : mulOk st (max 1 a) = true := hm2 _ (by omega) (by omega)
  by_cases h3 : a < 3
  · obtain ⟨x3, s3, d3, a3, b3, D3⟩ := Ldrawn_ (d + 1) D2 3 (by decide) (by decide)
    by_cases h4 : x3 = 2
    · subst h4
      obtain ⟨x4, s4, d4, a4, b4, D4⟩ := Ldrawn_ (d + 1) D3 1025 (by decide) (by decide)
      obtain ⟨x5, s5, d5, a5, b5, D5⟩ := Ldrawn_ (d + 1) D4 7 (by decide) (by decide)
      obtain ⟨y, hy, e⟩ := at_ints [st, st, -st, x1 - 4, x2 - 20, 2 * st, x4 - 512] x5 (by omega) (by simp; omega)
      simp only [List.map_cons, List.map_nil] at e
      refine ⟨y, .own [.int st, .int st, .int (-st), .int (x1 - 4), .int (x2 - 20), .int (2 * st), .int (x4 - 512)], s5, ?_, ?_, ?_, D5⟩
      · simp [loopF, Fu.bLlook_1, d1, d2, d3, d4, d5, h3, hm1, L2.ixN, e, tI, hl, hmax, hm3, rd]
      · simp at hy; omega
      · simp at hy; omega
    · obtain ⟨x5, s5, d5, a5, b5, D5⟩ := Ldrawn_ (d + 1) D3 7 (by decide) (by decide)
      obtain ⟨y, hy, e⟩ := at_ints [st, st, -st, x1 - 4, x2 - 20, 2 * st, 0] x5 (by omega) (by simp; omega)
      simp only [List.map_cons, List.map_nil] at e
      refine ⟨y, .own [.int st, .int st, .int (-st), .int (x1 - 4), .int (x2 - 20), .int (2 * st), .int 0], s5, ?_, ?_, ?_, D5⟩
      · simp [loopF, Fu.bLlook_1, d1, d2, d3, d5, h3, h4, hm1, e, tI, hl, hmax, hm3, rd]
      · simp at hy; omega
      · simp at hy; omega
  · obtain ⟨x5, s5, d5, a5, b5, D5⟩ := Ldrawn_ (d + 1) D2 7 (by decide) (by decide)
    obtain ⟨y, hy, e⟩ := at_ints [st, st, -st, x1 - 4, x2 - 20, 2 * st, 0] x5 (by omega) (by simp; omega)
    simp only [List.map_cons, List.map_nil] at e
    refine ⟨y, .own [.int st, .int st, .int (-st), .int (x1 - 4), .int (x2 - 20), .int (2 * st), .int 0], s5, ?_, ?_, ?_, D5⟩
    · simp [loopF, Fu.bLlook_1, d1, d2, d5, h3, hm1, e, tI, hl, hmax, hm3, rd]
    · simp at hy; omega
    · simp at hy; omega
theorem Llook_ (d : Nat) {s : Sto} (hs : Dr ns rest s) : ∃ st sd sp s', call Fu.tb (d + 3) .Llook [.loc 0] s = .ok (.v (lk st sd sp)) s' ∧ Lk st sd sp ∧ Dr ns rest s' := by
  rw [call_eq rfl rfl]
  obtain ⟨x0, s0, d0, a0, b0, D0⟩ := Ldrawn_ (d + 1) hs 4 (by decide) (by decide)
  obtain ⟨y0, hy0, e0⟩ := at_ints [3, 3, 5, 8] x0 (by omega) (by simp; omega)
  simp only [List.map_cons, List.map_nil] at e0
  obtain ⟨sd, s1, d1, g1, g2, D1⟩ := Lsides_ d D0 y0 (by simp at hy0; omega) (by simp at hy0; omega)
  obtain ⟨env', s', e, t, w, st, e4, e7, h3, h4, h5, h6, h7, D2, rfl⟩ := forL_ind (f := loopF (call Fu.tb (d + 2)) (.nm 4) Fu.bLlook_1) (fun l env u => ∃ (t w : List Int) (st : Int) (e4 e7 : Sl), l = t.map .int ∧ w.length + t.length = sd.length ∧ (∀ x ∈ w, -512 ≤ x ∧ x ≤ 512) ∧ (∀ x ∈ t, 0 ≤ x ∧ x ≤ 8) ∧ (1 ≤ st ∧ st * 8 ^ t.length ≤ 512) ∧ Dr ns rest u ∧ env = [.v (.loc 0), .v (tI sd), .v (tI w), .v (.int st), e4, .no, .no, e7, .no]) (by
    rintro x l env s ⟨t, w, st, e4, e7, h3, h4, h5, h6, ⟨h7, h8⟩, D, rfl⟩
    cases t with
    | nil => cases h3
    | cons a t =>
      cases h3
      have ha := h6 a (List.mem_cons_self ..)
      rw [List.length_cons] at h4 h8
      have hp : (1 : Int) ≤ 8 ^ t.length := by
        have : 0 < (8 : Int) ^ t.length := Int.pow_pos (by decide)
        omega
      have h9 : st * 8 * 1 ≤ st * 8 * 8 ^ t.length := Int.mul_le_mul_of_nonneg_left hp (by omega)
      have h10 : st * 8 * 8 ^ t.length ≤ 512 := by
        rw [Int.mul_assoc, Int.mul_comm 8, ← Int.pow_succ]
        exact h8
      obtain ⟨y, e7', s', e, y1, y2, D'⟩ := look_turn d sd t w a st e4 e7 D (by omega) h5 ha h7 (by omega)
      refine ⟨_, s', e, t, y :: w, _, _, _, rfl, by simp; omega, ?_, fun x hx => h6 x (List.mem_cons_of_mem _ hx), ⟨?_, ?_⟩, D', rfl⟩
      · intro z hz
        rcases List.mem_cons.mp hz with rfl | hz
        · exact ⟨y1, y2⟩
        · exact h5 z hz
      · have := Int.mul_le_mul_of_nonneg_left (a := 1) (b := max 1 a) (c := st) (by omega) (by omega)
        omega
      · have h11 : st * max 1 a ≤ st * 8 := Int.mul_le_mul_of_nonneg_left (by omega) (by omega)
        have := Int.mul_le_mul_of_nonneg_right h11 (by omega : (0 : Int) ≤ 8 ^ t.length)
        omega) (sd.reverse.map .int) [.v (.loc 0), .v (tI sd), .v (.tup []), .v (.int 1), .no, .no, .no, .no, .no] s1 ⟨sd.reverse, [], 1, .no, .no, rfl, by simp, by simp, fun x hx => g2 x (by simpa using hx), ⟨by decide, by
        have : sd.length = 0 ∨ sd.length = 1 ∨ sd.length = 2 ∨ sd.length = 3 := by omega
        rcases this with h | h | h | h <;> simp [h]⟩, D1, rfl⟩
  have ht : t = [] := by cases t with | nil => rfl | cons _ _ => cases h3
  subst ht
  simp at h4
  have hrg : rg (sd.length : Int) = (List.range' 0 sd.length).map fun (k : Nat) => (k : Int) := by simp [rg, List.range_eq_range']
  have hr := rng_rg (a := (sd.length : Int)) (by omega) (by omega)
  have hc : ∀ (e5 : Sl) (g : Int → Int → Int) (bi : Bi) (hb : ∀ i j, biR s' bi [.v (.int 0), .v (.int (j * (i - 1)))] = some (.v (.int (g i j)))), ∃ out : List Int, lcL (lcF (call Fu.tb (d + 2)) [.v (.loc 0), .v (tI sd), .v (tI w), .v (.int st), e4, e5, .no, e7, .no] (.nm 8) (.some (.cmp .gt (.sub (.var 1) (.var 8)) (.cst (.int 0)))) (.bi bi (.cons (.cst (.int 0)) (.cons (.bin .mul (.sub (.var 2) (.var 8)) (.bin .sub (.sub (.var 1) (.var 8)) (.cst (.int 1)))) .nil)))) [] ((rg (sd.length : Int)).map .int) s' = .ok (out.map .int) s' ∧ out.sum = zs (z2 g) sd w := by
    intro e5 g bi hb
    obtain ⟨out, q1, q2⟩ := lcK (f := lcF (call Fu.tb (d + 2)) [.v (.loc 0), .v (tI sd), .v (tI w), .v (.int st), e4, e5, .no, e7, .no] (.nm 8) (.some (.cmp .gt (.sub (.var 1) (.var 8)) (.cst (.int 0)))) (.bi bi (.cons (.cst (.int 0)) (.cons (.bin .mul (.sub (.var 2) (.var 8)) (.bin .sub (.sub (.var 1) (.var 8)) (.cst (.int 1)))) .nil)))) g (s := s') h4 (fun n h1 h2 => by
      have b1 : L2.atI (sd.map AV.int) (n : Int) = some (.int sd[n]) := at_nat rfl (by simp [h1])
      have b2 : L2.atI (w.map AV.int) (n : Int) = some (.int w[n]) := at_nat rfl (by simp [h2])
      have b3 := g2 sd[n] (List.getElem_mem h1)
      have hm : mulOk w[n] (sd[n] - 1) = true := by unfold mulOk; simp; omega
      by_cases hp : 0 < sd[n]
      · simp [lcF, tI, b1, b2, hp, hm, hb]
      · simp [lcF, tI, b1, b2, hp]) sd.length 0 [] (by omega) (by simp; omega)
    rw [hrg]
    exact ⟨out, by simpa using q1, by simpa using q2⟩
  obtain ⟨o1, l1, l2⟩ := hc .no lo1 .min (fun i j => by simp [lo1]; omega)
  obtain ⟨o2, l3, l4⟩ := hc (.v (.int o1.sum)) hi1 .max (fun i j => by simp [hi1]; omega)
  have hL := zs_lo sd w
  have hH := zs_hi sd w
  rw [← l2] at hL
  rw [← l4] at hH
  by_cases hb : 511 < o2.sum - o1.sum
  · cases sd with
    | nil =>
      simp [zs] at l2 l4
      omega
    | cons a r =>
      refine ⟨0, [a], [1], s', ?_, ?_, D2⟩
      · have c1 := cut_one ((a :: r).map AV.int)
        have c2 := cut_one [AV.int 1]
        simp [Fu.bLlook, tI, lk, List.replicate, d0, e0] at e d1 l1 l3 hr c1 c2 ⊢
        simp [d1, e, hr, l1, l3, hb, c1, c2]
      · have ga := g2 a (List.mem_cons_self ..)
        refine ⟨by simp, fun x hx => ?_, by simp, fun x hx => ?_, by omega, ?_⟩
        · simp at hx; subst hx; exact ga
        · simp at hx; omega
        · simp [pr, zs, lo1, hi1]
          omega
  · obtain ⟨x7, s7, d7, a7, b7, D7⟩ := Ldrawn_ (d + 1) D2 (if 512 - o2.sum + o1.sum < 20 then 512 - o2.sum + o1.sum else 20) (by split <;> omega) (by split <;> omega)
    refine ⟨-o1.sum + x7, sd, w, s7, ?_, ?_, D7⟩
    · simp [Fu.bLlook, tI, lk, List.replicate, d0, e0] at e d1 l1 l3 hr ⊢
      simp [d1, e, hr, l1, l3, hb, d7]
    · have hx : x7 < 512 - o2.sum + o1.sum := by split at b7 <;> omega
      refine ⟨g1, g2, h4, h5, by omega, ?_⟩
      by_cases hz : pr sd = 0
      · exact .inl hz
      · rw [pr_zs lo1 sd w (fun x hx => (g2 x hx).1) hz] at l2
        rw [pr_zs hi1 sd w (fun x hx => (g2 x hx).1) hz] at l4
        exact .inr (by omega)
end LW

set_option maxRecDepth 100000
set_option maxHeartbeats 2000000
namespace LW
open EV PySem PySem.Spec
variable {ns : List Int} {rest : List Ob}
theorem heap_dr {s : Sto} (D : Dr ns rest s) (l : List AV) : ∃ n, s.ob.length = n + 1 ∧ (s.ob ++ [Ob.lst l])[n + 1]? = some (.lst l) ∧ Dr ns (rest ++ [.lst l]) ⟨s.fl, s.ob ++ [.lst l]⟩ := by
  obtain ⟨i, m, v, hi, rfl⟩ := D
  refine ⟨rest.length, rfl, ?_, i, m, v, hi, rfl⟩
  simp [mkS]
theorem app_dr {s : Sto} (D : Dr ns rest s) {n : Nat} {l : List AV} (a : AV) (h : s.ob[n + 1]? = some (.lst l)) (hl : l.length < sizeLine) :
    isLoc s (.v (.loc (n + 1))) = some (n + 1) ∧ ∃ s' rest', wr s (n + 1) (fun l => if l.length < sizeLine then some (l ++ [a]) else none) = some s' ∧ Dr ns rest' s' := by
  obtain ⟨i, m, v, hi, rfl⟩ := D
  refine ⟨by simp [isLoc, h], ⟨0, (.lst [.scr ns, .int i, .int m, .int v] :: rest).set (n + 1) (.lst (l ++ [a]))⟩, rest.set n (.lst (l ++ [a])), ?_, i, m, v, hi, rfl⟩
  have h' : (mkS ns i m v rest).ob[n + 1]? = some (.lst l) := h
  have hf : (mkS ns i m v rest).fl = 0 := rfl
  simp [wr, h', hf, hl]
  rfl
theorem cz_len {st : Int} {sd sp : List Int} (h : Lk st sd sp) : (cz st sd sp).length ≤ 512 := by
  unfold cz
  rw [List.length_map]
  exact pl_512 h.h1 h.h2
theorem hSame : Fu.tb .Lsame = ⟨2, 3, dSame .Lsame⟩ := rfl
theorem same_cells (d : Nat) {st : Int} {sd sp : List Int} (h : Lk st sd sp) {s : Sto} {n : Nat} (hn : s.ob[n]? = some (.lst (cz st sd sp))) : call Fu.tb (d + 2) .Lsame [.loc n, .lst (cz st sd sp)] s = .ok (.v (.bl true)) s := by
  refine same_seq hSame (.inr rfl) (k_loc n _ hn) rfl (seqOf_loc n _ hn) rfl (small_nat (Nat.lt_of_le_of_lt (cz_len h) (by decide))) fun a ha => ?_
  obtain ⟨p, _, rfl⟩ := List.mem_map.mp ha
  exact same_ hSame d _ s (by cases d <;> trivial)
theorem okD_int (d : Nat) (i : Int) : okD d (.int i) := by cases d <;> trivial
theorem okD_tI (d : Nat) (l : List Int) (h : l.length ≤ 4096) : okD (d + 1) (tI l) := by
  refine ⟨by rw [List.length_map]; exact Nat.lt_of_le_of_lt h (by decide), fun x hx => ?_⟩
  obtain ⟨i, _, rfl⟩ := List.mem_map.mp hx
  exact okD_int d i
theorem same_whole (d : Nat) (sd : List Int) (h : sd.length ≤ 3) (s : Sto) : call Fu.tb (d + 3) .Lsame [lk 0 sd (rs sd), lk 0 sd (rs sd)] s = .ok (.v (.bl true)) s := by
  refine same_ hSame (d + 2) _ s ⟨by simp, fun x hx => ?_⟩
  simp at hx
  rcases hx with rfl | rfl | rfl
  · exact okD_int _ _
  · exact okD_tI _ _ (by omega)
  · exact okD_tI _ _ (by rw [rs_len]; omega)
/-- the steps by the law's own reckoning -/
theorem law_steps (sd : List Int) (h1 : sd.length ≤ 3) (h2 : ∀ x ∈ sd, 0 ≤ x ∧ x ≤ 8) (a b e2 e3 e4 e7 e8 e9 e10 : Sl) (s : Sto) :
    ∃ f7 f9 f10, forL (loopF (call Fu.tb 11) (.nm 7) Fu.bLAW_2) ((rg sd.length).map .int) [a, b, e2, e3, e4, .v (tI sd), .v (.tup []), e7, e8, e9, e10] s = .ok (.nx, [a, b, e2, e3, e4, .v (tI sd), .v (tI (rs sd)), f7, e8, f9, f10]) s := by
  obtain ⟨env', s', e, rfl, n, m, w, f7, f9, f10, h4, h5, h6, rfl⟩ := forL_ind (f := loopF (call Fu.tb 11) (.nm 7) Fu.bLAW_2) (fun l env u => u = s ∧ ∃ (n m : Nat) (w : List Int) (f7 f9 f10 : Sl), l = ((List.range' n m).map fun (k : Nat) => (k : Int)).map .int ∧ n + m = sd.length ∧ w ++ rs (sd.drop n) = rs sd ∧ env = [a, b, e2, e3, e4, .v (tI sd), .v (tI w), f7, e8, f9, f10]) (by
    rintro x l env s ⟨rfl, n, m, w, f7, f9, f10, h4, h5, h6, rfl⟩
    cases m with
    | zero => cases h4
    | succ m =>
      rw [List.range'_succ] at h4
      cases h4
      have hn : n < sd.length := by omega
      have hd : cutA (sd.map AV.int) (some ((n : Int) + 1)) none = (sd.drop (n + 1)).map AV.int := by
        have := cut_drop (sd.map AV.int) (n + 1) (by simp; omega)
        rw [List.map_drop]
        exact this
      have hw : w.length + 1 ≤ sizeLine := szle (by
        have := congrArg List.length h6
        simp [rs_len] at this
        omega)
      obtain ⟨g10, e⟩ := forL_fold (f := loopF (call Fu.tb 11) (.nm 10) Fu.bLAW_1) (fun (c : Int) e => [a, b, e2, e3, e4, .v (tI sd), .v (tI w), .v (.int n), e8, .v (.int c), e]) mulA s ((sd.drop (n + 1)).map AV.int) 1 f10 (by
        intro x c e hx
        obtain ⟨y, hy, rfl⟩ := List.mem_map.mp hx
        have := h2 y (List.mem_of_mem_drop hy)
        have : mulOk c y = true := by unfold mulOk; simp; omega
        simp [loopF, Fu.bLAW_1, this, mulA])
      rw [pr_fold] at e
      refine ⟨[a, b, e2, e3, e4, .v (tI sd), .v (tI (w ++ [pr (sd.drop (n + 1))])), .v (.int n), e8, .v (.int (pr (sd.drop (n + 1)))), g10], s, ?_, rfl, n + 1, m, _, _, _, _, rfl, by omega, ?_, rfl⟩
      · simp [loopF, Fu.bLAW_2, tI, hd] at e ⊢
        simp [e, hw]
      · rw [← h6, List.drop_eq_getElem_cons hn, rs, List.append_assoc]
        rfl) ((rg sd.length).map .int) [a, b, e2, e3, e4, .v (tI sd), .v (.tup []), e7, e8, e9, e10] s ⟨rfl, 0, sd.length, [], e7, e9, e10, by simp [rg, List.range_eq_range'], by omega, by simp, rfl⟩
  have hm : m = 0 := by cases m with | zero => rfl | succ m => rw [List.range'_succ] at h4; cases h4
  subst hm
  have hn : n = sd.length := by omega
  subst hn
  simp [rs] at h6
  subst h6
  exact ⟨_, _, _, e⟩
theorem law_again {st : Int} {sd sp : List Int} (h : Lk st sd sp) (a b e2 e4 e5 e6 e7 e8 e9 e10 : Sl) (l : List AV) {s : Sto} (D : Dr ns rest s) :
    ∃ f4 f8 s' rest', forL (loopF (call Fu.tb 11) (.nm 4) Fu.bLAW_3) l [a, b, e2, .v (lk st sd sp), e4, e5, e6, e7, e8, e9, e10] s = .ok (.nx, [a, b, e2, .v (lk st sd sp), f4, e5, e6, e7, f8, e9, e10]) s' ∧ Dr ns rest' s' := by
  obtain ⟨env', s', e, rest', f4, f8, D', rfl⟩ := forL_ind (f := loopF (call Fu.tb 11) (.nm 4) Fu.bLAW_3) (fun _ env u => ∃ (rest : List Ob) (f4 f8 : Sl), Dr ns rest u ∧ env = [a, b, e2, .v (lk st sd sp), f4, e5, e6, e7, f8, e9, e10]) (by
    rintro x l env s ⟨rest, f4, f8, D, rfl⟩
    obtain ⟨n, q1, q2, D1⟩ := heap_dr D (cz st sd sp)
    obtain ⟨q3, s', rest', q4, D'⟩ := app_dr D1 (.int 0) q2 (Nat.lt_of_le_of_lt (cz_len h) (by decide))
    have c1 := cells_ 6 h s
    have c2 := Lcells_ 6 h ⟨s.fl, s.ob ++ [.lst (cz st sd sp)]⟩
    have c3 := same_cells 9 h (s := ⟨s.fl, s.ob ++ [.lst (cz st sd sp)]⟩) q2
    refine ⟨[a, b, e2, .v (lk st sd sp), .v x, e5, e6, e7, .v (.loc (n + 1)), e9, e10], s', ?_, rest', _, _, D', rfl⟩
    simp [loopF, Fu.bLAW_3, c1, c2, c3, q1, q3, q4]) l [a, b, e2, .v (lk st sd sp), e4, e5, e6, e7, e8, e9, e10] s ⟨rest, e4, e8, D, rfl⟩
  exact ⟨f4, f8, s', rest', e, D'⟩
theorem plain (ns : List Int) : ∃ s, call Fu.tb 12 .LAW [.scr ns] ⟨0, []⟩ = .ok (.v (.bl true)) s := by
  rw [call_eq rfl rfl]
  obtain ⟨m0, c0⟩ := start_ (tb := Fu.tb) (f := .Lstart) rfl 10 ns ⟨0, []⟩
  obtain ⟨env', s', e, rest', D', e2, e3, e4, e5, e6, e7, e8, e9, e10, rfl⟩ := forL_ind (f := loopF (call Fu.tb 11) (.nm 2) Fu.bLAW_4) (fun _ env u => ∃ (rest : List Ob), Dr ns rest u ∧ ∃ e2 e3 e4 e5 e6 e7 e8 e9 e10 : Sl, env = [.v (.scr ns), .v (.loc 0), e2, e3, e4, e5, e6, e7, e8, e9, e10]) (by
    rintro x l env s ⟨rest, D, e2, e3, e4, e5, e6, e7, e8, e9, e10, rfl⟩
    obtain ⟨st, sd, sp, s1, c1, h, D1⟩ := Llook_ 8 D
    have r2 := rng_rg (a := 2) (by decide) (by decide)
    obtain ⟨f4, f8, s2, rest2, c2, D2⟩ := law_again h (.v (.scr ns)) (.v (.loc 0)) (.v x) e4 e5 e6 e7 e8 e9 e10 ((rg 2).map .int) D1
    obtain ⟨sz, s3, c3, g1, g2, D3⟩ := Lsides_ 9 D2 8 (by decide) (by decide)
    obtain ⟨f7, f9, f10, c4⟩ := law_steps sz g1 g2 (.v (.scr ns)) (.v (.loc 0)) (.v x) (.v (lk st sd sp)) f4 e7 f8 e9 e10 s3
    have r3 := rng_rg (a := (sz.length : Int)) (by omega) (by omega)
    have c5 := whole_ 8 sz s3 g1 g2
    have c6 := same_whole 8 sz g1 s3
    refine ⟨[.v (.scr ns), .v (.loc 0), .v x, .v (lk st sd sp), f4, .v (tI sz), .v (tI (rs sz)), f7, f8, f9, f10], s3, ?_, rest2, D3, _, _, _, _, _, _, _, _, _, rfl⟩
    have e1 : subR s3 (.v (tI sz)) (.v (.int 0)) = subR s3 (.v (tI sz)) (.v (.int 0)) := rfl
    have l1 : biR s3 .len [.v (tI sz)] = some (.v (.int sz.length)) := by simp [tI]
    have k6 : AV.tup [.int 0, tI sz, tI (rs sz)] = lk 0 sz (rs sz) := rfl
    simp [loopF, Fu.bLAW_4, c1, r2, c2, c3, l1, r3, c4, c5, k6, c6]) ((rg 10).map .int) [.v (.scr ns), .v (.loc 0), .no, .no, .no, .no, .no, .no, .no, .no, .no] (mkS ns 0 m0 0 []) ⟨[], ⟨0, m0, 0, by decide, rfl⟩, _, _, _, _, _, _, _, _, _, rfl⟩
  have r1 := rng_rg (a := 10) (by decide) (by decide)
  have k0 : (⟨0, [Ob.lst [.scr ns, .int 0, .int m0, .int 0]]⟩ : Sto) = mkS ns 0 m0 0 [] := rfl
  refine ⟨s', ?_⟩
  simp [Fu.bLAW, c0, List.replicate, r1, k0, e]
end LW

set_option maxRecDepth 100000
set_option maxHeartbeats 0
namespace LW
open PySem PySem.Spec PyProof.Rows L2
def topS (i : Nat) : Stmt := PySem.Challenge.pw_viewsheets_k02_cells_of_looks.main.body.getD i (.Pass ⟨0, 0, 0, 0⟩)
theorem chk : ∀ f : Fu, EV.defOk Fu.nm gcs (Fu.ps f) (Fu.loc f) (defScope (topS (Fu.ix f))) (Fu.tb f) (defBody (topS (Fu.ix f))) = true := by
  intro f
  cases f <;> decide +kernel
def fn_0 : List He.DefD := [EV.mkD "is_number" (topS 7), EV.mkD "are_sides" (topS 8), EV.mkD "many_of" (topS 9), EV.mkD "is_look" (topS 10), EV.mkD "need_look" (topS 11), EV.mkD "least_of" (topS 12), EV.mkD "greatest_of" (topS 13), EV.mkD "places_of" (topS 14), EV.mkD "cell_of" (topS 15), EV.mkD "cells_of" (topS 16), EV.mkD "cells" (topS 17), EV.mkD "row_steps" (topS 18), EV.mkD "whole_of" (topS 19), EV.mkD "whole" (topS 20), EV.mkD "_law_start" (topS 22), EV.mkD "_law_drawn" (topS 23), EV.mkD "_law_same" (topS 24), EV.mkD "_law_sides" (topS 25), EV.mkD "_law_look" (topS 26), EV.mkD "_law_places" (topS 27), EV.mkD "_law_cell" (topS 28), EV.mkD "_law_cells" (topS 29), EV.mkD "law" (topS 30)]
def fn : List He.DefD := fn_0
def fa_0 : List He.Fa := [.glo "is_number", .glo "are_sides", .glo "many_of", .glo "is_look", .glo "need_look", .glo "least_of", .glo "greatest_of", .glo "places_of", .glo "cell_of", .glo "cells_of", .glo "cells", .glo "row_steps", .glo "whole_of", .glo "whole", .glo "_law_start", .glo "_law_drawn", .glo "_law_same", .glo "_law_sides", .glo "_law_look", .glo "_law_places", .glo "_law_cell", .glo "_law_cells", .glo "law", .free "len", .free "sum", .free "min", .free "max", .free "tuple", .free "list", .free "isinstance"]
def fa_1 : List He.Fa := [.free "range", .free "reversed", .free "zip", .free "enumerate", .free "int", .free "bool", .free "str", .free "sorted", .free "dict", .free "set", .int "MOST_CELLS" 512, .int "MOST_SIDES" 3, .int "MOST_SIDE" 8]
def fa : List He.Fa := fa_0 ++ fa_1
abbrev R : PySem.W.OpenRow := PySem.W.OpenLaw.row PySem.Challenge.rw_viewsheets_k02_cells_of_looks
def names_0 : List Str := ["is_number", "are_sides", "many_of", "is_look", "need_look", "least_of", "greatest_of", "places_of", "cell_of", "cells_of", "cells", "row_steps", "whole_of", "whole", "_law_start", "_law_drawn", "_law_same", "_law_sides", "_law_look", "_law_places", "_law_cell", "_law_cells", "SheetError", "BadLook", "__name__", "MOST_CELLS", "MOST_SIDES", "MOST_SIDE"]
def names : List Str := names_0
abbrev hk : PySem.W.Hook := He.hookD 4 fa fn
def ob (s : PySem.W.SharedT) : He.AlD := He.obsDG 4 fa fn (HandSHeadRun.getT s)
theorem ob_eq (s : PySem.W.SharedT) : ob s = hk.obs s.abs := He.obsDG_eq (HandSHeadRun.getT_eq s)
theorem run (w : World) : HandSHeadRun.RunEq R (PySem.W.view R.prog [30]) hk ob 20000 names w := by
  intro os
  kernel_rfl
def tab : EV.Tab Fu := ⟨fun f => topS (Fu.ix f), Fu.nm, Fu.ps, Fu.loc, Fu.tb⟩
theorem hfn : ∀ f : Fu, ∃ i : Nat, fn[i]? = some (EV.mkD (Fu.nm f) (topS (Fu.ix f))) := fun f => ⟨Fu.po f, by cases f <;> rfl⟩
theorem hgl : ∀ f : Fu, ∃ i : Nat, fa[i]? = some (.glo (Fu.nm f)) := fun f => ⟨Fu.po f, by cases f <;> rfl⟩
theorem hfr : ∀ x ∈ EV.bNames, ∃ i : Nat, fa[i]? = some (.free x) := by
  unfold EV.bNames
  simp only [List.forall_mem_cons]
  exact ⟨⟨23, rfl⟩, ⟨24, rfl⟩, ⟨25, rfl⟩, ⟨26, rfl⟩, ⟨27, rfl⟩, ⟨28, rfl⟩, ⟨29, rfl⟩, ⟨30, rfl⟩, ⟨31, rfl⟩, ⟨32, rfl⟩, ⟨33, rfl⟩, ⟨34, rfl⟩, ⟨35, rfl⟩, ⟨36, rfl⟩, ⟨37, rfl⟩, ⟨38, rfl⟩, ⟨39, rfl⟩, fun _ h => nomatch h⟩
theorem hcs : ∀ p ∈ gcs, ∃ i : Nat, (∃ n, p.2 = .int n ∧ fa[i]? = some (.int p.1 n)) ∨ ∃ y, p.2 = .str y ∧ fa[i]? = some (.str p.1 y) := by
  unfold gcs
  simp only [List.forall_mem_cons]
  exact ⟨⟨40, .inl ⟨_, rfl, rfl⟩⟩, ⟨41, .inl ⟨_, rfl, rfl⟩⟩, ⟨42, .inl ⟨_, rfl, rfl⟩⟩, fun _ h => nomatch h⟩
theorem hb : ∀ (f : Fu) (kV doc pm : Value) (an : Option Addr) (cdv ct : Value) (us : List Value), us.length = (Fu.ps f).length → bindArgs (PySem.W.fnOf (Fu.nm f) (Fu.nm f) (defArgs (topS (Fu.ix f))) (defBody (topS (Fu.ix f))) (defScope (topS (Fu.ix f))) .none kV doc pm an cdv ct) ⟨us, []⟩ = pure ((Fu.ps f).zip us) := by
  intro f kV doc pm an cdv ct us hl
  cases f
  case is_number => exact match us, hl with | [_, _, _], _ => rfl
  case are_sides => exact match us, hl with | [_], _ => rfl
  case many_of => exact match us, hl with | [_], _ => rfl
  case is_look => exact match us, hl with | [_], _ => rfl
  case need_look => exact match us, hl with | [_], _ => rfl
  case least_of => exact match us, hl with | [_], _ => rfl
  case greatest_of => exact match us, hl with | [_], _ => rfl
  case places_of => exact match us, hl with | [_], _ => rfl
  case cell_of => exact match us, hl with | [_, _], _ => rfl
  case cells_of => exact match us, hl with | [_], _ => rfl
  case cells => exact match us, hl with | [_], _ => rfl
  case row_steps => exact match us, hl with | [_], _ => rfl
  case whole_of => exact match us, hl with | [_], _ => rfl
  case whole => exact match us, hl with | [_], _ => rfl
  case Lstart => exact match us, hl with | [_], _ => rfl
  case Ldrawn => exact match us, hl with | [_, _], _ => rfl
  case Lsame => exact match us, hl with | [_, _], _ => rfl
  case Lsides => exact match us, hl with | [_, _], _ => rfl
  case Llook => exact match us, hl with | [_], _ => rfl
  case Lplaces => exact match us, hl with | [_], _ => rfl
  case Lcell => exact match us, hl with | [_, _], _ => rfl
  case Lcells => exact match us, hl with | [_], _ => rfl
  case LAW => exact match us, hl with | [_], _ => rfl
end LW
open PySem PySem.W PySem.Calls PyProof.Rows
theorem PySem.Challenge.holds_of (hp : ∀ ns : List Int, ns.length ≤ 63 → ∃ s, EV.call LW.Fu.tb 12 .LAW [.scr ns] ⟨0, []⟩ = .ok (.v (.bl true)) s) : PySem.Challenge.rw_viewsheets_k02_cells_of_looks.Holds := by
  w_on; o_law
  refine HandSHeadRun.head_any (r := OpenLaw.row PySem.Challenge.rw_viewsheets_k02_cells_of_looks) (q := view (OpenLaw.row PySem.Challenge.rw_viewsheets_k02_cells_of_looks).prog [30]) (H := LW.hk) (ob := LW.ob) (M := 20000) (loose := LW.names) (d := HandSHeadRun.topDef (OpenLaw.row PySem.Challenge.rw_viewsheets_k02_cells_of_looks).prog 30) (kwd := []) LW.ob_eq
    (by kernel_rfl) (fun s => by kernel_rfl) LW.run (by kernel_rfl) (by kernel_rfl) (by kernel_rfl) (by rfl) (by first | assumption | decide +kernel) (by decide +kernel) ⟨rfl, rfl, rfl, rfl, rfl, by decide +kernel⟩ ?hw ?hc
  case hw => w_witness2
  case hc =>
    refine L2.walk_ofE (l := PySem.Challenge.rw_viewsheets_k02_cells_of_looks) (n := 63) (k := 12) (x := "_law_script") (CX := EV.CXA) rfl (by decide) (by kernel_rfl) ⟨rfl, by decide, by decide⟩ ?F EV.cx_no
    intro w mg fa h Y G hmg0
    obtain ⟨K, KX, c⟩ := Y
    have hmg : mg (LW.tab.nm .LAW) = some (.ref fa) := by
      have e : (HandSHeadRun.topDef (OpenLaw.row PySem.Challenge.rw_viewsheets_k02_cells_of_looks).prog 30).name = LW.tab.nm .LAW := by kernel_rfl
      rw [← e]
      exact hmg0
    obtain ⟨G', fd, h1, h2, h3⟩ := EV.facts (P := (PySem.Challenge.rw_viewsheets_k02_cells_of_looks).prog) (w := w) LW.tab .LAW 12 KX G hmg c LW.chk LW.hfn LW.hgl LW.hfr LW.hcs LW.hb
    exact ⟨K, fd, _, KX, fun s u => h2 s [u] rfl, fun H a ns hl hO hS => EV.sp_law (by rw [h1]; rfl) (hp ns hl) hO hS, h3⟩

theorem PySem.Challenge.cw_viewsheets_k02_cells_of_looks_holds : PySem.Challenge.rw_viewsheets_k02_cells_of_looks.Holds := by
  exact PySem.Challenge.holds_of fun ns _ => LW.plain ns
