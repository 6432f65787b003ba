import PyProof.Rows.All
import Wide.All
import OpenK.AllK
import Wide.FinOn
import HandS.ForMost
import HandS.WideBits
import HandS.Exc
import HandS.TryOnly
import HandS.ExcOwn
import HandS.WordsExc
import HandS.WordsList
import HandS.IsInst
import HandS.Defaults
import HandS.Flow
import HandS.Style
import HandS.TupAny
import HandS.HeadHook1
import HandS.HeadHook2
import HandS.CallSlots
import KE.GoesEnum
import HandS.HeadEnd
import HandS.HeadHook3
import HandS.Head3
import HandS.Zip
import KE.BitLaws
import KE.KBits
import HandS.Head0
import HandS.Head1
import HandS.Head2
import PySem.Challenge.RW_onlycarries_k12_whole_low_bits
set_option Elab.async false
set_option linter.all false
set_option maxRecDepth 100000
set_option maxHeartbeats 0
/-! Plain data of a small Python, and what its expressions, statements and defs compute: total Lean functions, no program in sight. -/
namespace Py
open PySem L2

inductive D where
  | non | bl (b : Bool) | int (i : Int) | str (s : String)
  | tup (xs : List D) | lst (xs : List D) | dic (kvs : List (D × D)) | ins (c : String) (fs : List (String × D))
  deriving Inhabited

inductive Res (α : Type) where
  | ok (a : α) | exc (c : String) (fs : List (String × D)) | stuck
@[reducible] def Res.bind {α β : Type} (r : Res α) (f : α → Res β) : Res β := match r with
  | .ok a => f a | .exc c fs => .exc c fs | .stuck => .stuck
instance : Monad Res := { pure := Res.ok, bind := Res.bind }
@[simp] theorem bind_ok {α β : Type} (a : α) (f : α → Res β) : (Res.ok a >>= f) = f a := rfl
@[simp] theorem bind_exc {α β : Type} (c : String) (fs) (f : α → Res β) : ((Res.exc c fs : Res α) >>= f) = .exc c fs := rfl
@[simp] theorem bind_stuck {α β : Type} (f : α → Res β) : ((Res.stuck : Res α) >>= f) = .stuck := rfl
@[simp] theorem pure_ok {α : Type} (a : α) : (pure a : Res α) = .ok a := rfl
def noexc {α : Type} : Res α → Res α
  | .ok a => .ok a | .exc _ _ => .stuck | .stuck => .stuck
@[simp] theorem noexc_ok {α : Type} (a : α) : noexc (.ok a : Res α) = .ok a := rfl

def SZ : Nat := 16777216
abbrev Env := List (Option D)
abbrev EM := Env → Res D
abbrev TM := Env → Res Bool
abbrev AM := Env → Res (List D)
inductive Fl where
  | next (e : Env) | ret (d : D) | brk (e : Env) | cnt (e : Env)
abbrev SM := Env → Res Fl

/-! ### data -/
def chk (n : Nat) (d : D) : Res D := if n ≤ SZ then .ok d else .stuck
theorem chk_ok {n : Nat} {d : D} (h : n ≤ SZ) : chk n d = .ok d := if_pos h
/-- no list, dict or instance within -/
def imm : D → Bool
  | .non | .bl _ | .int _ | .str _ => true
  | .tup xs => immL xs
  | .lst _ | .dic _ | .ins _ _ => false
where immL : List D → Bool
  | [] => true
  | d :: r => imm d && immL r
/-- no dict or instance within, at most n deep: == walks it -/
def pl : Nat → D → Bool
  | _, .non => true
  | _, .bl _ => true
  | _, .int _ => true
  | _, .str _ => true
  | n + 1, .tup xs => xs.all (pl n)
  | n + 1, .lst xs => xs.all (pl n)
  | _, _ => false
def plain (d : D) : Bool := pl 64 d
/-- no object but a text -/
def flatD : D → Bool
  | .non => true
  | .bl _ => true
  | .int _ => true
  | .str _ => true
  | _ => false
def b2i (b : Bool) : Int := if b then 1 else 0
/-- == of plain data -/
def eqv : D → D → Bool
  | .non, .non => true
  | .bl a, .bl b => a == b
  | .bl a, .int j => b2i a == j
  | .int i, .bl b => i == b2i b
  | .int i, .int j => i == j
  | .str a, .str b => a == b
  | .tup xs, .tup ys => eqvL xs ys
  | .lst xs, .lst ys => eqvL xs ys
  | _, _ => false
where eqvL : List D → List D → Bool
  | [], [] => true
  | x :: xs, y :: ys => eqv x y && eqvL xs ys
  | _, _ => false
inductive Ty where
  | non | bl | int | str | tup | lst | dic | cls (c : String)
  deriving DecidableEq
def isI (t : Ty) : D → Bool
  | .non => decide (t = .non)
  | .bl _ => decide (t = .bl) || decide (t = .int)
  | .int _ => decide (t = .int)
  | .str _ => decide (t = .str)
  | .tup _ => decide (t = .tup)
  | .lst _ => decide (t = .lst)
  | .dic _ => decide (t = .dic)
  | .ins c _ => decide (t = .cls c)

/-! ### operators -/
def oadd : D → D → Res D
  | .int i, .int j => .ok (.int (i + j))
  | .str a, .str b => if a.length + b.length ≤ SZ then .ok (.str (a ++ b)) else .stuck
  | .tup a, .tup b => if a.length + b.length ≤ SZ then .ok (.tup (a ++ b)) else .stuck
  | .lst a, .lst b => if a.length + b.length ≤ SZ then .ok (.lst (a ++ b)) else .stuck
  | _, _ => .stuck
def osub : D → D → Res D
  | .int i, .int j => .ok (.int (i - j))
  | _, _ => .stuck
def B64 : Nat := 18446744073709551616
def omul : D → D → Res D
  | .int i, .int j => if i.natAbs < B64 ∨ j.natAbs < B64 then .ok (.int (i * j)) else .stuck
  | _, _ => .stuck
/-- a list so many times -/
def olrep : D → D → Res D
  | .lst xs, .int k => if xs.length ≤ 1000 ∧ k.natAbs ≤ 1000 then .ok (.lst (List.replicate k.toNat xs).flatten) else .stuck
  | _, _ => .stuck
def ofdiv : D → D → Res D
  | .int i, .int j => if 0 < j ∧ j < 1073741824 then .ok (.int (i / j)) else .stuck
  | _, _ => .stuck
def omod : D → D → Res D
  | .int i, .int j => if 0 < j then .ok (.int (i % j)) else .stuck
  | _, _ => .stuck
def opow : D → D → Res D
  | .int i, .int j => if 0 ≤ j ∧ j ≤ 1000000 ∧ i.natAbs < 18446744073709551616 then .ok (.int (i ^ j.toNat)) else .stuck
  | _, _ => .stuck
def oshl : D → D → Res D
  | .int i, .int j => if 0 ≤ j ∧ (Builtin.Int.intBits i : Int) + j ≤ 134217728 then .ok (.int (i * 2 ^ j.toNat)) else .stuck
  | _, _ => .stuck
def oshr : D → D → Res D
  | .int i, .int j => if 0 ≤ j then .ok (.int (i / 2 ^ j.toNat)) else .stuck
  | _, _ => .stuck
def oand : D → D → Res D
  | .int i, .int j => .ok (.int (Builtin.bitAnd i j))
  | _, _ => .stuck
def oor : D → D → Res D
  | .int i, .int j => .ok (.int (Builtin.bitOr i j))
  | _, _ => .stuck
def oxor : D → D → Res D
  | .int i, .int j => .ok (.int (Builtin.bitXor i j))
  | _, _ => .stuck
def oneg : D → Res D
  | .int i => .ok (.int (-i))
  | _ => .stuck
def oinv : D → Res D
  | .int i => .ok (.int (Builtin.bitNot i))
  | _ => .stuck
def opt : Option D → Res D
  | some d => .ok d
  | none => .stuck
def tyOf : D → Ty
  | .non => .non | .bl _ => .bl | .int _ => .int | .str _ => .str | .tup _ => .tup | .lst _ => .lst | .dic _ => .dic | .ins c _ => .cls c
/-- an instance's class is among these, so is a class that is asked for -/
def inCs (cs : List String) : Ty → Bool
  | .cls c => cs.contains c
  | _ => true
def oisi (cs : List String) (ts : List Ty) (d : D) : Res D := if inCs cs (tyOf d) && ts.all (fun t => inCs cs t && decide (t ≠ .non)) then .ok (.bl (ts.any fun t => isI t d)) else .stuck
def oattr (cs : List String) (f : String) : D → Res D
  | .ins c fs => if cs.contains c then opt (fs.lookup f) else .stuck
  | _ => .stuck
/-- x += y of numbers -/
def oiadd : D → D → Res D
  | .int i, .int j => .ok (.int (i + j))
  | _, _ => .stuck
def oior : D → D → Res D
  | .int i, .int j => .ok (.int (Builtin.bitOr i j))
  | _, _ => .stuck
def oixor : D → D → Res D
  | .int i, .int j => .ok (.int (Builtin.bitXor i j))
  | _, _ => .stuck
def oiand : D → D → Res D
  | .int i, .int j => .ok (.int (Builtin.bitAnd i j))
  | _, _ => .stuck
def oisub : D → D → Res D
  | .int i, .int j => .ok (.int (i - j))
  | _, _ => .stuck
def olt : D → D → Res D
  | .int i, .int j => .ok (.bl (decide (i < j)))
  | _, _ => .stuck
def ole : D → D → Res D
  | .int i, .int j => .ok (.bl (decide (i ≤ j)))
  | _, _ => .stuck
def ogt : D → D → Res D
  | .int i, .int j => .ok (.bl (decide (j < i)))
  | _, _ => .stuck
def oge : D → D → Res D
  | .int i, .int j => .ok (.bl (decide (j ≤ i)))
  | _, _ => .stuck
def oeq (x y : D) : Res D := if plain x && plain y then .ok (.bl (eqv x y)) else .stuck
def one (x y : D) : Res D := if plain x && plain y then .ok (.bl (!eqv x y)) else .stuck
/-- x in ys -/
def mem (x : D) : List D → Bool
  | [] => false
  | y :: r => eqv y x || mem x r
def oin : D → D → Res D
  | x, .lst ys => if flatD x && ys.all flatD then .ok (.bl (mem x ys)) else .stuck
  | x, .tup ys => if flatD x && ys.all flatD then .ok (.bl (mem x ys)) else .stuck
  | _, _ => .stuck
def onotin : D → D → Res D
  | x, .lst ys => if flatD x && ys.all flatD then .ok (.bl (!mem x ys)) else .stuck
  | x, .tup ys => if flatD x && ys.all flatD then .ok (.bl (!mem x ys)) else .stuck
  | _, _ => .stuck
def isNon : D → Bool
  | .non => true
  | _ => false
def oisN (x : D) : Res D := .ok (.bl (isNon x))
def onotN (x : D) : Res D := .ok (.bl (!isNon x))
/-- x is True, x is False, x a truth -/
def oisB : D → D → Res D
  | .bl c, .bl b => .ok (.bl (decide (c = b)))
  | _, _ => .stuck
def onotB : D → D → Res D
  | .bl c, .bl b => .ok (.bl (!decide (c = b)))
  | _, _ => .stuck
def truthy : D → Res Bool
  | .non => .ok false
  | .bl b => .ok b
  | .int i => .ok (i != 0)
  | .str s => if s.length ≤ SZ then .ok (s.length != 0) else .stuck
  | .tup xs => .ok (!xs.isEmpty)
  | .lst xs => .ok (!xs.isEmpty)
  | _ => .stuck
def onb : D → Res D
  | .bl k => .ok (.bl (!k))
  | _ => .stuck
def onot (x : D) : Res D := truthy x >>= fun b => .ok (.bl (!b))

/-! ### subscripts -/
def find (k : D) : List (D × D) → Option D
  | [] => none
  | (a, v) :: r => if eqv a k then some v else find k r
def oidx : D → D → Res D
  | .lst xs, .int i => opt (atI xs i)
  | .tup xs, .int i => opt (atI xs i)
  | .str s, .int i => if s.length ≤ SZ then opt ((atI s.toList i).map fun c => .str (String.ofList [c])) else .stuck
  | .dic kvs, k => opt (find k kvs)
  | _, _ => .stuck
/-- the items from lo up to hi -/
def cut {α : Type} (xs : List α) (lo hi : Option Int) : List α := (xs.drop (HT.sIx xs.length 0 lo)).take (HT.sIx xs.length xs.length hi - HT.sIx xs.length 0 lo)
def oslc : D → Option Int → Option Int → Res D
  | .lst xs, lo, hi => .ok (.lst (cut xs lo hi))
  | .tup xs, lo, hi => .ok (.tup (cut xs lo hi))
  | .str s, lo, hi => if s.length ≤ SZ then .ok (.str (String.ofList (cut s.toList lo hi))) else .stuck
  | _, _, _ => .stuck
def orev : D → Res D
  | .lst xs => .ok (.lst xs.reverse)
  | _ => .stuck
def attr (f : String) : D → Res D
  | .ins _ fs => opt (fs.lookup f)
  | _ => .stuck

/-! ### a table of the module: texts to numbers -/
def ohas (tab : List (String × Int)) : D → Res D
  | .str s => .ok (.bl (tab.lookup s).isSome)
  | _ => .stuck
def onothas (tab : List (String × Int)) : D → Res D
  | .str s => .ok (.bl (!(tab.lookup s).isSome))
  | _ => .stuck
def olook (tab : List (String × Int)) : D → Res D
  | .str s => opt ((tab.lookup s).map D.int)
  | _ => .stuck

/-! ### built-in calls -/
def blen : D → Res D
  | .lst xs => .ok (.int xs.length)
  | .tup xs => .ok (.int xs.length)
  | .str s => if s.length ≤ SZ then .ok (.int s.length) else .stuck
  | .dic kvs => .ok (.int kvs.length)
  | _ => .stuck
def bint : D → Res D
  | .int i => .ok (.int i)
  | .bl b => .ok (.int (b2i b))
  | _ => .stuck
def btuple : D → Res D
  | .lst xs => .ok (.tup xs)
  | .tup xs => .ok (.tup xs)
  | _ => .stuck
def blist : D → Res D
  | .lst xs => .ok (.lst xs)
  | .tup xs => .ok (.lst xs)
  | _ => .stuck
def intsOf : List D → Option (List Int)
  | [] => some []
  | .int i :: r => (intsOf r).map (i :: ·)
  | _ :: _ => none
def boolsOf : List D → Option (List Bool)
  | [] => some []
  | .bl i :: r => (boolsOf r).map (i :: ·)
  | _ :: _ => none
def bsum : D → Res D
  | .lst xs => match intsOf xs with | some is => .ok (.int is.sum) | none => .stuck
  | _ => .stuck
def ball : D → Res D
  | .lst xs => match boolsOf xs with | some bs => .ok (.bl (bs.all id)) | none => .stuck
  | _ => .stuck
def bany : D → Res D
  | .lst xs => match boolsOf xs with | some bs => .ok (.bl (bs.any id)) | none => .stuck
  | _ => .stuck
def bmax2 : D → D → Res D
  | .int i, .int j => .ok (.int (if j > i then j else i))
  | _, _ => .stuck
def bmin2 : D → D → Res D
  | .int i, .int j => .ok (.int (if j < i then j else i))
  | _, _ => .stuck
def babs : D → Res D
  | .int i => .ok (.int (if i < 0 then -i else i))
  | _ => .stuck
def bbits : D → Res D
  | .int i => .ok (.int (Builtin.Int.intBits i : Nat))
  | _ => .stuck

/-! ### expressions -/
def var (i : Nat) : EM := fun e => match e[i]? with | some (some d) => .ok d | _ => .stuck
def cst (d : D) : EM := fun _ => .ok d
def un (f : D → Res D) (a : EM) : EM := fun e => a e >>= f
def bin (f : D → D → Res D) (a b : EM) : EM := fun e => a e >>= fun x => b e >>= fun y => f x y
def argN : AM := fun _ => .ok []
def argC (a : EM) (r : AM) : AM := fun e => a e >>= fun x => r e >>= fun xs => .ok (x :: xs)
def tupE (a : AM) : EM := fun e => a e >>= fun xs => chk xs.length (.tup xs)
def lstE (a : AM) : EM := fun e => a e >>= fun xs => chk xs.length (.lst xs)
/-- x and y, x or y as values, x a truth -/
def andE (a b : EM) : EM := fun e => a e >>= fun x => match x with | .bl true => b e | .bl false => .ok (.bl false) | _ => .stuck
def orE (a b : EM) : EM := fun e => a e >>= fun x => match x with | .bl false => b e | .bl true => .ok (.bl true) | _ => .stuck
/-- a < b < c -/
def chain (f g : D → D → Res D) (a b c : EM) : EM := fun e => a e >>= fun x => b e >>= fun y => f x y >>= fun z => match z with
  | .bl true => c e >>= fun u => g y u
  | .bl false => .ok (.bl false)
  | _ => .stuck
def tst (a : EM) : TM := fun e => a e >>= truthy
def andT (a b : TM) : TM := fun e => a e >>= fun x => if x then b e else .ok false
def orT (a b : TM) : TM := fun e => a e >>= fun x => if x then .ok true else b e
def notT (a : TM) : TM := fun e => a e >>= fun x => .ok (!x)
def blE (a : TM) : EM := fun e => a e >>= fun x => .ok (.bl x)
def ifE (t : TM) (a b : EM) : EM := fun e => t e >>= fun x => if x then a e else b e
def slc (a : EM) (lo hi : Option EM) : EM := fun e => a e >>= fun x => bnd lo e >>= fun i => bnd hi e >>= fun j => oslc x i j
where bnd : Option EM → Env → Res (Option Int)
  | none, _ => .ok none
  | some m, e => m e >>= fun d => match d with | .int i => .ok (some i) | _ => .stuck
def isIE (ts : List Ty) (a : EM) : EM := fun e => a e >>= fun x => .ok (.bl (ts.any fun t => isI t x))
def call (f : List D → Res D) (a : AM) : EM := fun e => a e >>= f
/-- a call that gives back a new list, or what is no list -/
def callF (f : List D → Res D) (a : AM) : EM := fun e => a e >>= fun ds => match f ds with
  | .ok .non => .stuck
  | r => r
/-- a call with a list that the caller owns: what comes back holds no list -/
def callI (f : List D → Res D) (a : AM) : EM := fun e => a e >>= fun ds => match f ds with
  | .ok d => if imm d then .ok d else .stuck
  | .exc c fs => if fs.all (fun q => imm q.2) then .exc c fs else .stuck
  | .stuck => .stuck
/-- o.m(..), o of class c -/
def callM (c m : String) (f : List D → Res D) (a : EM) (am : AM) : EM := fun e => a e >>= fun o => match o with
  | .ins c' fs => if c' = c ∧ (fs.lookup m).isNone = true then am e >>= fun ds => f (o :: ds) else .stuck
  | _ => .stuck
/-! what is walked -/
abbrev IM := Env → Res (List D)
def iseq (a : EM) : IM := fun e => a e >>= fun x => match x with | .lst xs => .ok xs | .tup xs => .ok xs | _ => .stuck
def B62 : Nat := 4611686018427387904
def rngL (lo hi : Int) : List D := (List.range (hi - lo).toNat).map fun i => .int (lo + (i : Nat))
def irng1 (a : EM) : IM := fun e => a e >>= fun x => match x with
  | .int n => if n.natAbs < B62 then .ok (rngL 0 n) else .stuck
  | _ => .stuck
def irng2 (a b : EM) : IM := fun e => a e >>= fun x => b e >>= fun y => match x, y with
  | .int m, .int n => if m.natAbs < B62 ∧ n.natAbs < B62 then .ok (rngL m n) else .stuck
  | _, _ => .stuck
def enumL (n : Nat) : List D → List D
  | [] => []
  | d :: r => .tup [.int n, d] :: enumL (n + 1) r
def ienum (a : EM) : IM := fun e => iseq a e >>= fun xs => .ok (enumL 0 xs)
def seqOf : D → Option (Bool × List D)
  | .lst xs => some (false, xs)
  | .tup xs => some (true, xs)
  | _ => none
def ozip (a b : D) : Res (List D) := match seqOf a, seqOf b with
  | some (_, xs), some (_, ys) => .ok ((xs.zip ys).map fun p => .tup [p.1, p.2])
  | _, _ => .stuck
def izip (a b : EM) : IM := fun e => a e >>= fun x => b e >>= fun y => ozip x y
/-! targets -/
def lift {α : Type} : Option α → Res α
  | some a => .ok a
  | none => .stuck
@[simp] theorem lift_some {α : Type} (a : α) : lift (some a) = .ok a := rfl
@[simp] theorem lift_none {α : Type} : lift (none : Option α) = .stuck := rfl
abbrev GM := D → Env → Option Env
def gnm (i : Nat) : GM := fun d e => some (e.set i (some d))
def gtupL : List GM → List D → Env → Option Env
  | [], [], e => some e
  | g :: gs, d :: ds, e => (g d e).bind (gtupL gs ds)
  | _, _, _ => none
def gtup (gs : List GM) : GM := fun d e => match d with | .tup xs => gtupL gs xs e | _ => none
/-! comprehensions -/
def wipe (e : Env) : List Nat → Env
  | [] => e
  | i :: r => (wipe e r).set i none
def compL (f : D → Res (Option D)) : List D → Res (List D)
  | [] => .ok []
  | x :: xs => f x >>= fun o => compL f xs >>= fun ys => .ok (match o with | some y => y :: ys | none => ys)
def yes : TM := fun _ => .ok true
def compF (vs : List Nat) (g : GM) (t : TM) (elt : EM) (e : Env) (x : D) : Res (Option D) :=
  lift (g x (wipe e vs)) >>= fun e1 => t e1 >>= fun b => if b then elt e1 >>= fun y => .ok (some y) else .ok none
def lcE (it : IM) (vs : List Nat) (g : GM) (t : TM) (elt : EM) : EM := fun e => it e >>= fun xs =>
  noexc (compL (compF vs g t elt e) xs) >>= fun ys => chk xs.length (.lst ys)

/-! ### statements -/
def seq (a b : SM) : SM := fun e => a e >>= fun f => match f with | .next e' => b e' | r => .ok r
def skip : SM := fun e => .ok (.next e)
def asg (g : GM) (m : EM) : SM := fun e => m e >>= fun d => lift (g d e) >>= fun e' => .ok (.next e')
def aug (i : Nat) (f : D → D → Res D) (m : EM) : SM := fun e => var i e >>= fun x => m e >>= fun y => f x y >>= fun z => .ok (.next (e.set i (some z)))
def drop (m : EM) : SM := fun e => m e >>= fun _ => .ok (.next e)
def ret (m : EM) : SM := fun e => m e >>= fun d => .ok (.ret d)
def retN : SM := fun _ => .ok (.ret .non)
def ite (t : TM) (a b : SM) : SM := fun e => t e >>= fun x => if x then a e else b e
def brk : SM := fun e => .ok (.brk e)
def cnt : SM := fun e => .ok (.cnt e)
def forL (body : D → Env → Res Fl) : List D → Env → Res Fl
  | [], e => .ok (.next e)
  | x :: xs, e => match body x e with
    | .ok (.next e') => forL body xs e'
    | .ok (.cnt e') => forL body xs e'
    | .ok (.brk e') => .ok (.next e')
    | .ok (.ret d) => .ok (.ret d)
    | .exc c fs => .exc c fs
    | .stuck => .stuck
def forB (g : GM) (body : SM) (x : D) (e : Env) : Res Fl := lift (g x e) >>= body
def for_ (it : IM) (g : GM) (body : SM) : SM := fun e => it e >>= fun xs => forL (forB g body) xs e
def FUEL : Nat := 1000000000000
def whileL (t : TM) (body : SM) : Nat → Env → Res Fl
  | 0, _ => .stuck
  | n + 1, e => t e >>= fun b => if b then (match body e with
      | .ok (.next e') => whileL t body n e'
      | .ok (.cnt e') => whileL t body n e'
      | .ok (.brk e') => .ok (.next e')
      | .ok (.ret d) => .ok (.ret d)
      | .exc c fs => .exc c fs
      | .stuck => .stuck) else .ok (.next e)
def while_ (t : TM) (body : SM) : SM := whileL t body FUEL
/-- a name's own list grows -/
def app (i : Nat) (m : EM) : SM := fun e => var i e >>= fun l => match l with
  | .lst xs => m e >>= fun d => if xs.length < SZ then .ok (.next (e.set i (some (.lst (xs ++ [d]))))) else .stuck
  | _ => .stuck
/-- xs[j] = v of a name's own list -/
def setL (i : Nat) (j m : EM) : SM := fun e => var i e >>= fun l => match l with
  | .lst xs => m e >>= fun d => j e >>= fun k => match k with
    | .int z => match ixN xs.length z with
      | some n => .ok (.next (e.set i (some (.lst (xs.set n d)))))
      | none => .stuck
    | _ => .stuck
  | _ => .stuck
def putF (f : String) (d : D) : List (String × D) → List (String × D)
  | [] => [(f, d)]
  | (g, x) :: r => if g = f then (f, d) :: r else (g, x) :: putF f d r
/-- self.f = v in an __init__ -/
def setF (i : Nat) (cs : List String) (f : String) (m : EM) : SM := fun e => var i e >>= fun o => match o with
  | .ins c fs => if cs.contains c ∧ fs.length < 1000 then m e >>= fun d => .ok (.next (e.set i (some (.ins c (putF f d fs))))) else .stuck
  | _ => .stuck
/-- raise C(..) -/
def rais (c : String) (ns : List String) (a : AM) : SM := fun e => a e >>= fun ds => if ds.length = ns.length then .exc c (ns.zip ds) else .stuck

/-- the arguments in the parameters' order -/
def perm {α : Type} (π : List Nat) (ws : List α) : List α := π.filterMap fun i => ws[i]?
def kwc (n : Nat) (π : List Nat) (f : List D → Res D) (ds : List D) : Res D := if ds.length = n then f (perm π ds) else .stuck
/-- code that is not reached -/
def dead : SM := fun _ => .stuck
def deadE : EM := fun _ => .stuck
def thru (m : SM) : SM := fun e => noexc (m e)
/-! ### defs -/
def done : Res Fl → Res D
  | .ok (.next _) => .ok .non
  | .ok (.ret d) => .ok d
  | .ok (.brk _) => .stuck
  | .ok (.cnt _) => .stuck
  | .exc c fs => .exc c fs
  | .stuck => .stuck
/-- a def of p parameters and n names -/
def fn (p n : Nat) (body : SM) (ds : List D) : Res D := if ds.length = p then done (body (ds.map some ++ List.replicate (n - p) none)) else .stuck
def made (p n : Nat) (cls : String) (body : SM) (ds : List D) : Res D := if ds.length + 1 = p then
  match body ((some (.ins cls []) :: ds.map some) ++ List.replicate (n - p) none) with
  | .ok (.next (some (.ins c fs) :: _)) => .ok (.ins c fs)
  | .exc c fs => .exc c fs
  | _ => .stuck else .stuck
end Py

/-! What plain data look like in the abstract heap, and the readings that say: this code computes that. -/
namespace Py
open PySem L2
abbrev Frag := PySem.W.Frag
/-- the class that a module's name stands for -/
def ca (K : Frag) (c : String) : Addr := He.ga K (Str.ofString c)
theorem ofS_inj {a b : String} (h : Str.ofString a = Str.ofString b) : a = b := by
  rw [Str.ofString_eq_toList, Str.ofString_eq_toList] at h
  have h1 : a.toList.map Char.toNat = b.toList.map Char.toNat := by
    have := congrArg (fun s : Str => s.cps.toList) h
    simpa using this
  have h2 : a.toList = b.toList := by
    have hc : ∀ x y : Char, x.toNat = y.toNat → x = y := fun x y e => by
      apply Char.ext
      apply UInt32.toNat_inj.mp
      exact e
    generalize a.toList = l at h1
    generalize b.toList = m at h1
    induction l generalizing m with
    | nil => cases m with
      | nil => rfl
      | cons _ _ => simp at h1
    | cons x l ih => cases m with
      | nil => simp at h1
      | cons y m =>
        simp only [List.map_cons, List.cons.injEq] at h1
        rw [hc _ _ h1.1, ih m h1.2]
  exact String.ext_iff.mpr h2
/-- an address set to be avoided -/
abbrev AS := Addr → Prop
mutual
def Rep (K : Frag) (A : AS) (H : Hp) : D → V → Prop
  | .non, v => v = .non
  | .bl b, v => v = .bl b
  | .int i, v => v = .int i
  | .str s, v => v = .str (Str.ofString s)
  | .tup xs, v => ∃ a vs, v = .ref a ∧ SqT K H a vs ∧ RepL K A H xs vs
  | .lst xs, v => ∃ a vs, v = .ref a ∧ ¬ A a ∧ Rd H a (.lst vs) ∧ RepL K A H xs vs
  | .dic _, _ => False
  | .ins c fs, v => ∃ a dx fvs, v = .ref a ∧ ¬ A a ∧ H a = some (.ins (ca K c) dx fvs) ∧ RepF K A H fs fvs
def RepL (K : Frag) (A : AS) (H : Hp) : List D → List V → Prop
  | [], vs => vs = []
  | d :: ds, vs => ∃ v r, vs = v :: r ∧ Rep K A H d v ∧ RepL K A H ds r
def RepF (K : Frag) (A : AS) (H : Hp) : List (String × D) → List (Str × V) → Prop
  | [], fs => fs = []
  | (n, d) :: r, fs => ∃ v q, fs = (Str.ofString n, v) :: q ∧ Rep K A H d v ∧ RepF K A H r q
end
/-- a tuple never changes -/
def still : HO → Prop
  | .tup _ => True
  | .frz _ (.tup _) => True
  | _ => False
/-- from H to H': what is not in A is kept, the new A' has of the old heap only A -/
structure Mv (A : AS) (H : Hp) (A' : AS) (H' : Hp) : Prop where
  av : ∀ a, A' a → A a ∨ H a = none
  kp : ∀ a o, H a = some o → (¬ A a ∨ still o) → H' a = some o
theorem Mv.same {A : AS} {H H' : Hp} (s : Same H H') : Mv A H A H' := ⟨fun _ h => .inl h, fun a o e _ => s a o e⟩
theorem Mv.less {A A' : AS} {H : Hp} (s : ∀ a, A' a → A a) : Mv A H A' H := ⟨fun a h => .inl (s a h), fun _ _ e _ => e⟩
theorem Mv.refl {A : AS} {H : Hp} : Mv A H A H := .same (Same.refl H)
theorem Mv.trans {A A1 A2 : AS} {H H1 H2 : Hp} (h : Mv A H A1 H1) (k : Mv A1 H1 A2 H2) : Mv A H A2 H2 := by
  refine ⟨fun a x => ?_, fun a o e q => ?_⟩
  · rcases k.av a x with y | y
    · exact h.av a y
    · cases e : H a with
      | none => exact .inr rfl
      | some o =>
        by_cases hA : A a
        · exact .inl hA
        · rw [h.kp a o e (.inl hA)] at y
          cases y
  · refine k.kp a o (h.kp a o e q) ?_
    rcases q with q | q
    · refine .inl fun y => ?_
      rcases h.av a y with z | z
      · exact q z
      · rw [e] at z
        cases z
    · exact .inr q
theorem Rd.move {A A' : AS} {H H' : Hp} {a : Addr} {u : HO} (m : Mv A H A' H') (h : Rd H a u) (n : ¬ A a) : Rd H' a u ∧ ¬ A' a := by
  have key : ∀ o, H a = some o → H' a = some o ∧ ¬ A' a := fun o e => ⟨m.kp a o e (.inl n), fun x => by
    rcases m.av a x with y | y
    · exact n y
    · rw [e] at y
      cases y⟩
  rcases h with h | ⟨o, h⟩
  · exact ⟨.inl (key _ h).1, (key _ h).2⟩
  · exact ⟨.inr ⟨o, (key _ h).1⟩, (key _ h).2⟩
theorem SqT.move {K : Frag} {A A' : AS} {H H' : Hp} {a : Addr} {vs : List V} (m : Mv A H A' H') (h : SqT K H a vs) : SqT K H' a vs := by
  rcases h with (h | ⟨o, h⟩) | h
  · exact .inl (.inl (m.kp a _ h (.inr trivial)))
  · exact .inl (.inr ⟨o, m.kp a _ h (.inr trivial)⟩)
  · exact .inr h
mutual
theorem Rep.move {K : Frag} {A A' : AS} {H H' : Hp} (m : Mv A H A' H') : ∀ (d : D) (v : V), Rep K A H d v → Rep K A' H' d v
  | .non, _, h => h
  | .bl _, _, h => h
  | .int _, _, h => h
  | .str _, _, h => h
  | .tup xs, v, h => by
    simp only [Rep] at h ⊢
    obtain ⟨a, vs, e, q, r⟩ := h
    exact ⟨a, vs, e, SqT.move m q, RepL.move m xs vs r⟩
  | .lst xs, v, h => by
    simp only [Rep] at h ⊢
    obtain ⟨a, vs, e, n, q, r⟩ := h
    exact ⟨a, vs, e, (Rd.move m q n).2, (Rd.move m q n).1, RepL.move m xs vs r⟩
  | .dic _, _, h => by
    simp only [Rep] at h
  | .ins c fs, v, h => by
    simp only [Rep] at h ⊢
    obtain ⟨a, dx, fvs, e, n, q, r⟩ := h
    have z : Rd H' a _ ∧ ¬ A' a := Rd.move m (.inl q) n
    refine ⟨a, dx, fvs, e, z.2, ?_, RepF.move m fs fvs r⟩
    exact m.kp a _ q (.inl n)
theorem RepL.move {K : Frag} {A A' : AS} {H H' : Hp} (m : Mv A H A' H') : ∀ (ds : List D) (vs : List V), RepL K A H ds vs → RepL K A' H' ds vs
  | [], vs, h => by
    simp only [RepL] at h ⊢
    exact h
  | d :: ds, vs, h => by
    simp only [RepL] at h ⊢
    obtain ⟨v, r, e, h1, h2⟩ := h
    exact ⟨v, r, e, Rep.move m d v h1, RepL.move m ds r h2⟩
theorem RepF.move {K : Frag} {A A' : AS} {H H' : Hp} (m : Mv A H A' H') : ∀ (ds : List (String × D)) (vs : List (Str × V)), RepF K A H ds vs → RepF K A' H' ds vs
  | [], vs, h => by
    simp only [RepF] at h ⊢
    exact h
  | (n, d) :: ds, vs, h => by
    simp only [RepF] at h ⊢
    obtain ⟨v, r, e, h1, h2⟩ := h
    exact ⟨v, r, e, Rep.move m d v h1, RepF.move m ds r h2⟩
end
theorem RepL.length {K : Frag} {A : AS} {H : Hp} : ∀ {ds : List D} {vs : List V}, RepL K A H ds vs → ds.length = vs.length
  | [], vs, h => by
    simp only [RepL] at h
    subst h
    rfl
  | d :: ds, vs, h => by
    simp only [RepL] at h
    obtain ⟨v, r, rfl, h1, h2⟩ := h
    simp [RepL.length h2]
theorem RepL.get {K : Frag} {A : AS} {H : Hp} : ∀ {ds : List D} {vs : List V} {i : Nat} {d : D}, RepL K A H ds vs → ds[i]? = some d → ∃ v, vs[i]? = some v ∧ Rep K A H d v
  | [], vs, i, d, h, e => by simp at e
  | d0 :: ds, vs, i, d, h, e => by
    simp only [RepL] at h
    obtain ⟨v, r, rfl, h1, h2⟩ := h
    cases i with
    | zero =>
      simp at e
      subst e
      exact ⟨v, rfl, h1⟩
    | succ i =>
      obtain ⟨w, q1, q2⟩ := RepL.get (i := i) h2 (by simpa using e)
      exact ⟨w, by simpa using q1, q2⟩
theorem RepL.append {K : Frag} {A : AS} {H : Hp} : ∀ {ds es : List D} {vs ws : List V}, RepL K A H ds vs → RepL K A H es ws → RepL K A H (ds ++ es) (vs ++ ws)
  | [], es, vs, ws, h, k => by
    simp only [RepL] at h
    subst h
    exact k
  | d :: ds, es, vs, ws, h, k => by
    simp only [RepL] at h
    obtain ⟨v, r, rfl, h1, h2⟩ := h
    simp only [List.cons_append, RepL]
    exact ⟨v, r ++ ws, rfl, h1, RepL.append h2 k⟩
theorem RepL.drop {K : Frag} {A : AS} {H : Hp} : ∀ {ds : List D} {vs : List V} (n : Nat), RepL K A H ds vs → RepL K A H (ds.drop n) (vs.drop n)
  | ds, vs, 0, h => h
  | [], vs, n + 1, h => by
    simp only [RepL] at h
    subst h
    simp [RepL]
  | d :: ds, vs, n + 1, h => by
    simp only [RepL] at h
    obtain ⟨v, r, rfl, h1, h2⟩ := h
    exact RepL.drop n h2
theorem RepL.take {K : Frag} {A : AS} {H : Hp} : ∀ {ds : List D} {vs : List V} (n : Nat), RepL K A H ds vs → RepL K A H (ds.take n) (vs.take n)
  | ds, vs, 0, h => by simp [RepL]
  | [], vs, n + 1, h => by
    simp only [RepL] at h
    subst h
    simp [RepL]
  | d :: ds, vs, n + 1, h => by
    simp only [RepL] at h
    obtain ⟨v, r, rfl, h1, h2⟩ := h
    simp only [List.take_succ_cons, RepL]
    exact ⟨v, _, rfl, h1, RepL.take n h2⟩
theorem RepL.set {K : Frag} {A : AS} {H : Hp} {d : D} {v : V} (hd : Rep K A H d v) : ∀ {ds : List D} {vs : List V} (n : Nat), RepL K A H ds vs → RepL K A H (ds.set n d) (vs.set n v)
  | [], vs, n, h => by
    simp only [RepL] at h
    subst h
    simp [RepL]
  | d0 :: ds, vs, 0, h => by
    simp only [RepL] at h
    obtain ⟨w, r, rfl, h1, h2⟩ := h
    simp only [List.set_cons_zero, RepL]
    exact ⟨v, r, rfl, hd, h2⟩
  | d0 :: ds, vs, n + 1, h => by
    simp only [RepL] at h
    obtain ⟨w, r, rfl, h1, h2⟩ := h
    simp only [List.set_cons_succ, RepL]
    exact ⟨w, _, rfl, h1, RepL.set hd n h2⟩
theorem RepL.one {K : Frag} {A : AS} {H : Hp} {d : D} {v : V} (h : Rep K A H d v) : RepL K A H [d] [v] := by
  simp only [RepL]
  exact ⟨v, [], rfl, h, rfl⟩
theorem RepF.look {K : Frag} {A : AS} {H : Hp} {f : String} : ∀ {fs : List (String × D)} {vs : List (Str × V)}, RepF K A H fs vs →
    match fs.lookup f with | some d => ∃ v, vs.lookup (Str.ofString f) = some v ∧ Rep K A H d v | none => vs.lookup (Str.ofString f) = none
  | [], vs, h => by
    simp only [RepF] at h
    subst h
    rfl
  | (n, d) :: fs, vs, h => by
    simp only [RepF] at h
    obtain ⟨v, r, rfl, h1, h2⟩ := h
    by_cases e : f = n
    · subst e
      simp only [List.lookup_cons, beq_self_eq_true]
      exact ⟨v, rfl, h1⟩
    · have e2 : (Str.ofString f == Str.ofString n) = false := beq_eq_false_iff_ne.mpr fun q => e (ofS_inj q)
      have e3 : (f == n) = false := beq_eq_false_iff_ne.mpr e
      simp only [List.lookup_cons, e2, e3]
      exact RepF.look h2
theorem RepF.put {K : Frag} {A : AS} {H : Hp} {f : String} {d : D} {v : V} (hd : Rep K A H d v) : ∀ {fs : List (String × D)} {vs : List (Str × V)}, RepF K A H fs vs → RepF K A H (putF f d fs) (L2.putF (Str.ofString f) v vs)
  | [], vs, h => by
    simp only [RepF] at h
    subst h
    simp only [putF, L2.putF, RepF]
    exact ⟨v, [], rfl, hd, rfl⟩
  | (n, d0) :: fs, vs, h => by
    simp only [RepF] at h
    obtain ⟨w, r, rfl, h1, h2⟩ := h
    by_cases e : n = f
    · subst e
      simp only [putF, L2.putF, if_pos, RepF]
      exact ⟨v, r, rfl, hd, h2⟩
    · have e2 : ¬ Str.ofString n = Str.ofString f := fun q => e (ofS_inj q)
      simp only [putF, L2.putF, if_neg e, if_neg e2, RepF]
      exact ⟨w, _, rfl, h1, RepF.put hd h2⟩
theorem RepF.length {K : Frag} {A : AS} {H : Hp} : ∀ {fs : List (String × D)} {vs : List (Str × V)}, RepF K A H fs vs → fs.length = vs.length
  | [], vs, h => by
    simp only [RepF] at h
    subst h
    rfl
  | (n, d) :: fs, vs, h => by
    simp only [RepF] at h
    obtain ⟨v, r, rfl, h1, h2⟩ := h
    simp [RepF.length h2]
mutual
/-- data without lists: nothing to avoid -/
theorem Rep.imm {K : Frag} {A A' : AS} {H : Hp} : ∀ (d : D) (v : V), Py.imm d = true → Rep K A H d v → Rep K A' H d v
  | .non, _, _, h => h
  | .bl _, _, _, h => h
  | .int _, _, _, h => h
  | .str _, _, _, h => h
  | .tup xs, v, i, h => by
    simp only [Rep] at h ⊢
    obtain ⟨a, vs, e, q, r⟩ := h
    exact ⟨a, vs, e, q, RepL.imm xs vs (by simpa only [Py.imm] using i) r⟩
  | .lst xs, v, i, h => by simp [Py.imm] at i
  | .dic _, _, i, h => by simp [Py.imm] at i
  | .ins c fs, v, i, h => by simp [Py.imm] at i
theorem RepL.imm {K : Frag} {A A' : AS} {H : Hp} : ∀ (ds : List D) (vs : List V), Py.imm.immL ds = true → RepL K A H ds vs → RepL K A' H ds vs
  | [], vs, _, h => by
    simp only [RepL] at h ⊢
    exact h
  | d :: ds, vs, i, h => by
    simp only [RepL] at h ⊢
    obtain ⟨v, r, e, h1, h2⟩ := h
    have i2 : Py.imm d = true ∧ Py.imm.immL ds = true := by simpa only [Py.imm.immL, Bool.and_eq_true] using i
    exact ⟨v, r, e, Rep.imm d v i2.1 h1, RepL.imm ds r i2.2 h2⟩
end

/-! ### the frame -/
/-- what a name's own object at a holds -/
def OwnAt (K : Frag) (A : AS) (H : Hp) (a : Addr) : D → Prop
  | .lst ds => ∃ vs, H a = some (.lst vs) ∧ RepL K A H ds vs
  | .ins c fs => ∃ dx fvs, H a = some (.ins (ca K c) dx fvs) ∧ RepF K A H fs fvs
  | _ => False
theorem OwnAt.move {K : Frag} {A A' : AS} {H H' : Hp} {a : Addr} {d : D} (m : Mv A H A' H') (k : H' a = H a) (h : OwnAt K A H a d) : OwnAt K A' H' a d := by
  cases d with
  | lst ds =>
    obtain ⟨vs, e, r⟩ := h
    exact ⟨vs, k.trans e, RepL.move m _ _ r⟩
  | ins c fs =>
    obtain ⟨dx, fvs, e, r⟩ := h
    exact ⟨dx, fvs, k.trans e, RepF.move m _ _ r⟩
  | _ => exact h
abbrev OW := Nat → Option Addr
def AO (A : AS) (O : OW) : AS := fun a => A a ∨ ∃ i, O i = some a
/-- the heap at the entry; the object that slot 0 owns throughout (an __init__'s self) -/
structure Base where
  hp : Hp
  px : Option Addr
/-- the frame's slots hold these data; ow: the names that own what they hold; H0: the heap at the entry -/
structure ER (K : Frag) (A : AS) (H0 : Base) (ow : Nat → Bool) (O : OW) (σ : L2.St) (H : Hp) (e : Env) : Prop where
  len : σ.length = e.length
  a0 : ∀ a, A a → H a ≠ none
  same : Same H0.hp H
  vals : ∀ i d, e[i]? = some (some d) → ow i = false → ∃ v, σ[i]? = some (some v) ∧ Rep K (AO A O) H d v
  owns : ∀ i d, e[i]? = some (some d) → ow i = true → ∃ a, O i = some a ∧ σ[i]? = some (some (.ref a)) ∧ OwnAt K (AO A O) H a d
  fresh : ∀ i a, O i = some a → H0.hp a = none ∧ H a ≠ none ∧ ¬ A a
  inj : ∀ i j a, O i = some a → O j = some a → i = j
  pin : ∀ a, H0.px = some a → O 0 = some a
section
variable {K : Frag} {A : AS} {H0 : Base} {ow : Nat → Bool} {O : OW} {σ : L2.St} {H H' : Hp} {e : Env}
theorem ne_none {H H' : Hp} {a : Addr} (s : Same H H') (h : H a ≠ none) : H' a ≠ none := by
  cases q : H a with
  | none => exact absurd q h
  | some o =>
    rw [s a o q]
    exact fun z => nomatch z
theorem ER.there (R : ER K A H0 ow O σ H e) : ∀ a, AO A O a → H a ≠ none := fun a h => by
  rcases h with h | ⟨i, h⟩
  · exact R.a0 a h
  · exact (R.fresh i a h).2.1
theorem ER.to (R : ER K A H0 ow O σ H e) (s : Same H H') : ER K A H0 ow O σ H' e :=
  ⟨R.len, fun a h => ne_none s (R.a0 a h), R.same.trans s, fun i d h1 h2 => let ⟨v, q, r⟩ := R.vals i d h1 h2; ⟨v, q, Rep.move (Mv.same s) d v r⟩,
    fun i d h1 h2 => let ⟨a, q, q2, r⟩ := R.owns i d h1 h2; ⟨a, q, q2, r.move (Mv.same s) (by
      cases z : H a with
      | none => exact absurd z (R.fresh i a q).2.1
      | some o => exact s a o z)⟩,
    fun i a h => ⟨(R.fresh i a h).1, ne_none s (R.fresh i a h).2.1, (R.fresh i a h).2.2⟩, R.inj, R.pin⟩
/-- a name takes a value -/
theorem ER.set (R : ER K A H0 ow O σ H e) {i : Nat} {d : D} {v : V} (hi : ow i = false) (r : Rep K (AO A O) H d v) : ER K A H0 ow O (σ.set i (some v)) H (e.set i (some d)) := by
  refine ⟨by simp [R.len], R.a0, R.same, fun j d' h1 h2 => ?_, fun j d' h1 h2 => ?_, R.fresh, R.inj, R.pin⟩
  · by_cases hj : i = j
    · subst hj
      have hl : i < e.length := by
        have := (List.getElem?_eq_some_iff.mp h1).1
        simpa using this
      rw [List.getElem?_set_self hl] at h1
      cases h1
      exact ⟨v, List.getElem?_set_self (by rw [R.len]; exact hl), r⟩
    · rw [List.getElem?_set_ne hj] at h1
      rw [List.getElem?_set_ne hj]
      exact R.vals j d' h1 h2
  · have hj : i ≠ j := fun z => by
      subst z
      rw [hi] at h2
      cases h2
    rw [List.getElem?_set_ne hj] at h1
    rw [List.getElem?_set_ne hj]
    exact R.owns j d' h1 h2
/-- names forgotten -/
theorem ER.sub {e' : Env} {σ' : L2.St} (R : ER K A H0 ow O σ H e) (hl : σ'.length = e'.length) (h : ∀ (i : Nat) (d : D), e'[i]? = some (some d) → e[i]? = some (some d) ∧ σ'[i]? = σ[i]?) : ER K A H0 ow O σ' H e' :=
  ⟨hl, R.a0, R.same, fun i d h1 h2 => by rw [(h i d h1).2]; exact R.vals i d (h i d h1).1 h2, fun i d h1 h2 => by rw [(h i d h1).2]; exact R.owns i d (h i d h1).1 h2, R.fresh, R.inj, R.pin⟩
end
theorem wipe_env (vs : List Nat) (e : Env) (i : Nat) (d : D) (h : (wipe e vs)[i]? = some (some d)) : e[i]? = some (some d) ∧ i ∉ vs := by
  induction vs with
  | nil => exact ⟨h, by simp⟩
  | cons j r ih =>
    unfold wipe at h
    by_cases hj : j = i
    · subst hj
      by_cases hl : j < (wipe e r).length
      · rw [List.getElem?_set_self hl] at h
        cases h
      · rw [List.getElem?_eq_none (by simp; omega)] at h
        cases h
    · rw [List.getElem?_set_ne hj] at h
      obtain ⟨a, b⟩ := ih h
      exact ⟨a, by simp [b, Ne.symm hj]⟩
theorem wipe_len (vs : List Nat) (e : Env) : (wipe e vs).length = e.length := by
  induction vs with
  | nil => rfl
  | cons j r ih => unfold wipe; simp [ih]
theorem ER.wipe {K : Frag} {A : AS} {H0 : Base} {ow : Nat → Bool} {O : OW} {σ : L2.St} {H : Hp} {e : Env} (R : ER K A H0 ow O σ H e) (vs : List Nat) : ER K A H0 ow O (L2.wipe σ vs) H (Py.wipe e vs) :=
  R.sub (by rw [L2.wipe_length, wipe_len, R.len]) fun i d h => ⟨(wipe_env vs e i d h).1, L2.wipe_out (wipe_env vs e i d h).2⟩

/-! ### readings -/
def Out {α : Type} (r : Res α) (good : α → Prop) (bad : String → List (String × D) → Prop) : Prop := match r with
  | .ok a => good a
  | .exc c fs => bad c fs
  | .stuck => False
theorem Out.bind {α β : Type} {r : Res α} {f : α → Res β} {good : β → Prop} {bad : String → List (String × D) → Prop} (h : Out (r >>= f) good bad) : Out r (fun a => Out (f a) good bad) bad := by
  cases r with
  | ok a => exact h
  | exc c fs => exact h
  | stuck => exact h
theorem Out.imp {α : Type} {r : Res α} {good good' : α → Prop} {bad bad' : String → List (String × D) → Prop} (h : Out r good bad) (hg : ∀ a, r = .ok a → good a → good' a) (hb : ∀ c fs, bad c fs → bad' c fs) : Out r good' bad' := by
  cases r with
  | ok a => exact hg a rfl h
  | exc c fs => exact hb c fs h
  | stuck => exact h
theorem Out.good {α : Type} {r : Res α} {good good' : α → Prop} {bad : String → List (String × D) → Prop} (h : Out r good bad) (hg : ∀ a, good a → good' a) : Out r good' bad := h.imp (fun a _ => hg a) fun _ _ x => x
/-- what an exception must show that leaves an expression -/
def badE (K : Frag) (W : WX) (A : AS) (O : OW) (σ : L2.St) (H : Hp) (c : String) (fs : List (String × D)) : Prop :=
  ∀ da H' fvs, Same H H' → H' da = some (.xd fvs) → RepF K (AO A O) H' fs fvs → W (.ref (ca K c)) (some da) σ H'
theorem badE.to {K : Frag} {W : WX} {A : AS} {O : OW} {σ : L2.St} {H H1 : Hp} (s : Same H H1) {c : String} {fs : List (String × D)} (h : badE K W A O σ H c fs) : badE K W A O σ H1 c fs := fun da H' fvs s' => h da H' fvs (s.trans s')
theorem Out.to {K : Frag} {W : WX} {A : AS} {O : OW} {σ : L2.St} {H H1 : Hp} {α : Type} {r : Res α} {good : α → Prop} (s : Same H H1) (h : Out r good (badE K W A O σ H)) : Out r good (badE K W A O σ H1) := h.imp (fun _ _ x => x) fun _ _ x => x.to s
/-- a value that may be a name's own list or object: what is within it is clean -/
def RepW (K : Frag) (A : AS) (H : Hp) : D → V → Prop
  | .lst xs, v => ∃ a vs, v = .ref a ∧ Rd H a (.lst vs) ∧ RepL K A H xs vs
  | .ins c fs, v => ∃ a dx fvs, v = .ref a ∧ H a = some (.ins (ca K c) dx fvs) ∧ RepF K A H fs fvs
  | d, v => Rep K A H d v
theorem RepW.of {K : Frag} {A : AS} {H : Hp} {d : D} {v : V} (h : Rep K A H d v) : RepW K A H d v := by
  cases d with
  | lst xs =>
    simp only [Rep] at h
    obtain ⟨a, vs, e, _, q, r⟩ := h
    exact ⟨a, vs, e, q, r⟩
  | ins c fs =>
    simp only [Rep] at h
    obtain ⟨a, dx, fvs, e, _, q, r⟩ := h
    exact ⟨a, dx, fvs, e, q, r⟩
  | _ => exact h
theorem RepW.none {K : Frag} {A : AS} {H : Hp} {d : D} {v : V} (h : RepW K A H d v) : Rep K (fun _ => False) H d v := by
  have z : Mv A H (fun _ => False) H := Mv.less fun _ x => x.elim
  cases d with
  | lst xs =>
    obtain ⟨a, vs, e, q, r⟩ := h
    simp only [Rep]
    exact ⟨a, vs, e, fun x => x, q, RepL.move z _ _ r⟩
  | ins c fs =>
    obtain ⟨a, dx, fvs, e, q, r⟩ := h
    simp only [Rep]
    exact ⟨a, dx, fvs, e, fun x => x, q, RepF.move z _ _ r⟩
  | _ => exact Rep.move z _ _ h
/-- a relation between data and values, under what is to be avoided -/
abbrev RR := AS → Hp → D → V → Prop
/-- an expression that computes m -/
def tG (R : RR) (K : Frag) (W : WX) (ow : Nat → Bool) (m : EM) : TE := fun σ H Q => ∃ A H0 O e, ER K A H0 ow O σ H e ∧
  Out (m e) (fun d => ∀ v H', Same H H' → R (AO A O) H' d v → Q v H') (badE K W A O σ H)
/-- .. clean -/
abbrev tE (K : Frag) (W : WX) (ow : Nat → Bool) (m : EM) : TE := tG (Rep K) K W ow m
/-- .. to be read only -/
abbrev tW (K : Frag) (W : WX) (ow : Nat → Bool) (m : EM) : TE := tG (RepW K) K W ow m
/-- .. a new list -/
def tF (K : Frag) (W : WX) (ow : Nat → Bool) (m : EM) : TE := fun σ H Q => ∃ A H0 O e, ER K A H0 ow O σ H e ∧
  Out (m e) (fun d => ∀ a H', H a = none → Same H H' → OwnAt K (fun b => AO A O b ∨ b = a) H' a d → Q (.ref a) H') (badE K W A O σ H)
def tT (K : Frag) (W : WX) (ow : Nat → Bool) (m : TM) : TT := fun σ H Q => ∃ A H0 O e, ER K A H0 ow O σ H e ∧
  Out (m e) (fun b => ∀ H', Same H H' → Q b H') (badE K W A O σ H)
def tA (R : RR) (K : Frag) (W : WX) (ow : Nat → Bool) (m : AM) : TA := fun σ H Q => ∃ A H0 O e, ER K A H0 ow O σ H e ∧
  Out (m e) (fun ds => ∀ vs H', Same H H' → Paired (fun v d => R (AO A O) H' d v) vs ds → Q vs H') (badE K W A O σ H)
section
variable {X : Cx} {K : Frag} {W : WX} {A : AS} {H0 : Base} {ow : Nat → Bool}
theorem PE.of {e : Expr} {t t' : TE} (h : PE X e t) (k : ∀ σ H Q, t' σ H Q → t σ H Q) : PE X e t' := ⟨fun pins s σ H Q I q => h.run pins s σ H Q I (k σ H Q q)⟩
theorem PT.of {e : Expr} {t t' : TT} (h : PT X e t) (k : ∀ σ H Q, t' σ H Q → t σ H Q) : PT X e t' := ⟨fun pins s σ H Q I q => h.run pins s σ H Q I (k σ H Q q)⟩
theorem PW.of {e : Expr} {t t' : TT} (h : PW X e t) (k : ∀ σ H Q, t' σ H Q → t σ H Q) : PW X e t' := ⟨fun wh pins s σ H Q I q => h.run wh pins s σ H Q I (k σ H Q q)⟩
theorem PA.of {e : List Expr} {t t' : TA} (h : PA X e t) (k : ∀ σ H Q, t' σ H Q → t σ H Q) : PA X e t' := ⟨fun pos pins s σ H Q I q => h.run pos pins s σ H Q I (k σ H Q q)⟩
theorem PS.of {e : Stmt} {t t' : TS} (h : PS X e t) (k : ∀ D σ H, t' D σ H → t D σ H) : PS X e t' := ⟨fun pins s σ H D I q => h.run pins s σ H D I (k D σ H q)⟩
theorem PSs.of {e : List Stmt} {t t' : TS} (h : PSs X e t) (k : ∀ D σ H, t' D σ H → t D σ H) : PSs X e t' := ⟨fun pins s σ H D I q => h.run pins s σ H D I (k D σ H q)⟩
theorem w_of {e : Expr} {m : EM} (h : PE X e (tE K W ow m)) : PE X e (tW K W ow m) := PE.of h fun σ H Q ⟨A, H0, O, en, R, q⟩ => ⟨A, H0, O, en, R, q.good fun d k v H' s r => k v H' s (RepW.of r)⟩
theorem e_of {e : Expr} {m : EM} (h : PE X e (tF K W ow m)) : PE X e (tE K W ow m) := PE.of h fun σ H Q ⟨A, H0, O, en, R, q⟩ => ⟨A, H0, O, en, R, q.good fun d k a H' n s r => by
  refine k (.ref a) H' s ?_
  have na : ¬ AO A O a := fun z => R.there a z n
  have mv : Mv (fun b => AO A O b ∨ b = a) H' (AO A O) H' := Mv.less fun b x => .inl x
  cases d with
  | lst ds =>
    obtain ⟨vs, e1, r1⟩ := r
    simp only [Rep]
    exact ⟨a, vs, rfl, na, .inl e1, RepL.move mv _ _ r1⟩
  | ins c fs =>
    obtain ⟨dx, fvs, e1, r1⟩ := r
    simp only [Rep]
    exact ⟨a, dx, fvs, rfl, na, e1, RepF.move mv _ _ r1⟩
  | _ => exact r.elim⟩
/-! names, constants -/
theorem x_var {i : Nat} {e : Expr} (h : PE X e (tVar i)) (hi : ow i = false) : PE X e (tE K W ow (var i)) := PE.of h fun σ H Q ⟨A, H0, O, en, R, q⟩ => by
  unfold var at q
  split at q
  · rename_i d hd
    obtain ⟨v, e1, r⟩ := R.vals i d hd hi
    exact ⟨v, e1, q v H (Same.refl H) r⟩
  · exact q.elim
/-- a name's own list, read -/
theorem x_own {i : Nat} {e : Expr} (h : PE X e (tVar i)) : PE X e (tW K W ow (var i)) := PE.of h fun σ H Q ⟨A, H0, O, en, R, q⟩ => by
  unfold var at q
  split at q
  · rename_i d hd
    cases hi : ow i with
    | false =>
      obtain ⟨v, e1, r⟩ := R.vals i d hd hi
      exact ⟨v, e1, q v H (Same.refl H) (RepW.of r)⟩
    | true =>
      obtain ⟨a, _, e1, r⟩ := R.owns i d hd hi
      refine ⟨.ref a, e1, q _ H (Same.refl H) ?_⟩
      cases d with
      | lst ds =>
        obtain ⟨vs, e2, r⟩ := r
        exact ⟨a, vs, rfl, .inl e2, r⟩
      | ins c fs =>
        obtain ⟨dx, fvs, e2, r⟩ := r
        exact ⟨a, dx, fvs, rfl, e2, r⟩
      | _ => exact r.elim
  · exact q.elim
/-- data that need no object -/
def flat : D → Option V
  | .non => some .non
  | .bl b => some (.bl b)
  | .int i => some (.int i)
  | .str s => some (.str (Str.ofString s))
  | _ => none
theorem flat_rep {d : D} {v : V} (h : flat d = some v) (A : AS) (H : Hp) : Rep K A H d v := by
  cases d <;> simp only [flat, Option.some.injEq] at h <;> first | exact h.symm | cases h
theorem x_cst {e : Expr} {d : D} {v : V} (h : PE X e (tC v)) (hf : flat d = some v) : PE X e (tE K W ow (cst d)) := PE.of h fun σ H Q ⟨A, H0, O, en, R, q⟩ => q v H (Same.refl H) (flat_rep hf _ _)
theorem x_int {i j pos} : PE X (.Constant (.int i) j pos) (tE K W ow (cst (.int i))) := x_cst pe_int rfl
theorem x_bl {i j pos} : PE X (.Constant (.bool i) j pos) (tE K W ow (cst (.bl i))) := x_cst pe_bl rfl
theorem x_non {j pos} : PE X (.Constant .none j pos) (tE K W ow (cst .non)) := x_cst pe_non rfl
theorem x_str {s : String} {j pos} : PE X (.Constant (.str (Str.ofString s)) j pos) (tE K W ow (cst (.str s))) := x_cst pe_str rfl
end
end Py

/-! Operators. -/
namespace Py
open PySem L2

/-! ### data of the library -/
mutual
def toPy : D → PyData
  | .non => .none
  | .bl b => .bool b
  | .int i => .int i
  | .str s => .str (Str.ofString s)
  | .tup xs => .tuple (toPyL xs)
  | .lst xs => .list (toPyL xs)
  | .dic _ => .none
  | .ins _ _ => .none
def toPyL : List D → List PyData
  | [] => []
  | d :: r => toPy d :: toPyL r
end
theorem str_len (s : String) : (Str.ofString s).length = s.length := by
  rw [Str.ofString_eq_toList]
  simp [Str.length, String.length_toList]
theorem str_ok (s : String) : PySem.PyData.strOk (Str.ofString s) = true := by
  rw [Str.ofString_eq_toList]
  simp only [PySem.PyData.strOk, List.size_toArray, List.all_toArray', List.all_map]
  refine List.all_eq_true.mpr fun c _ => ?_
  simp only [Function.comp, decide_eq_true_eq]
  rcases c.valid with h | h
  · have h2 : c.toNat < 55296 := h
    omega
  · have h2 : c.toNat < 1114112 := h.2
    omega
mutual
theorem dp_of {K : Frag} {H : Hp} : ∀ (n : Nat) (d : D) (v : V), pl n d = true → Rep K (fun _ => False) H d v → Dp K H v (toPy d) ∧ (toPy d).canLay0 = true ∧ (toPy d).depth ≤ n
  | n, .non, v, _, h => by
    simp only [Rep] at h
    subst h
    exact ⟨.non, by simp [toPy, PyData.canLay0], by simp [toPy, PyData.depth]⟩
  | n, .bl b, v, _, h => by
    simp only [Rep] at h
    subst h
    exact ⟨.bl b, by simp [toPy, PyData.canLay0], by simp [toPy, PyData.depth]⟩
  | n, .int b, v, _, h => by
    simp only [Rep] at h
    subst h
    exact ⟨.int b, by simp [toPy, PyData.canLay0], by simp [toPy, PyData.depth]⟩
  | n, .str b, v, _, h => by
    simp only [Rep] at h
    subst h
    exact ⟨.str _, by simp [toPy, PyData.canLay0, str_ok], by simp [toPy, PyData.depth]⟩
  | n + 1, .tup xs, v, p, h => by
    simp only [Rep] at h
    obtain ⟨a, vs, rfl, q, r⟩ := h
    simp only [pl] at p
    obtain ⟨h1, h2, h3⟩ := dp_ofL n xs vs p r
    refine ⟨?_, by simpa [toPy, PyData.canLay0] using h2, by simp only [toPy, PyData.depth]; omega⟩
    simp only [toPy]
    exact .tup q h1
  | n + 1, .lst xs, v, p, h => by
    simp only [Rep] at h
    obtain ⟨a, vs, rfl, _, q, r⟩ := h
    simp only [pl] at p
    obtain ⟨h1, h2, h3⟩ := dp_ofL n xs vs p r
    refine ⟨?_, by simpa [toPy, PyData.canLay0] using h2, by simp only [toPy, PyData.depth]; omega⟩
    simp only [toPy]
    exact .lst (.inl q) h1
  | 0, .tup xs, v, p, h => by simp [pl] at p
  | 0, .lst xs, v, p, h => by simp [pl] at p
  | n, .dic _, v, p, h => by cases n <;> simp [pl] at p
  | n, .ins _ _, v, p, h => by cases n <;> simp [pl] at p
theorem dp_ofL {K : Frag} {H : Hp} : ∀ (n : Nat) (ds : List D) (vs : List V), ds.all (pl n) = true → RepL K (fun _ => False) H ds vs → DpAll K H vs (toPyL ds) ∧ PyData.canLayAll0 (toPyL ds) = true ∧ PyData.depthAll (toPyL ds) ≤ n
  | n, [], vs, _, h => by
    simp only [RepL] at h
    subst h
    exact ⟨.nil, by simp [toPyL, PyData.canLayAll0], by simp [toPyL, PyData.depthAll]⟩
  | n, d :: ds, vs, p, h => by
    simp only [RepL] at h
    obtain ⟨v, r, rfl, h1, h2⟩ := h
    simp only [List.all_cons, Bool.and_eq_true] at p
    obtain ⟨a1, a2, a3⟩ := dp_of n d v p.1 h1
    obtain ⟨b1, b2, b3⟩ := dp_ofL n ds r p.2 h2
    refine ⟨.cons a1 b1, by simp [toPyL, PyData.canLayAll0, a2, b2], by simp only [toPyL, PyData.depthAll]; omega⟩
end
mutual
theorem eqv_py : ∀ (d e : D) (n m : Nat), pl n d = true → pl m e = true → PyData.eqv (toPy d) (toPy e) = eqv d e
  | .non, e, n, m, _, q => by cases e <;> first | (cases m <;> simp [pl] at q; done) | simp [toPy, PyData.eqv, eqv]
  | .bl b, e, n, m, _, _ => by cases e <;> simp [toPy, PyData.eqv, eqv, b2i]
  | .int b, e, n, m, _, _ => by cases e <;> simp [toPy, PyData.eqv, eqv, b2i]
  | .str b, e, n, m, _, _ => by
    cases e with
    | str c =>
      simp only [toPy, PyData.eqv, eqv]
      by_cases q : b = c
      · subst q
        simp
      · rw [beq_eq_false_iff_ne.mpr q]
        exact beq_eq_false_iff_ne.mpr fun z => q (ofS_inj z)
    | _ => simp [toPy, PyData.eqv, eqv]
  | .tup xs, e, n, m, p, q => by
    cases e with
    | tup ys =>
      cases n with
      | zero => simp [pl] at p
      | succ n =>
        cases m with
        | zero => simp [pl] at q
        | succ m =>
          simp only [toPy, PyData.eqv, eqv]
          exact eqv_pyL xs ys n m (by simpa only [pl] using p) (by simpa only [pl] using q)
    | _ => simp [toPy, PyData.eqv, eqv]
  | .lst xs, e, n, m, p, q => by
    cases e with
    | lst ys =>
      cases n with
      | zero => simp [pl] at p
      | succ n =>
        cases m with
        | zero => simp [pl] at q
        | succ m =>
          simp only [toPy, PyData.eqv, eqv]
          exact eqv_pyL xs ys n m (by simpa only [pl] using p) (by simpa only [pl] using q)
    | _ => simp [toPy, PyData.eqv, eqv]
  | .dic _, e, n, m, p, _ => by cases n <;> simp [pl] at p
  | .ins _ _, e, n, m, p, _ => by cases n <;> simp [pl] at p
theorem eqv_pyL : ∀ (ds es : List D) (n m : Nat), ds.all (pl n) = true → es.all (pl m) = true → PyData.eqvAll (toPyL ds) (toPyL es) = eqv.eqvL ds es
  | [], [], _, _, _, _ => by simp [toPyL, PyData.eqvAll, eqv.eqvL]
  | [], _ :: _, _, _, _, _ => by simp [toPyL, PyData.eqvAll, eqv.eqvL]
  | _ :: _, [], _, _, _, _ => by simp [toPyL, PyData.eqvAll, eqv.eqvL]
  | d :: ds, e :: es, n, m, p, q => by
    simp only [List.all_cons, Bool.and_eq_true] at p q
    simp only [toPyL, PyData.eqvAll, eqv.eqvL]
    rw [eqv_py d e n m p.1 q.1, eqv_pyL ds es n m p.2 q.2]
end

/-! ### two operands, one operand -/
def r2 (K : Frag) (f : D → D → Res D) : R2 := fun x y H Q => ∃ A d1 d2 d, RepW K A H d1 x ∧ RepW K A H d2 y ∧ (∀ a, A a → H a ≠ none) ∧ f d1 d2 = .ok d ∧ ∀ v H', Same H H' → Rep K A H' d v → Q v H'
def r1 (K : Frag) (f : D → Res D) : V → Hp → VK → Prop := fun x H Q => ∃ A d1 d, RepW K A H d1 x ∧ (∀ a, A a → H a ≠ none) ∧ f d1 = .ok d ∧ ∀ v H', Same H H' → Rep K A H' d v → Q v H'
def NoEx2 (f : D → D → Res D) : Prop := ∀ x y c fs, f x y ≠ .exc c fs
def NoEx1 (f : D → Res D) : Prop := ∀ x c fs, f x ≠ .exc c fs
theorem r2_of {K : Frag} {A : AS} {W : WX} {O : OW} {σ : L2.St} {H0 : Base} {f : D → D → Res D} (hf : NoEx2 f) {x y : V} {H : Hp} {Q : VK} {d1 d2 : D} (h1 : RepW K A H d1 x) (h2 : RepW K A H d2 y) (ha : ∀ a, A a → H a ≠ none)
    {bad : String → List (String × D) → Prop} (h : Out (f d1 d2) (fun d => ∀ v H', Same H H' → Rep K A H' d v → Q v H') bad) : r2 K f x y H Q := by
  cases e : f d1 d2 with
  | ok d =>
    rw [e] at h
    exact ⟨A, d1, d2, d, h1, h2, ha, e, h⟩
  | exc c fs => exact absurd e (hf _ _ _ _)
  | stuck =>
    rw [e] at h
    exact h.elim
theorem RepW.move {K : Frag} {A : AS} {H H' : Hp} (s : Same H H') {d : D} {v : V} (h : RepW K A H d v) : RepW K A H' d v := by
  cases d with
  | lst xs =>
    obtain ⟨a, vs, e, q, r⟩ := h
    refine ⟨a, vs, e, ?_, RepL.move (Mv.same s) _ _ r⟩
    rcases q with q | ⟨o, q⟩
    · exact .inl (s _ _ q)
    · exact .inr ⟨o, s _ _ q⟩
  | ins c fs =>
    obtain ⟨a, dx, fvs, e, q, r⟩ := h
    exact ⟨a, dx, fvs, e, s _ _ q, RepF.move (Mv.same s) _ _ r⟩
  | _ => exact Rep.move (Mv.same s) _ _ h
section
variable {X : Cx} {W : WX} {A : AS} {H0 : Base} {ow : Nat → Bool} {a b : Expr} {ma mb : EM} {pos : Pos}
theorem two_of {f : D → D → Res D} (hf : NoEx2 f) {σ : L2.St} {H : Hp} {Q : VK} (h : tE X.K W ow (bin f ma mb) σ H Q) : tOp (r2 X.K f) (tW X.K W ow ma) (tW X.K W ow mb) σ H Q := by
  obtain ⟨A, H0, O, en, R, q⟩ := h
  refine ⟨A, H0, O, en, R, (Out.bind q).good fun d1 q1 v1 H1 s1 r1 => ?_⟩
  refine ⟨A, H0, O, en, R.to s1, ((Out.bind q1).to s1).good fun d2 q2 v2 H2 s2 r2 => ?_⟩
  have R2 := (R.to s1).to s2
  exact r2_of (W := W) (O := O) (σ := σ) (H0 := H0) hf (r1.move s2) r2 R2.there (q2.good fun d k v H' s' r => k v H' ((s1.trans s2).trans s') r)
theorem one_of {f : D → Res D} (hf : NoEx1 f) {σ : L2.St} {H : Hp} {Q : VK} (h : tE X.K W ow (un f ma) σ H Q) : tUn (r1 X.K f) (tW X.K W ow ma) σ H Q := by
  obtain ⟨A, H0, O, en, R, q⟩ := h
  refine ⟨A, H0, O, en, R, (Out.bind q).good fun d1 q1 v1 H1 s1 r1 => ?_⟩
  have R2 := R.to s1
  cases e : f d1 with
  | ok d =>
    rw [e] at q1
    exact ⟨_, d1, d, r1, R2.there, e, fun v H' s' r => q1 v H' (s1.trans s') r⟩
  | exc c fs => exact absurd e (hf _ _ _)
  | stuck =>
    rw [e] at q1
    exact q1.elim
theorem x_bin {op : Operator} {f : D → D → Res D} (ho : OpR X (binaryOp op) (r2 X.K f)) (hf : NoEx2 f) (ha : PE X a (tW X.K W ow ma)) (hb : PE X b (tW X.K W ow mb)) : PE X (.BinOp a op b pos) (tE X.K W ow (bin f ma mb)) :=
  PE.of (pe_op ho ha hb) fun _ _ _ h => two_of hf h
theorem x_un {op : UnaryOp} {f : D → Res D} (ho : UnR X (unaryOp op) (r1 X.K f)) (hf : NoEx1 f) (ha : PE X a (tW X.K W ow ma)) : PE X (.UnaryOp op a pos) (tE X.K W ow (un f ma)) :=
  PE.of (pe_un ho ha) fun _ _ _ h => one_of hf h
theorem x_cmp {op : CmpOp} {f : D → D → Res D} (ho : OpR X (compareOp op) (r2 X.K f)) (hf : NoEx2 f) (ha : PE X a (tW X.K W ow ma)) (hb : PE X b (tW X.K W ow mb)) (hm : behindInMarks op b = false) : PE X (.Compare a [op] [b] pos) (tE X.K W ow (bin f ma mb)) :=
  PE.of (pe_cmpR ho ha hb hm) fun _ _ _ h => two_of hf h
/-! ### ints -/
theorem rep_int {K : Frag} {A : AS} {H : Hp} {i : Int} {v : V} (h : RepW K A H (.int i) v) : v = .int i := h
theorem imp2 {g : Value → Value → Sem Value} {r r' : R2} (h : OpR X g r) (k : ∀ x y H Q, r' x y H Q → r x y H Q) : OpR X g r' := fun pins s σ H x y v u Q I rx ry q => h pins s σ H x y v u Q I rx ry (k x y H Q q)
theorem imp1 {g : Value → Sem Value} {r r' : V → Hp → VK → Prop} (h : UnR X g r) (k : ∀ x H Q, r' x H Q → r x H Q) : UnR X g r' := fun pins s σ H x v Q I rx q => h pins s σ H x v Q I rx (k x H Q q)
theorem int_op {g : Value → Value → Sem Value} {f : D → D → Res D} {C : Int → Int → Prop} {z : Int → Int → V} {zd : Int → Int → D} (h : OpR X g (rI C z))
    (hz : ∀ i j, flat (zd i j) = some (z i j)) (hf : ∀ d1 d2 d, f d1 d2 = .ok d → ∃ i j, d1 = .int i ∧ d2 = .int j ∧ C i j ∧ d = zd i j) : OpR X g (r2 X.K f) := imp2 h fun x y H Q ⟨A, d1, d2, d, h1, h2, _, e, k⟩ => by
  obtain ⟨i, j, rfl, rfl, c, rfl⟩ := hf d1 d2 d e
  exact ⟨i, j, rep_int h1, rep_int h2, c, k _ H (Same.refl H) (flat_rep (hz i j) _ _)⟩
theorem rI_of {g : Value → Value → Sem Value} {z : Int → Int → V} (h : OpR X g (rI0 z)) : OpR X g (rI (fun _ _ => True) z) := imp2 h fun x y H Q ⟨i, j, e1, e2, _, q⟩ => ⟨i, j, e1, e2, q⟩
theorem y_sub : OpR X (binaryOp .Sub) (r2 X.K osub) := int_op (rI_of op_sub) (zd := fun i j => .int (i - j)) (fun _ _ => rfl) fun d1 d2 d e => by
  cases d1 <;> cases d2 <;> simp only [osub, Res.ok.injEq, reduceCtorEq] at e
  exact ⟨_, _, rfl, rfl, trivial, e.symm⟩
theorem y_mul : OpR X (binaryOp .Mult) (r2 X.K omul) := int_op op_mul (zd := fun i j => .int (i * j)) (fun _ _ => rfl) fun d1 d2 d e => by
  cases d1 <;> cases d2 <;> simp only [omul, reduceCtorEq] at e
  split at e
  · rename_i c
    refine ⟨_, _, rfl, rfl, ?_, ?_⟩
    · simp only [B64] at c
      unfold CMul
      have e64 : (2 : Int) ^ 64 = 18446744073709551616 := by decide
      rw [e64]
      omega
    · simp only [Res.ok.injEq] at e
      exact e.symm
  · cases e
theorem y_fdiv : OpR X (binaryOp .FloorDiv) (r2 X.K ofdiv) := int_op op_fdiv (zd := fun i j => .int (i / j)) (fun _ _ => rfl) fun d1 d2 d e => by
  cases d1 <;> cases d2 <;> simp only [ofdiv, reduceCtorEq] at e
  split at e
  · rename_i c
    simp only [Res.ok.injEq] at e
    exact ⟨_, _, rfl, rfl, c, e.symm⟩
  · cases e
theorem y_mod : OpR X (binaryOp .Mod) (r2 X.K omod) := int_op op_mod (zd := fun i j => .int (i % j)) (fun _ _ => rfl) fun d1 d2 d e => by
  cases d1 <;> cases d2 <;> simp only [omod, reduceCtorEq] at e
  split at e
  · rename_i c
    simp only [Res.ok.injEq] at e
    exact ⟨_, _, rfl, rfl, c, e.symm⟩
  · cases e
theorem y_pow : OpR X (binaryOp .Pow) (r2 X.K opow) := int_op op_pow (zd := fun i j => .int (i ^ j.toNat)) (fun _ _ => rfl) fun d1 d2 d e => by
  cases d1 <;> cases d2 <;> simp only [opow, reduceCtorEq] at e
  split at e
  · rename_i c
    simp only [Res.ok.injEq] at e
    refine ⟨_, _, rfl, rfl, ?_, e.symm⟩
    have e64 : (2 : Nat) ^ 64 = 18446744073709551616 := by decide
    unfold CPow
    rw [e64]
    exact c
  · cases e
theorem y_shl : OpR X (binaryOp .LShift) (r2 X.K oshl) := int_op op_shlW (zd := fun i j => .int (i * 2 ^ j.toNat)) (fun _ _ => rfl) fun d1 d2 d e => by
  cases d1 <;> cases d2 <;> simp only [oshl, reduceCtorEq] at e
  split at e
  · rename_i c
    simp only [Res.ok.injEq] at e
    refine ⟨_, _, rfl, rfl, ?_, e.symm⟩
    have e64 : (2 : Int) ^ 27 = 134217728 := by decide
    unfold CShl
    rw [e64]
    exact c
  · cases e
theorem y_shr : OpR X (binaryOp .RShift) (r2 X.K oshr) := int_op op_shr (zd := fun i j => .int (i / 2 ^ j.toNat)) (fun _ _ => rfl) fun d1 d2 d e => by
  cases d1 <;> cases d2 <;> simp only [oshr, reduceCtorEq] at e
  split at e
  · rename_i c
    simp only [Res.ok.injEq] at e
    exact ⟨_, _, rfl, rfl, c, e.symm⟩
  · cases e
theorem y_and : OpR X (binaryOp .BitAnd) (r2 X.K oand) := int_op (rI_of op_and) (zd := fun i j => .int (Builtin.bitAnd i j)) (fun _ _ => rfl) fun d1 d2 d e => by
  cases d1 <;> cases d2 <;> simp only [oand, Res.ok.injEq, reduceCtorEq] at e
  exact ⟨_, _, rfl, rfl, trivial, e.symm⟩
theorem y_or : OpR X (binaryOp .BitOr) (r2 X.K oor) := int_op (rI_of op_or) (zd := fun i j => .int (Builtin.bitOr i j)) (fun _ _ => rfl) fun d1 d2 d e => by
  cases d1 <;> cases d2 <;> simp only [oor, Res.ok.injEq, reduceCtorEq] at e
  exact ⟨_, _, rfl, rfl, trivial, e.symm⟩
theorem y_xor : OpR X (binaryOp .BitXor) (r2 X.K oxor) := int_op (rI_of op_xor) (zd := fun i j => .int (Builtin.bitXor i j)) (fun _ _ => rfl) fun d1 d2 d e => by
  cases d1 <;> cases d2 <;> simp only [oxor, Res.ok.injEq, reduceCtorEq] at e
  exact ⟨_, _, rfl, rfl, trivial, e.symm⟩
theorem y_lt : OpR X (compareOp .Lt) (r2 X.K olt) := int_op (rI_of op_lt) (zd := fun i j => .bl (decide (i < j))) (fun _ _ => rfl) fun d1 d2 d e => by
  cases d1 <;> cases d2 <;> simp only [olt, Res.ok.injEq, reduceCtorEq] at e
  exact ⟨_, _, rfl, rfl, trivial, e.symm⟩
theorem y_le : OpR X (compareOp .LtE) (r2 X.K ole) := int_op (rI_of op_le) (zd := fun i j => .bl (decide (i ≤ j))) (fun _ _ => rfl) fun d1 d2 d e => by
  cases d1 <;> cases d2 <;> simp only [ole, Res.ok.injEq, reduceCtorEq] at e
  exact ⟨_, _, rfl, rfl, trivial, e.symm⟩
theorem y_gt : OpR X (compareOp .Gt) (r2 X.K ogt) := int_op (rI_of op_gt) (zd := fun i j => .bl (decide (j < i))) (fun _ _ => rfl) fun d1 d2 d e => by
  cases d1 <;> cases d2 <;> simp only [ogt, Res.ok.injEq, reduceCtorEq] at e
  exact ⟨_, _, rfl, rfl, trivial, e.symm⟩
theorem y_ge : OpR X (compareOp .GtE) (r2 X.K oge) := int_op (rI_of op_ge) (zd := fun i j => .bl (decide (j ≤ i))) (fun _ _ => rfl) fun d1 d2 d e => by
  cases d1 <;> cases d2 <;> simp only [oge, Res.ok.injEq, reduceCtorEq] at e
  exact ⟨_, _, rfl, rfl, trivial, e.symm⟩
theorem y_neg : UnR X (unaryOp .USub) (r1 X.K oneg) := imp1 un_neg fun x H Q ⟨A, d1, d, h1, _, e, k⟩ => by
  cases d1 <;> simp only [oneg, Res.ok.injEq, reduceCtorEq] at e
  subst e
  exact ⟨_, rep_int h1, k _ H (Same.refl H) (flat_rep rfl _ _)⟩
theorem y_inv : UnR X (unaryOp .Invert) (r1 X.K oinv) := imp1 un_inv fun x H Q ⟨A, d1, d, h1, _, e, k⟩ => by
  cases d1 <;> simp only [oinv, Res.ok.injEq, reduceCtorEq] at e
  subst e
  exact ⟨_, rep_int h1, k _ H (Same.refl H) (flat_rep rfl _ _)⟩
/-! ### == and in -/
theorem y_eq (hu : X.A.units + 64 < cLine) : OpR X (compareOp .Eq) (r2 X.K oeq) := imp2 (op_eqD hu) fun x y H Q ⟨A, d1, d2, d, h1, h2, _, e, k⟩ => by
  unfold oeq at e
  split at e
  · rename_i c
    rw [Bool.and_eq_true] at c
    simp only [Res.ok.injEq] at e
    subst e
    obtain ⟨a1, a2, a3⟩ := dp_of 64 d1 x c.1 h1.none
    obtain ⟨b1, b2, b3⟩ := dp_of 64 d2 y c.2 h2.none
    refine ⟨_, _, a1, b1, ?_, ?_, ?_⟩
    · unfold SeqAt.shaped
      rw [a2, decide_eq_true a3]
      rfl
    · unfold SeqAt.shaped
      rw [b2, decide_eq_true b3]
      rfl
    · rw [eqv_py d1 d2 64 64 c.1 c.2]
      exact k _ H (Same.refl H) (flat_rep rfl _ _)
  · cases e
theorem y_ne (hu : X.A.units + 64 < cLine) : OpR X (compareOp .NotEq) (r2 X.K one) := imp2 (op_neD hu) fun x y H Q ⟨A, d1, d2, d, h1, h2, _, e, k⟩ => by
  unfold one at e
  split at e
  · rename_i c
    rw [Bool.and_eq_true] at c
    simp only [Res.ok.injEq] at e
    subst e
    obtain ⟨a1, a2, a3⟩ := dp_of 64 d1 x c.1 h1.none
    obtain ⟨b1, b2, b3⟩ := dp_of 64 d2 y c.2 h2.none
    refine ⟨_, _, a1, b1, ?_, ?_, ?_⟩
    · unfold SeqAt.shaped
      rw [a2, decide_eq_true a3]
      rfl
    · unfold SeqAt.shaped
      rw [b2, decide_eq_true b3]
      rfl
    · rw [eqv_py d1 d2 64 64 c.1 c.2]
      exact k _ H (Same.refl H) (flat_rep rfl _ _)
  · cases e
theorem flat_v {K : Frag} {A : AS} {H : Hp} {d : D} {v : V} (f : flatD d = true) (h : Rep K A H d v) : flatV v = true ∧ ∀ {e : D} {w : V}, flatD e = true → Rep K A H e w → eqV v w = eqv d e := by
  cases d <;> simp only [flatD, reduceCtorEq] at f <;> simp only [Rep] at h <;> subst h <;> refine ⟨rfl, ?_⟩ <;> intro e w fe he <;> cases e <;> simp only [flatD, reduceCtorEq] at fe <;> simp only [Rep] at he <;> subst he <;> simp only [eqV, eqv, b2i]
  rename_i b c
  by_cases q : b = c
  · subst q
    simp
  · rw [beq_eq_false_iff_ne.mpr q]
    exact beq_eq_false_iff_ne.mpr fun z => q (ofS_inj z)
theorem flat_all {K : Frag} {A : AS} {H : Hp} {x : D} {w : V} (fx : flatD x = true) (hx : Rep K A H x w) : ∀ {ds : List D} {vs : List V}, ds.all flatD = true → RepL K A H ds vs → vs.all flatV = true ∧ inV w vs = mem x ds
  | [], vs, _, h => by
    simp only [RepL] at h
    subst h
    exact ⟨rfl, rfl⟩
  | d :: ds, vs, f, h => by
    simp only [RepL] at h
    obtain ⟨v, r, rfl, h1, h2⟩ := h
    simp only [List.all_cons, Bool.and_eq_true] at f
    obtain ⟨a1, a2⟩ := flat_v f.1 h1
    obtain ⟨b1, b2⟩ := flat_all fx hx f.2 h2
    refine ⟨by simp only [List.all_cons, a1, b1, Bool.and_self], ?_⟩
    unfold inV at b2 ⊢
    simp only [List.any_cons, mem, a2 fx hx, b2]
theorem flatW {K : Frag} {A : AS} {H : Hp} {d : D} {v : V} (f : flatD d = true) (h : RepW K A H d v) : Rep K A H d v := by
  cases d <;> simp only [flatD, reduceCtorEq] at f <;> exact h
theorem in_of {K : Frag} {neg : Bool} {f : D → D → Res D} (hf : ∀ x y d, f x y = .ok d → ∃ ys, (y = .lst ys ∨ y = .tup ys) ∧ flatD x = true ∧ ys.all flatD = true ∧ d = .bl (if neg then !mem x ys else mem x ys)) :
    ∀ x y H Q, r2 K f x y H Q → rIn K neg x y H Q := fun x y H Q ⟨A, d1, d2, d, h1, h2, _, e, k⟩ => by
  obtain ⟨ys, hy, fx, fy, rfl⟩ := hf d1 d2 d e
  have g1 := flatW fx h1
  obtain ⟨a, vs, rfl, hq, r⟩ : ∃ a vs, y = .ref a ∧ (SqL K H a vs ∨ SqT K H a vs) ∧ RepL K A H ys vs := by
    rcases hy with rfl | rfl
    · obtain ⟨a, vs, e, q, r⟩ := h2
      exact ⟨a, vs, e, .inl (.inl q), r⟩
    · obtain ⟨a, vs, e, q, r⟩ := (by simpa only [RepW, Rep] using h2 : ∃ a vs, y = .ref a ∧ SqT K H a vs ∧ RepL K A H ys vs)
      exact ⟨a, vs, e, .inr q, r⟩
  obtain ⟨b1, b2⟩ := flat_all fx g1 fy r
  refine ⟨a, vs, rfl, hq, (flat_v fx g1).1, b1, ?_⟩
  rw [b2]
  exact k _ H (Same.refl H) (flat_rep rfl _ _)
theorem y_in : OpR X (compareOp .In) (r2 X.K oin) := imp2 op_in_seq (in_of fun x y d e => by
  cases y with
  | tup xs =>
    simp only [oin] at e
    split at e
    · rename_i c
      rw [Bool.and_eq_true] at c
      simp only [Res.ok.injEq] at e
      exact ⟨xs, .inr rfl, c.1, c.2, e.symm⟩
    · cases e
  | lst xs =>
    simp only [oin] at e
    split at e
    · rename_i c
      rw [Bool.and_eq_true] at c
      simp only [Res.ok.injEq] at e
      exact ⟨xs, .inl rfl, c.1, c.2, e.symm⟩
    · cases e
  | _ => simp [oin] at e)
theorem y_notin : OpR X (compareOp .NotIn) (r2 X.K onotin) := imp2 op_notIn_seq (in_of fun x y d e => by
  cases y with
  | tup xs =>
    simp only [onotin] at e
    split at e
    · rename_i c
      rw [Bool.and_eq_true] at c
      simp only [Res.ok.injEq] at e
      exact ⟨xs, .inr rfl, c.1, c.2, e.symm⟩
    · cases e
  | lst xs =>
    simp only [onotin] at e
    split at e
    · rename_i c
      rw [Bool.and_eq_true] at c
      simp only [Res.ok.injEq] at e
      exact ⟨xs, .inl rfl, c.1, c.2, e.symm⟩
    · cases e
  | _ => simp [onotin] at e)
/-! ### + -/
theorem RepL.empty {K : Frag} {A : AS} {H : Hp} {ds : List D} {vs : List V} (h : RepL K A H ds vs) : ds = [] ↔ vs = [] := by
  have := h.length
  constructor
  · intro e
    subst e
    exact List.eq_nil_of_length_eq_zero this.symm
  · intro e
    subst e
    exact List.eq_nil_of_length_eq_zero this
/-- a new object is clean -/
theorem new_same {H : Hp} {p : Addr} {o : HO} (h : H p = none) : Same H (upd H p o) := fun b u e => by
  rw [upd_ne (ne_of_none e h)]
  exact e
theorem new_tup {K : Frag} {A : AS} {H : Hp} {ds : List D} {vs : List V} (r : RepL K A H ds vs) {p : Addr} (h : H p = none) : Rep K A (upd H p (.tup vs)) (.tup ds) (.ref p) := by
  simp only [Rep]
  exact ⟨p, vs, rfl, .inl (.inl upd_same), RepL.move (Mv.same (new_same h)) _ _ r⟩
theorem new_lst {K : Frag} {A : AS} {H : Hp} (ha : ∀ a, A a → H a ≠ none) {ds : List D} {vs : List V} (r : RepL K A H ds vs) {p : Addr} (h : H p = none) : Rep K A (upd H p (.lst vs)) (.lst ds) (.ref p) := by
  simp only [Rep]
  exact ⟨p, vs, rfl, fun z => ha p z h, .inl upd_same, RepL.move (Mv.same (new_same h)) _ _ r⟩
theorem str_app (a b : String) : Str.ofString a ++ Str.ofString b = Str.ofString (a ++ b) := by
  simp only [Str.ofString_eq_toList]
  show Str.append _ _ = _
  simp [Str.append]
theorem lst_at {pins : List (Addr × Obj)} {σ : L2.St} {H : Hp} {s : Shared} (I : Inv X pins σ H s) {a : Addr} {vs : List V} (h : Rd H a (.lst vs)) :
    vs.length ≤ sizeLine ∧ ∃ (its : List Value) (n : Nat), Vals vs its ∧ s.heap.get? a = some { cls := .type "list", data := .seq its.toArray n } := h.ok I.hok
theorem sz_line : SZ = sizeLine := rfl
theorem y_add : OpR X (binaryOp .Add) (r2 X.K oadd) := by
  intro pins s σ H x y v u Q I rx ry ⟨A, d1, d2, d, h1, h2, ha, e, k⟩
  cases d1 with
  | int i =>
    cases d2 <;> simp only [oadd, Res.ok.injEq, reduceCtorEq] at e
    subst e
    exact op_add pins s σ H x y v u Q I rx ry ⟨_, _, rep_int h1, rep_int h2, k _ H (Same.refl H) (flat_rep rfl _ _)⟩
  | str i =>
    cases d2 <;> simp only [oadd, Res.ok.injEq, reduceCtorEq] at e
    split at e
    · rename_i j c
      simp only [Res.ok.injEq] at e
      subst e
      refine op_add_str pins s σ H x y v u Q I rx ry ⟨_, _, h1, h2, by rw [str_len, str_len]; exact c, ?_⟩
      rw [str_app]
      exact k _ H (Same.refl H) (flat_rep rfl _ _)
    · cases e
  | tup xs =>
    cases d2 <;> simp only [oadd, Res.ok.injEq, reduceCtorEq] at e
    rename_i ys
    split at e
    · rename_i c
      simp only [Res.ok.injEq] at e
      subst e
      obtain ⟨a, vs, rfl, q1, p1⟩ := (by simpa only [RepW, Rep] using h1 : ∃ a vs, x = .ref a ∧ SqT X.K H a vs ∧ RepL X.K A H xs vs)
      obtain ⟨b, ws, rfl, q2, p2⟩ := (by simpa only [RepW, Rep] using h2 : ∃ a vs, y = .ref a ∧ SqT X.K H a vs ∧ RepL X.K A H ys vs)
      refine op_catA pins s σ H _ _ v u Q I rx ry ⟨a, b, vs, ws, rfl, rfl, q1, q2, by rw [← p1.length, ← p2.length]; exact c, fun z => ?_, fun _ z => ?_, fun _ _ p hp => ?_⟩
      · have z1 := p1.empty.mpr z
        subst z1
        exact k _ H (Same.refl H) h2
      · have z1 := p2.empty.mpr z
        subst z1
        rw [List.append_nil] at k
        exact k _ H (Same.refl H) h1
      · exact k _ _ (new_same hp) (new_tup (p1.append p2) hp)
    · cases e
  | lst xs =>
    cases d2 <;> simp only [oadd, Res.ok.injEq, reduceCtorEq] at e
    rename_i ys
    split at e
    · rename_i c
      simp only [Res.ok.injEq] at e
      subst e
      obtain ⟨a, vs, rfl, q1, p1⟩ := h1
      obtain ⟨b, ws, rfl, q2, p2⟩ := h2
      cases rx
      cases ry
      obtain ⟨z1, its, n, rr1, e1⟩ := lst_at I q1
      obtain ⟨z2, its2, n2, rr2, e2⟩ := lst_at I q2
      have hl1 := rr1.length
      have hl2 := rr2.length
      have hl3 := p1.length
      have hl4 := p2.length
      have hsz : SZ = sizeLine := rfl
      refine PySem.P.add_list e1 e2 ?_ (by rw [List.size_toArray, List.size_toArray]; omega)
      have ea : its.toArray ++ its2.toArray = (its ++ its2).toArray := by simp
      rw [ea]
      exact ⟨.ref _, _, I.lnew (t' := s.toks) (rr1.append rr2) (by rw [List.length_append]; omega), rfl, k _ _ (new_same I.fresh) (new_lst ha (p1.append p2) I.fresh)⟩
    · cases e
  | _ => simp [oadd] at e
end
theorem n_add : NoEx2 oadd := fun x y c fs => by
  cases x <;> cases y <;> simp only [oadd] <;> first | (split <;> exact fun z => nomatch z) | exact fun z => nomatch z
theorem n_sub : NoEx2 osub := fun x y c fs => by cases x <;> cases y <;> exact fun z => nomatch z
theorem n_mul : NoEx2 omul := fun x y c fs => by
  cases x <;> cases y <;> simp only [omul] <;> first | (split <;> exact fun z => nomatch z) | exact fun z => nomatch z
theorem n_fdiv : NoEx2 ofdiv := fun x y c fs => by
  cases x <;> cases y <;> simp only [ofdiv] <;> first | (split <;> exact fun z => nomatch z) | exact fun z => nomatch z
theorem n_mod : NoEx2 omod := fun x y c fs => by
  cases x <;> cases y <;> simp only [omod] <;> first | (split <;> exact fun z => nomatch z) | exact fun z => nomatch z
theorem n_pow : NoEx2 opow := fun x y c fs => by
  cases x <;> cases y <;> simp only [opow] <;> first | (split <;> exact fun z => nomatch z) | exact fun z => nomatch z
theorem n_shl : NoEx2 oshl := fun x y c fs => by
  cases x <;> cases y <;> simp only [oshl] <;> first | (split <;> exact fun z => nomatch z) | exact fun z => nomatch z
theorem n_shr : NoEx2 oshr := fun x y c fs => by
  cases x <;> cases y <;> simp only [oshr] <;> first | (split <;> exact fun z => nomatch z) | exact fun z => nomatch z
theorem n_and : NoEx2 oand := fun x y c fs => by cases x <;> cases y <;> exact fun z => nomatch z
theorem n_or : NoEx2 oor := fun x y c fs => by cases x <;> cases y <;> exact fun z => nomatch z
theorem n_xor : NoEx2 oxor := fun x y c fs => by cases x <;> cases y <;> exact fun z => nomatch z
theorem n_lt : NoEx2 olt := fun x y c fs => by cases x <;> cases y <;> exact fun z => nomatch z
theorem n_le : NoEx2 ole := fun x y c fs => by cases x <;> cases y <;> exact fun z => nomatch z
theorem n_gt : NoEx2 ogt := fun x y c fs => by cases x <;> cases y <;> exact fun z => nomatch z
theorem n_ge : NoEx2 oge := fun x y c fs => by cases x <;> cases y <;> exact fun z => nomatch z
theorem n_neg : NoEx1 oneg := fun x c fs => by cases x <;> exact fun z => nomatch z
theorem n_inv : NoEx1 oinv := fun x c fs => by cases x <;> exact fun z => nomatch z
theorem n_eq : NoEx2 oeq := fun x y c fs => by
  unfold oeq
  split <;> exact fun z => nomatch z
theorem n_ne : NoEx2 one := fun x y c fs => by
  unfold one
  split <;> exact fun z => nomatch z
theorem n_in : NoEx2 oin := fun x y c fs => by
  cases y <;> simp only [oin] <;> first | (split <;> exact fun z => nomatch z) | exact fun z => nomatch z
theorem n_notin : NoEx2 onotin := fun x y c fs => by
  cases y <;> simp only [onotin] <;> first | (split <;> exact fun z => nomatch z) | exact fun z => nomatch z
end Py

/-! Tests, displays, subscripts, attributes, calls of built-ins. -/
namespace Py
open PySem L2
section
variable {X : Cx} {W : WX} {A : AS} {H0 : Base} {ow : Nat → Bool} {a b c : Expr} {ma mb mc : EM} {pos : Pos}
/-! ### truths -/
theorem bl_of {K : Frag} {A : AS} {H : Hp} {k : Bool} {v : V} (h : Rep K A H (.bl k) v) : v = .bl k := h
theorem rep_bl {K : Frag} {A : AS} {H : Hp} {k : Bool} : Rep K A H (.bl k) (.bl k) := rfl
theorem x_and {rest : List Expr} (ha : PE X a (tE X.K W ow ma)) (hb : PE X (.BoolOp .And (b :: rest) pos) (tE X.K W ow mb)) : PE X (.BoolOp .And (a :: b :: rest) pos) (tE X.K W ow (andE ma mb)) :=
  PE.of (pe_and ha hb) fun σ H Q ⟨A, H0, O, en, R, q⟩ => ⟨A, H0, O, en, R, (Out.bind q).good fun d q1 v H1 s1 r1 => by
    cases d with
    | bl k =>
      cases k with
      | true =>
        refine ⟨true, bl_of r1, ?_⟩
        rw [if_pos rfl]
        exact ⟨A, H0, O, en, R.to s1, (q1.to s1).good fun d2 q2 v2 H2 s2 r2 => q2 v2 H2 (s1.trans s2) r2⟩
      | false =>
        refine ⟨false, bl_of r1, ?_⟩
        rw [if_neg (by decide)]
        exact q1 _ _ s1 rep_bl
    | _ => exact q1.elim⟩
theorem x_or {rest : List Expr} (ha : PE X a (tE X.K W ow ma)) (hb : PE X (.BoolOp .Or (b :: rest) pos) (tE X.K W ow mb)) : PE X (.BoolOp .Or (a :: b :: rest) pos) (tE X.K W ow (orE ma mb)) :=
  PE.of (pe_or ha hb) fun σ H Q ⟨A, H0, O, en, R, q⟩ => ⟨A, H0, O, en, R, (Out.bind q).good fun d q1 v H1 s1 r1 => by
    cases d with
    | bl k =>
      cases k with
      | false =>
        refine ⟨false, bl_of r1, ?_⟩
        rw [if_neg (by decide)]
        exact ⟨A, H0, O, en, R.to s1, (q1.to s1).good fun d2 q2 v2 H2 s2 r2 => q2 v2 H2 (s1.trans s2) r2⟩
      | true =>
        refine ⟨true, bl_of r1, ?_⟩
        rw [if_pos rfl]
        exact q1 _ _ s1 rep_bl
    | _ => exact q1.elim⟩
theorem x_one {op} (h : PE X a (tE X.K W ow ma)) : PE X (.BoolOp op [a] pos) (tE X.K W ow ma) := pe_one h
/-- not x, of a truth -/
theorem x_not (ha : PE X a (tE X.K W ow ma)) : PE X (.UnaryOp .Not a pos) (tE X.K W ow (un onb ma)) :=
  PE.of (pe_not ha) fun σ H Q ⟨A, H0, O, en, R, q⟩ => ⟨A, H0, O, en, R, (Out.bind q).good fun d q1 v H1 s1 r1 => by
    cases d with
    | bl k => exact ⟨k, bl_of r1, q1 _ _ s1 rep_bl⟩
    | _ => exact q1.elim⟩
theorem x_ifExp {t : TM} (hc : PT X c (tT X.K W ow t)) (ha : PE X a (tE X.K W ow ma)) (hb : PE X b (tE X.K W ow mb)) : PE X (.IfExp c a b pos) (tE X.K W ow (ifE t ma mb)) :=
  PE.of (pe_ifExp hc ha hb) fun σ H Q ⟨A, H0, O, en, R, q⟩ => ⟨A, H0, O, en, R, (Out.bind q).good fun k q1 H1 s1 => by
    cases k with
    | true =>
      rw [if_pos rfl] at q1 ⊢
      exact ⟨A, H0, O, en, R.to s1, (q1.to s1).good fun d2 q2 v2 H2 s2 r2 => q2 v2 H2 (s1.trans s2) r2⟩
    | false =>
      rw [if_neg (by decide)] at q1 ⊢
      exact ⟨A, H0, O, en, R.to s1, (q1.to s1).good fun d2 q2 v2 H2 s2 r2 => q2 v2 H2 (s1.trans s2) r2⟩⟩
theorem chain_of {f g : D → D → Res D} (hf : NoEx2 f) (hg : NoEx2 g) {σ : L2.St} {H : Hp} {Q : VK} (h : tE X.K W ow (chain f g ma mb mc) σ H Q) : tChain (r2 X.K f) (r2 X.K g) (tW X.K W ow ma) (tW X.K W ow mb) (tW X.K W ow mc) σ H Q := by
  obtain ⟨A, H0, O, en, R, q⟩ := h
  refine ⟨A, H0, O, en, R, (Out.bind q).good fun d1 q1 v1 H1 s1 r1 => ⟨A, H0, O, en, R.to s1, ((Out.bind q1).to s1).good fun d2 q2 v2 H2 s2 r2 => ?_⟩⟩
  have R2 := (R.to s1).to s2
  have q3 := Out.bind q2
  cases e : f d1 d2 with
  | exc cc fs => exact absurd e (hf _ _ _ _)
  | stuck =>
    rw [e] at q3
    exact q3.elim
  | ok d =>
    rw [e] at q3
    refine ⟨_, d1, d2, d, r1.move s2, r2, R2.there, e, fun v3 H3 s3 r3 => ?_⟩
    have q4 : Out _ _ _ := q3
    cases d with
    | bl k =>
      cases k with
      | false =>
        refine ⟨false, bl_of r3, ?_⟩
        rw [if_neg (by decide)]
        exact q4 _ _ ((s1.trans s2).trans s3) rep_bl
      | true =>
        refine ⟨true, bl_of r3, ?_⟩
        rw [if_pos rfl]
        refine ⟨A, H0, O, en, R2.to s3, ((Out.bind q4).to ((s1.trans s2).trans s3)).good fun d4 q5 v4 H4 s4 r4 => ?_⟩
        exact r2_of (W := W) (O := O) (σ := σ) (H0 := H0) hg (r2.move (s3.trans s4)) r4 ((R2.to s3).to s4).there (q5.good fun d k v H' s' r => k v H' ((((s1.trans s2).trans s3).trans s4).trans s') r)
    | _ => exact q4.elim
theorem x_chain {op op' : CmpOp} {f g : D → D → Res D} (ho : OpR X (compareOp op) (r2 X.K f)) (ho' : OpR X (compareOp op') (r2 X.K g)) (hf : NoEx2 f) (hg : NoEx2 g)
    (ha : PE X a (tW X.K W ow ma)) (hb : PE X b (tW X.K W ow mb)) (hc : PE X c (tW X.K W ow mc))
    (hm : lastMarks [op, op'] [b, c] = false := by with_unfolding_all rfl) : PE X (.Compare a [op, op'] [b, c] pos) (tE X.K W ow (chain f g ma mb mc)) :=
  PE.of (pe_chain ho ho' ha hb hc hm) fun _ _ _ h => chain_of hf hg h
/-! ### tests -/
theorem trim {K : Frag} {A : AS} {H : Hp} {d : D} {v : V} {k : Bool} (h : RepW K A H d v) (e : truthy d = .ok k) : TruV K v H k := by
  cases d with
  | non =>
    simp only [truthy, Res.ok.injEq] at e
    have h' : v = .non := h
    subst h' e
    rfl
  | bl b =>
    simp only [truthy, Res.ok.injEq] at e
    have h' : v = .bl b := h
    subst h' e
    rfl
  | int i =>
    simp only [truthy, Res.ok.injEq] at e
    have h' : v = .int i := h
    subst h' e
    rfl
  | str s =>
    simp only [truthy] at e
    split at e
    · rename_i cc
      simp only [Res.ok.injEq] at e
      have h' : v = .str (Str.ofString s) := h
      subst h' e
      refine ⟨by rw [str_len]; exact cc, ?_⟩
      rw [str_len]
      cases hh : s.length with
      | zero => rfl
      | succ n =>
        have e1 : (((n + 1 : Nat) : Int) == 0) = false := beq_eq_false_iff_ne.mpr (by omega)
        have e2 : ((n + 1 : Nat) == 0) = false := rfl
        unfold bne
        rw [e1, e2]
    · cases e
  | tup xs =>
    simp only [truthy, Res.ok.injEq] at e
    obtain ⟨a, vs, rfl, q, r⟩ := (by simpa only [RepW, Rep] using h : ∃ a vs, v = .ref a ∧ SqT K H a vs ∧ RepL K A H xs vs)
    refine .inr (.inl ⟨vs, q, ?_⟩)
    subst e
    have hl := r.length
    cases xs <;> cases vs <;> first | rfl | simp at hl
  | lst xs =>
    simp only [truthy, Res.ok.injEq] at e
    obtain ⟨a, vs, rfl, q, r⟩ := h
    refine .inl ⟨vs, .inl q, ?_⟩
    subst e
    have hl := r.length
    cases xs <;> cases vs <;> first | rfl | simp at hl
  | dic _ => simp [truthy] at e
  | ins _ _ => simp [truthy] at e
theorem no_truthy : ∀ d c fs, truthy d ≠ .exc c fs := fun d c fs => by
  cases d <;> simp only [truthy] <;> first | (split <;> exact fun z => nomatch z) | exact fun z => nomatch z
/-- any expression as a test -/
theorem t_tst (ha : PE X a (tW X.K W ow ma)) (he : ∀ whole, isTrue a X.env whole = (do let v ← whole; standAt a.pos; holding [v] (PySem.truthy v))) : PT X a (tT X.K W ow (tst ma)) :=
  PT.of (pt_truth ha he) fun σ H Q ⟨A, H0, O, en, R, q⟩ => ⟨A, H0, O, en, R, (Out.bind q).good fun d q1 v H1 s1 r1 => by
    cases e : Py.truthy d with
    | ok k =>
      rw [e] at q1
      exact ⟨k, trim r1 e, q1 H1 s1⟩
    | exc c fs => exact absurd e (no_truthy _ _ _)
    | stuck =>
      rw [e] at q1
      exact q1.elim⟩
/-- what gives a truth, as a test -/
def Bl (m : EM) : Prop := ∀ e d, m e = .ok d → ∃ k, d = .bl k
theorem Bl.bin {f : D → D → Res D} (h : ∀ x y d, f x y = .ok d → ∃ k, d = .bl k) {ma mb : EM} : Bl (bin f ma mb) := fun e d q => by
  unfold Py.bin at q
  cases e1 : ma e with
  | ok d1 =>
    rw [e1, bind_ok] at q
    cases e2 : mb e with
    | ok d2 =>
      rw [e2, bind_ok] at q
      exact h _ _ _ q
    | exc _ _ => rw [e2] at q; cases q
    | stuck => rw [e2] at q; cases q
  | exc _ _ => rw [e1] at q; cases q
  | stuck => rw [e1] at q; cases q
theorem tst_of {m : EM} (hm : Bl m) {σ : L2.St} {H : Hp} {Q : Bool → Hp → Prop} (h : tT X.K W ow (tst m) σ H Q) : tE X.K W ow m σ H fun x H' => ∃ k, x = .bl k ∧ Q k H' := by
  obtain ⟨A, H0, O, en, R, q⟩ := h
  refine ⟨A, H0, O, en, R, (Out.bind q).imp (fun d e q1 v H1 s1 r1 => ?_) fun _ _ x => x⟩
  obtain ⟨k, rfl⟩ := hm _ _ e
  exact ⟨k, bl_of r1, q1 H1 s1⟩
/-- a comparison as a test -/
theorem t_cmp {op : CmpOp} {f : D → D → Res D} (ho : OpR X (compareOp op) (r2 X.K f)) (hf : NoEx2 f) (hb2 : ∀ x y d, f x y = .ok d → ∃ k, d = .bl k) (ha : PE X a (tW X.K W ow ma)) (hb : PE X b (tW X.K W ow mb)) (hm : behindInMarks op b = false) :
    PT X (.Compare a [op] [b] pos) (tT X.K W ow (tst (bin f ma mb))) :=
  PT.of (pt_cmpR ho ha hb hm) fun _ _ _ h => two_of hf (tst_of (Bl.bin hb2) h)
theorem t_chain {op op' : CmpOp} {f g : D → D → Res D} (ho : OpR X (compareOp op) (r2 X.K f)) (ho' : OpR X (compareOp op') (r2 X.K g)) (hf : NoEx2 f) (hg : NoEx2 g) (hm2 : Bl (chain f g ma mb mc))
    (ha : PE X a (tW X.K W ow ma)) (hb : PE X b (tW X.K W ow mb)) (hc : PE X c (tW X.K W ow mc))
    (hm : lastMarks [op, op'] [b, c] = false := by with_unfolding_all rfl) : PT X (.Compare a [op, op'] [b, c] pos) (tT X.K W ow (tst (chain f g ma mb mc))) :=
  PT.of (pt_chain ho ho' ha hb hc hm) fun _ _ _ h => chain_of hf hg (tst_of hm2 h)
theorem Bl.chain {f g : D → D → Res D} (h : ∀ x y d, g x y = .ok d → ∃ k, d = .bl k) {ma mb mc : EM} : Bl (chain f g ma mb mc) := fun e d q => by
  unfold Py.chain at q
  cases e1 : ma e with
  | ok d1 =>
    rw [e1, bind_ok] at q
    cases e2 : mb e with
    | ok d2 =>
      rw [e2, bind_ok] at q
      cases e3 : f d1 d2 with
      | ok z =>
        rw [e3, bind_ok] at q
        cases z with
        | bl k =>
          cases k with
          | false =>
            simp only [Res.ok.injEq] at q
            exact ⟨false, q.symm⟩
          | true =>
            simp only at q
            cases e4 : mc e with
            | ok d4 =>
              rw [e4, bind_ok] at q
              exact h _ _ _ q
            | exc _ _ => rw [e4] at q; cases q
            | stuck => rw [e4] at q; cases q
        | _ => cases q
      | exc _ _ => rw [e3] at q; cases q
      | stuck => rw [e3] at q; cases q
    | exc _ _ => rw [e2] at q; cases q
    | stuck => rw [e2] at q; cases q
  | exc _ _ => rw [e1] at q; cases q
  | stuck => rw [e1] at q; cases q
theorem b_lt : ∀ x y d, olt x y = .ok d → ∃ k, d = .bl k := fun x y d h => by
  cases x <;> cases y <;> simp only [olt, Res.ok.injEq, reduceCtorEq] at h
  exact ⟨_, h.symm⟩
theorem b_le : ∀ x y d, ole x y = .ok d → ∃ k, d = .bl k := fun x y d h => by
  cases x <;> cases y <;> simp only [ole, Res.ok.injEq, reduceCtorEq] at h
  exact ⟨_, h.symm⟩
theorem b_gt : ∀ x y d, ogt x y = .ok d → ∃ k, d = .bl k := fun x y d h => by
  cases x <;> cases y <;> simp only [ogt, Res.ok.injEq, reduceCtorEq] at h
  exact ⟨_, h.symm⟩
theorem b_ge : ∀ x y d, oge x y = .ok d → ∃ k, d = .bl k := fun x y d h => by
  cases x <;> cases y <;> simp only [oge, Res.ok.injEq, reduceCtorEq] at h
  exact ⟨_, h.symm⟩
theorem b_eq : ∀ x y d, oeq x y = .ok d → ∃ k, d = .bl k := fun x y d h => by
  unfold oeq at h
  split at h <;> simp only [Res.ok.injEq, reduceCtorEq] at h
  exact ⟨_, h.symm⟩
theorem b_ne : ∀ x y d, Py.one x y = .ok d → ∃ k, d = .bl k := fun x y d h => by
  unfold Py.one at h
  split at h <;> simp only [Res.ok.injEq, reduceCtorEq] at h
  exact ⟨_, h.symm⟩
theorem b_in : ∀ x y d, oin x y = .ok d → ∃ k, d = .bl k := fun x y d h => by
  cases y <;> simp only [oin, reduceCtorEq] at h <;> split at h <;> simp only [Res.ok.injEq, reduceCtorEq] at h <;> exact ⟨_, h.symm⟩
theorem b_notin : ∀ x y d, onotin x y = .ok d → ∃ k, d = .bl k := fun x y d h => by
  cases y <;> simp only [onotin, reduceCtorEq] at h <;> split at h <;> simp only [Res.ok.injEq, reduceCtorEq] at h <;> exact ⟨_, h.symm⟩
theorem t_and1 {t : TM} (ha : PT X a (tT X.K W ow t)) : PW X (.BoolOp .And [a] pos) (tT X.K W ow t) := pw_and1 ha
theorem t_or1 {t : TM} (ha : PT X a (tT X.K W ow t)) : PW X (.BoolOp .Or [a] pos) (tT X.K W ow t) := pw_or1 ha
theorem t_and {t u : TM} {rest : List Expr} (ha : PT X a (tT X.K W ow t)) (hb : PW X (.BoolOp .And (b :: rest) pos) (tT X.K W ow u)) : PW X (.BoolOp .And (a :: b :: rest) pos) (tT X.K W ow (andT t u)) :=
  PW.of (pw_and ha hb) fun σ H Q ⟨A, H0, O, en, R, q⟩ => ⟨A, H0, O, en, R, (Out.bind q).good fun k q1 H1 s1 => by
    cases k with
    | true =>
      rw [if_pos rfl] at q1 ⊢
      exact ⟨A, H0, O, en, R.to s1, (q1.to s1).good fun d2 q2 H2 s2 => q2 H2 (s1.trans s2)⟩
    | false =>
      rw [if_neg (by decide)] at q1 ⊢
      exact q1 H1 s1⟩
theorem t_or {t u : TM} {rest : List Expr} (ha : PT X a (tT X.K W ow t)) (hb : PW X (.BoolOp .Or (b :: rest) pos) (tT X.K W ow u)) : PW X (.BoolOp .Or (a :: b :: rest) pos) (tT X.K W ow (orT t u)) :=
  PW.of (pw_or ha hb) fun σ H Q ⟨A, H0, O, en, R, q⟩ => ⟨A, H0, O, en, R, (Out.bind q).good fun k q1 H1 s1 => by
    cases k with
    | false =>
      rw [if_neg (by decide)] at q1 ⊢
      exact ⟨A, H0, O, en, R.to s1, (q1.to s1).good fun d2 q2 H2 s2 => q2 H2 (s1.trans s2)⟩
    | true =>
      rw [if_pos rfl] at q1 ⊢
      exact q1 H1 s1⟩
theorem t_not {t : TM} (ha : PT X a (tT X.K W ow t)) : PT X (.UnaryOp .Not a pos) (tT X.K W ow (notT t)) :=
  PT.of (pt_not ha) fun σ H Q ⟨A, H0, O, en, R, q⟩ => ⟨A, H0, O, en, R, (Out.bind q).good fun k q1 H1 s1 => q1 H1 s1⟩
/-! ### is None, is True -/
theorem isN_v {K : Frag} {A : AS} {H : Hp} {d : D} {v : V} (h : RepW K A H d v) : decide (v = .non) = isNon d := by
  cases d with
  | non =>
    have h' : v = .non := h
    subst h'
    rfl
  | bl b =>
    have h' : v = .bl b := h
    subst h'
    rfl
  | int b =>
    have h' : v = .int b := h
    subst h'
    rfl
  | str b =>
    have h' : v = .str (Str.ofString b) := h
    subst h'
    rfl
  | tup xs =>
    obtain ⟨a, vs, rfl, q, r⟩ := (by simpa only [RepW, Rep] using h : ∃ a vs, v = .ref a ∧ SqT K H a vs ∧ RepL K A H xs vs)
    rfl
  | lst xs =>
    obtain ⟨a, vs, rfl, q, r⟩ := h
    rfl
  | dic _ => simp only [RepW, Rep] at h
  | ins _ _ =>
    obtain ⟨a, dx, fvs, rfl, _⟩ := h
    rfl
theorem x_isN {j pos'} (ha : PE X a (tW X.K W ow ma)) : PE X (.Compare a [.Is] [.Constant .none j pos'] pos) (tE X.K W ow (un oisN ma)) :=
  PE.of (pe_cmp (pc_isN ha)) fun σ H Q ⟨A, H0, O, en, R, q⟩ => ⟨A, H0, O, en, R, (Out.bind q).good fun d q1 v H1 s1 r1 => by
    dsimp only
    rw [isN_v r1]
    exact q1 _ _ s1 rep_bl⟩
theorem x_notN {j pos'} (ha : PE X a (tW X.K W ow ma)) : PE X (.Compare a [.IsNot] [.Constant .none j pos'] pos) (tE X.K W ow (un onotN ma)) :=
  PE.of (pe_cmp (pc_notN ha)) fun σ H Q ⟨A, H0, O, en, R, q⟩ => ⟨A, H0, O, en, R, (Out.bind q).good fun d q1 v H1 s1 r1 => by
    dsimp only
    rw [isN_v r1]
    exact q1 _ _ s1 rep_bl⟩
theorem Bl.un {f : D → Res D} (h : ∀ x d, f x = .ok d → ∃ k, d = .bl k) {ma : EM} : Bl (un f ma) := fun e d q => by
  unfold Py.un at q
  cases e1 : ma e with
  | ok d1 =>
    rw [e1, bind_ok] at q
    exact h _ _ q
  | exc _ _ => rw [e1] at q; cases q
  | stuck => rw [e1] at q; cases q
theorem b_isN : ∀ x d, oisN x = .ok d → ∃ k, d = .bl k := fun x d h => ⟨_, (Res.ok.inj h).symm⟩
theorem b_notN : ∀ x d, onotN x = .ok d → ∃ k, d = .bl k := fun x d h => ⟨_, (Res.ok.inj h).symm⟩
theorem t_of {m : EM} (hm : Bl m) (h : PE X a (tE X.K W ow m)) (he : ∀ whole, isTrue a X.env whole = (do let v ← whole; standAt a.pos; holding [v] (PySem.truthy v)) := by intro _; rfl) : PT X a (tT X.K W ow (tst m)) :=
  PT.of (pt_val h he) fun _ _ _ q => tst_of hm q
theorem t_isN {j pos'} (ha : PE X a (tW X.K W ow ma)) : PT X (.Compare a [.Is] [.Constant .none j pos'] pos) (tT X.K W ow (tst (un oisN ma))) :=
  PT.of (pt_cmp (pc_isN ha)) fun σ H Q h => by
    obtain ⟨A, H0, O, en, R, q⟩ := tst_of (Bl.un b_isN) h
    refine ⟨A, H0, O, en, R, (Out.bind q).good fun d q1 v H1 s1 r1 => ?_⟩
    dsimp only
    rw [isN_v r1]
    exact q1 _ _ s1 rep_bl
theorem t_notN {j pos'} (ha : PE X a (tW X.K W ow ma)) : PT X (.Compare a [.IsNot] [.Constant .none j pos'] pos) (tT X.K W ow (tst (un onotN ma))) :=
  PT.of (pt_cmp (pc_notN ha)) fun σ H Q h => by
    obtain ⟨A, H0, O, en, R, q⟩ := tst_of (Bl.un b_notN) h
    refine ⟨A, H0, O, en, R, (Out.bind q).good fun d q1 v H1 s1 r1 => ?_⟩
    dsimp only
    rw [isN_v r1]
    exact q1 _ _ s1 rep_bl
end
end Py

/-! Displays, subscripts, attributes, calls of built-ins. -/
namespace Py
open PySem L2
/-- values and data, one by one -/
theorem paired_rep {K : Frag} {A : AS} {H : Hp} : ∀ {vs : List V} {ds : List D}, Paired (fun v d => Rep K A H d v) vs ds → RepL K A H ds vs
  | _, _, .nil => by simp [RepL]
  | _, _, .cons r t => by
    simp only [RepL]
    exact ⟨_, _, rfl, r, paired_rep t⟩
theorem paired_none {K : Frag} {A : AS} {H : Hp} : ∀ {vs : List V} {ds : List D}, Paired (fun v d => RepW K A H d v) vs ds → RepL K (fun _ => False) H ds vs
  | _, _, .nil => by simp [RepL]
  | _, _, .cons r t => by
    simp only [RepL]
    exact ⟨_, _, rfl, RepW.none r, paired_none t⟩
section
variable {X : Cx} {W : WX} {A : AS} {H0 : Base} {ow : Nat → Bool} {a b c e : Expr} {es : List Expr} {m ma mb mc : EM} {am : AM} {pos : Pos}
/-! ### argument lists -/
abbrev aE (K : Frag) := tA (Rep K) K
abbrev aW (K : Frag) := tA (RepW K) K
theorem xa_nil {R : RR} : PA X [] (tA R X.K W ow argN) := PA.of pa_nil fun σ H Q ⟨A, H0, O, en, R', q⟩ => q [] H (Same.refl H) .nil
theorem xa_cons (ha : PE X e (tE X.K W ow m)) (hr : PA X es (aE X.K W ow am)) (hs : starEach (e :: es) X.env = (false, eval e X.env) :: starEach es X.env := by rfl) : PA X (e :: es) (aE X.K W ow (argC m am)) :=
  PA.of (pa_cons ha hr hs) fun σ H Q ⟨A, H0, O, en, R, q⟩ => ⟨A, H0, O, en, R, (Out.bind q).good fun d q1 v H1 s1 r1 => ⟨A, H0, O, en, R.to s1, ((Out.bind q1).to s1).good fun ds q2 vs H2 s2 r2 =>
    q2 (v :: vs) H2 (s1.trans s2) (.cons (Rep.move (Mv.same s2) _ _ r1) r2)⟩⟩
theorem xw_cons (ha : PE X e (tW X.K W ow m)) (hr : PA X es (aW X.K W ow am)) (hs : starEach (e :: es) X.env = (false, eval e X.env) :: starEach es X.env := by rfl) : PA X (e :: es) (aW X.K W ow (argC m am)) :=
  PA.of (pa_cons ha hr hs) fun σ H Q ⟨A, H0, O, en, R, q⟩ => ⟨A, H0, O, en, R, (Out.bind q).good fun d q1 v H1 s1 r1 => ⟨A, H0, O, en, R.to s1, ((Out.bind q1).to s1).good fun ds q2 vs H2 s2 r2 =>
    q2 (v :: vs) H2 (s1.trans s2) (.cons (RepW.move s2 r1) r2)⟩⟩
/-! ### displays -/
theorem x_tup {x1} (h : PA X es (aE X.K W ow am)) : PE X (.Tuple es x1 pos) (tE X.K W ow (tupE am)) :=
  PE.of (pe_tup h) fun σ H Q ⟨A, H0, O, en, R, q⟩ => ⟨A, H0, O, en, R, (Out.bind q).good fun ds q1 vs H1 s1 r1 => by
    have rl := paired_rep r1
    unfold chk at q1
    split at q1
    · rename_i z
      exact ⟨by rw [← rl.length]; exact z, fun p hp => q1 _ _ (s1.trans (new_same hp)) (new_tup rl hp)⟩
    · exact q1.elim⟩
theorem f_lst (h : PA X es (aE X.K W ow am)) : PE X (.List es pos) (tF X.K W ow (lstE am)) :=
  PE.of (pe_lst h) fun σ H Q ⟨A, H0, O, en, R, q⟩ => ⟨A, H0, O, en, R, (Out.bind q).good fun ds q1 vs H1 s1 r1 => by
    have rl := paired_rep r1
    unfold chk at q1
    split at q1
    · rename_i z
      refine ⟨by rw [← rl.length]; exact z, fun p hp => q1 p _ (s1.free hp) (s1.trans (new_same hp)) ⟨vs, upd_same, ?_⟩⟩
      refine RepL.move ⟨fun b hb => ?_, fun b o e _ => new_same hp b o e⟩ _ _ rl
      rcases hb with hb | rfl
      · exact .inl hb
      · exact .inr hp
    · exact q1.elim⟩
/-! ### subscripts -/
theorem y_idx : IxR X (r2 X.K oidx) := by
  intro value slice pins s σ H x y v u Q I rx ry ⟨A, d1, d2, d, h1, h2, ha, e, k⟩ hs
  cases d1 with
  | lst xs =>
    cases d2 <;> simp only [oidx, reduceCtorEq] at e
    rename_i i
    obtain ⟨a, vs, rfl, q, r⟩ := h1
    unfold opt at e
    split at e
    · rename_i d' he
      simp only [Res.ok.injEq] at e
      subst e
      unfold atI at he
      cases hj : ixN xs.length i with
      | none => rw [hj] at he; cases he
      | some j =>
        rw [hj] at he
        obtain ⟨w, hw, rw'⟩ := r.get (show xs[j]? = some d' from he)
        refine ix_list value slice pins s σ H _ _ v u Q I rx ry ⟨a, vs, i, w, rfl, h2, .inl q, ?_, k w H (Same.refl H) rw'⟩ hs
        unfold atI
        rw [← r.length, hj]
        exact hw
    · cases e
  | tup xs =>
    cases d2 <;> simp only [oidx, reduceCtorEq] at e
    rename_i i
    obtain ⟨a, vs, rfl, q, r⟩ := (by simpa only [RepW, Rep] using h1 : ∃ a vs, x = .ref a ∧ SqT X.K H a vs ∧ RepL X.K A H xs vs)
    unfold opt at e
    split at e
    · rename_i d' he
      simp only [Res.ok.injEq] at e
      subst e
      unfold atI at he
      cases hj : ixN xs.length i with
      | none => rw [hj] at he; cases he
      | some j =>
        rw [hj] at he
        obtain ⟨w, hw, rw'⟩ := r.get (show xs[j]? = some d' from he)
        refine ix_tup value slice pins s σ H _ _ v u Q I rx ry ⟨a, vs, i, w, rfl, h2, q, ?_, k w H (Same.refl H) rw'⟩ hs
        unfold atI
        rw [← r.length, hj]
        exact hw
    · cases e
  | str z =>
    cases d2 <;> simp only [oidx, reduceCtorEq] at e
    rename_i i
    split at e
    · rename_i hz
      have h1' : x = .str (Str.ofString z) := h1
      have h2' : y = .int i := h2
      subst h1' h2'
      unfold opt at e
      split at e
      · rename_i d' he
        simp only [Res.ok.injEq] at e
        subst e
        unfold atI at he
        cases hj : ixN z.toList.length i with
        | none => rw [hj] at he; cases he
        | some j =>
          rw [hj] at he
          have he1 : Option.map (fun c => D.str (String.ofList [c])) (z.toList[j]?) = some d' := he
          cases hc : z.toList[j]? with
          | none => rw [hc] at he1; cases he1
          | some ch =>
            rw [hc] at he1
            have he2 : D.str (String.ofList [ch]) = d' := Option.some.inj he1
            subst he2
            have e1 : (Str.ofString z).cps.toList = z.toList.map Char.toNat := by rw [Str.ofString_eq_toList]
            refine ix_str value slice pins s σ H _ _ v u Q I rx ry ⟨_, i, ch.toNat, rfl, rfl, by rw [str_len]; exact hz, ?_, ?_⟩ hs
            · unfold atI
              rw [e1, List.length_map, hj]
              show (List.map Char.toNat z.toList)[j]? = _
              rw [List.getElem?_map, hc]
              rfl
            · have e2 : Str.ofString (String.ofList [ch]) = ⟨#[ch.toNat]⟩ := by
                rw [Str.ofString_eq_toList, String.toList_ofList]
                rfl
              rw [← e2]
              exact k _ H (Same.refl H) rfl
      · cases e
    · cases e
  | dic kvs => simp only [RepW, Rep] at h1
  | _ => simp [oidx] at e
theorem n_idx : NoEx2 oidx := fun x y c fs => by
  have ho : ∀ o, opt o ≠ .exc c fs := fun o => by cases o <;> exact fun z => nomatch z
  cases x <;> cases y <;> simp only [oidx] <;> first | exact ho _ | (split <;> first | exact ho _ | exact fun z => nomatch z) | exact fun z => nomatch z
theorem x_idx (ha : PE X a (tW X.K W ow ma)) (hb : PE X b (tW X.K W ow mb)) (hs : PlainIx b := by exact fun _ _ => rfl) : PE X (.Subscript a b pos) (tE X.K W ow (bin oidx ma mb)) :=
  PE.of (pe_ix y_idx ha hb hs) fun _ _ _ h => two_of n_idx h
/-! ### slices -/
theorem RepL.cut {K : Frag} {A : AS} {H : Hp} {ds : List D} {vs : List V} (h : RepL K A H ds vs) (lo hi : Option Int) : RepL K A H (Py.cut ds lo hi) (cutV vs lo hi) := by
  unfold Py.cut cutV
  rw [h.length]
  exact (h.drop _).take _
def rS (K : Frag) : V → Option Int → Option Int → Hp → VK → Prop := fun x lo hi H Q => ∃ A d1 d, RepW K A H d1 x ∧ (∀ a, A a → H a ≠ none) ∧ oslc d1 lo hi = .ok d ∧ ∀ v H', Same H H' → Rep K A H' d v → Q v H'
theorem cut_all {α : Type} {xs : List α} {lo hi : Option Int} (h : HT.sIx xs.length 0 lo = 0 ∧ HT.sIx xs.length xs.length hi = xs.length) : Py.cut xs lo hi = xs := by
  unfold Py.cut
  rw [h.1, h.2]
  simp
theorem y_slc : SlR X (rS X.K) := by
  intro pins s σ H x v vl vu lo hi sl Q I rx hs pl' pu h
  obtain ⟨A, d1, d, h1, ha, e, k⟩ := h
  cases d1 with
  | lst xs =>
    simp only [oslc, Res.ok.injEq] at e
    subst e
    obtain ⟨a, vs, rfl, q, r⟩ := h1
    exact sl_list pins s σ H _ v vl vu lo hi sl Q I rx hs pl' pu ⟨a, vs, rfl, .inl q, fun p hp => k _ _ (new_same hp) (new_lst ha (r.cut lo hi) hp)⟩
  | tup xs =>
    simp only [oslc, Res.ok.injEq] at e
    subst e
    obtain ⟨a, vs, rfl, q, r⟩ := (by simpa only [RepW, Rep] using h1 : ∃ a vs, x = .ref a ∧ SqT X.K H a vs ∧ RepL X.K A H xs vs)
    refine sl_tupA pins s σ H _ v vl vu lo hi sl Q I rx hs pl' pu ⟨a, vs, rfl, q, fun z => ?_, fun _ p hp => k _ _ (new_same hp) (new_tup (r.cut lo hi) hp)⟩
    rw [← r.length] at z
    rw [cut_all z] at k
    exact k _ H (Same.refl H) h1
  | str z =>
    simp only [oslc] at e
    split at e
    · rename_i hz
      simp only [Res.ok.injEq] at e
      subst e
      have h1' : x = .str (Str.ofString z) := h1
      subst h1'
      refine sl_str pins s σ H _ v vl vu lo hi sl Q I rx hs pl' pu ⟨_, rfl, by rw [str_len]; exact hz, ?_⟩
      have e1 : cutS (Str.ofString z) lo hi = Str.ofString (String.ofList (Py.cut z.toList lo hi)) := by
        rw [Str.ofString_eq_toList (String.ofList _), String.toList_ofList]
        unfold cutS Py.cut
        rw [str_len]
        rw [Str.ofString_eq_toList]
        simp [List.map_take, List.map_drop, String.length_toList]
      rw [e1]
      exact k _ H (Same.refl H) rfl
    · cases e
  | _ => simp [oslc] at e
end
end Py

/-! Slices as expressions, attributes, calls of built-ins, isinstance. -/
namespace Py
open PySem L2
/-! ### own classes: what isinstance and attributes ask -/
def tyNames : List String := ["NoneType", "bool", "int", "str", "tuple", "list", "dict"]
def kitB (K : Frag) (cs : List String) : Bool :=
  cs.all fun c => (He.Fa.cls (Str.ofString c)).ok K
    && (decide (PySem.W.findIn K (.ref (ca K c)) "__class__" = some (some (.builtin "object.__class__")))
    && (decide (PySem.W.specialIn K (.builtin "object.__class__") "__get__" = some (some (.builtin "getset_descriptor.__get__")))
    && (decide (PySem.W.takesIn K (.builtin "object.__class__") = some true)
    && (decide (PySem.W.mroIn K (ca K c) (.type "object") = some true)
    && (cs.all (fun d => decide (PySem.W.kitOne K (.ref (ca K c)) (.ref (ca K d)) = some (decide (c = d))))
    && tyNames.all fun T => decide (PySem.W.kitOne K (.ref (ca K c)) (.type T) = some false) && decide (PySem.W.kitOne K (.type T) (.ref (ca K c)) = some false))))))
structure KitC (K : Frag) (cs : List String) (c : String) : Prop where
  cl : Cls K (ca K c)
  ha : PySem.W.findIn K (.ref (ca K c)) "__class__" = some (some (.builtin "object.__class__"))
  hn : PySem.W.specialIn K (.builtin "object.__class__") "__get__" = some (some (.builtin "getset_descriptor.__get__"))
  ht : PySem.W.takesIn K (.builtin "object.__class__") = some true
  hm : PySem.W.mroIn K (ca K c) (.type "object") = some true
  oo : ∀ d ∈ cs, PySem.W.kitOne K (.ref (ca K c)) (.ref (ca K d)) = some (decide (c = d))
  ob : ∀ T ∈ tyNames, PySem.W.kitOne K (.ref (ca K c)) (.type T) = some false
  bo : ∀ T ∈ tyNames, PySem.W.kitOne K (.type T) (.ref (ca K c)) = some false
def KitF (K : Frag) (cs : List String) : Prop := ∀ c ∈ cs, KitC K cs c
theorem kit_of_b {K : Frag} {cs : List String} (h : kitB K cs = true) : KitF K cs := fun c hc => by
  have h1 := List.all_eq_true.mp h c hc
  simp only [Bool.and_eq_true, decide_eq_true_eq, List.all_eq_true] at h1
  obtain ⟨a1, a2, a3, a4, a5, a6, a7⟩ := h1
  exact ⟨He.cls_ok a1, a2, a3, a4, a5, a6, fun T hT => (a7 T hT).1, fun T hT => (a7 T hT).2⟩
def tyN : Ty → String
  | .non => "NoneType" | .bl => "bool" | .int => "int" | .str => "str" | .tup => "tuple" | .lst => "list" | .dic => "dict" | .cls c => c
def tyV (K : Frag) : Ty → V
  | .cls c => .ref (ca K c)
  | t => .ty (tyN t)
def tyU (K : Frag) : Ty → Value
  | .cls c => .ref (ca K c)
  | t => .type (tyN t)
theorem ty_cls (K : Frag) (t : Ty) : ClsV (tyV K t) (tyU K t) := by
  cases t <;> first | exact .ty _ | exact .own _
theorem ty_rel (K : Frag) (t : Ty) : RelV (tyV K t) (tyU K t) := by
  cases t <;> rfl
/-- a datum's own type -/
theorem kit_bb (a b : Ty) : (∀ c, a ≠ .cls c) → (∀ c, b ≠ .cls c) → b ≠ .non → L2.kitB (tyN a) (tyN b) = some (decide (b = a) || (decide (a = .bl) && decide (b = .int))) := by
  intro ha hb hn
  cases a <;> first | exact absurd rfl (ha _) | skip
  all_goals cases b <;> first | exact absurd rfl (hb _) | exact absurd rfl hn | (decide +kernel)
theorem isI_ty (t : Ty) (d : D) (h : t ≠ .non) : isI t d = (decide (t = tyOf d) || (decide (tyOf d = .bl) && decide (t = .int))) := by
  cases d <;> cases t <;> simp [isI, tyOf] at h ⊢
theorem kit_one {K : Frag} {cs : List String} (F : KitF K cs) {t : Ty} {d : D} (h1 : inCs cs t = true) (h2 : inCs cs (tyOf d) = true) (hn : t ≠ .non) : PySem.W.kitOne K (tyU K (tyOf d)) (tyU K t) = some (isI t d) := by
  rw [isI_ty t d hn]
  cases ht : t with
  | cls c =>
    subst ht
    have hc : c ∈ cs := by simpa [inCs] using h1
    cases hd : tyOf d with
    | cls c' =>
      rw [hd] at h2
      have hc' : c' ∈ cs := by simpa [inCs] using h2
      have := (F c' hc').oo c hc
      show PySem.W.kitOne K (.ref (ca K c')) (.ref (ca K c)) = _
      rw [this]
      by_cases q : c = c'
      · subst q
        simp
      · have q2 : ¬ c' = c := fun z => q z.symm
        simp [q, q2]
    | _ =>
      show PySem.W.kitOne K (.type _) (.ref (ca K c)) = _
      rw [(F c hc).bo _ (by decide)]
      simp
  | non => exact absurd ht hn
  | _ =>
    cases hd : tyOf d with
    | cls c' =>
      rw [hd] at h2
      have hc' : c' ∈ cs := by simpa [inCs] using h2
      show PySem.W.kitOne K (.ref (ca K c')) (.type _) = _
      rw [(F c' hc').ob _ (by decide)]
      simp
    | _ => exact L2.kit_ty (by rw [← show tyN _ = _ from rfl]; decide +kernel)
theorem tyx_of {K : Frag} {cs : List String} (F : KitF K cs) {A : AS} {H : Hp} {d : D} {v : V} (h : RepW K A H d v) (h2 : inCs cs (tyOf d) = true) : TyX K H v (tyU K (tyOf d)) := by
  cases d with
  | non =>
    have h' : v = .non := h
    subst h'
    exact .base .non
  | bl b =>
    have h' : v = .bl b := h
    subst h'
    exact .base (.bl _)
  | int b =>
    have h' : v = .int b := h
    subst h'
    exact .base (.int _)
  | str b =>
    have h' : v = .str (Str.ofString b) := h
    subst h'
    exact .base (.str _)
  | tup xs =>
    obtain ⟨a, vs, rfl, q, r⟩ := (by simpa only [RepW, Rep] using h : ∃ a vs, v = .ref a ∧ SqT K H a vs ∧ RepL K A H xs vs)
    rcases q with (q | ⟨o, q⟩) | ⟨o, its, n, q1, q2, _⟩
    · exact .base (.tup q)
    · exact .fTuple q
    · exact .kTuple q1 q2
  | lst xs =>
    obtain ⟨a, vs, rfl, q, r⟩ := h
    rcases q with q | ⟨o, q⟩
    · exact .base (.lst q)
    · exact .base (.frz q)
  | dic _ => simp only [RepW, Rep] at h
  | ins c fs =>
    obtain ⟨a, dx, fvs, rfl, q, _⟩ := h
    have hc : c ∈ cs := by simpa [inCs, tyOf] using h2
    have k := F c hc
    exact .base (.ins q k.cl k.ha k.hn k.ht k.hm)
/-- isinstance(x, (t1, t2, ..)) -/
theorem n_isi {cs : List String} {ts : List Ty} : NoEx1 (oisi cs ts) := fun x c fs => by
  unfold oisi
  split <;> exact fun z => nomatch z
theorem b_isi {cs : List String} {ts : List Ty} : ∀ x d, oisi cs ts x = .ok d → ∃ k, d = .bl k := fun x d h => by
  unfold oisi at h
  split at h <;> simp only [Res.ok.injEq, reduceCtorEq] at h
  exact ⟨_, h.symm⟩
theorem isi_ok {cs : List String} {ts : List Ty} {d r : D} (h : oisi cs ts d = .ok r) : inCs cs (tyOf d) = true ∧ (∀ t ∈ ts, inCs cs t = true ∧ t ≠ .non) ∧ r = .bl (ts.any fun t => isI t d) := by
  unfold oisi at h
  split at h
  · rename_i c
    simp only [Bool.and_eq_true, List.all_eq_true, decide_eq_true_eq] at c
    simp only [Res.ok.injEq] at h
    exact ⟨c.1, c.2, h.symm⟩
  · cases h
theorem kit_any {K : Frag} {cs : List String} (F : KitF K cs) {d : D} (h2 : inCs cs (tyOf d) = true) : ∀ {ts : List Ty}, (∀ t ∈ ts, inCs cs t = true ∧ t ≠ .non) → PySem.W.kitAny K (tyU K (tyOf d)) (ts.map (tyU K)) = some (ts.any fun t => isI t d)
  | [], _ => rfl
  | t :: ts, h => by
    obtain ⟨a1, a2⟩ := h t (by simp)
    simp only [List.map_cons, List.any_cons]
    refine L2.kitAny_cons (kit_one F a1 h2 a2) (fun e => ?_) fun e => by rw [e]; rfl
    rw [e, Bool.false_or]
    exact kit_any F h2 fun t' h' => h t' (by simp [h'])
theorem RepL.reverse {K : Frag} {A : AS} {H : Hp} : ∀ {ds : List D} {vs : List V}, RepL K A H ds vs → RepL K A H ds.reverse vs.reverse
  | [], vs, h => by
    simp only [RepL] at h
    subst h
    simp [RepL]
  | d :: ds, vs, h => by
    simp only [RepL] at h
    obtain ⟨v, r, rfl, h1, h2⟩ := h
    simp only [List.reverse_cons]
    exact (RepL.reverse h2).append (RepL.one h1)
section
variable {X : Cx} {W : WX} {A : AS} {H0 : Base} {ow : Nat → Bool} {a b c e : Expr} {es : List Expr} {m ma mb mc : EM} {am : AM} {pos : Pos}
theorem x_isi1 {cs : List String} {t : Ty} {x : Str} {p : Pos} (hx : x = "isinstance") (F : KitF X.K cs) (hg : Gl X x) (hm : X.mg x = none) (ha : PE X a (tW X.K W ow ma)) (hb : PE X b (tC (tyV X.K t)))
    (hs : starEach [a, b] X.env = (false, eval a X.env) :: starEach [b] X.env := by rfl) (hs2 : starEach [b] X.env = [(false, eval b X.env)] := by rfl) (hpl : (backTo pos (starEach [b] X.env)).any (·.1) = false := by rfl) :
    PE X (.Call (.Name x p) [a, b] [] pos) (tE X.K W ow (un (oisi cs [t]) ma)) := by
  subst hx
  refine PE.of (pe_callB call_isi hg hm (by decide +kernel) (pa_cons ha (pa_cons hb pa_nil hs2) hs) (by decide) (by decide) hs hpl) fun σ H Q ⟨A, H0, O, en, R, q⟩ => ⟨A, H0, O, en, R, (Out.bind q).good fun d q1 v H1 s1 r1 => ?_⟩
  cases e : oisi cs [t] d with
  | exc _ _ => exact absurd e (n_isi _ _ _)
  | stuck =>
    rw [e] at q1
    exact q1.elim
  | ok r =>
    rw [e] at q1
    obtain ⟨h1, h2, rfl⟩ := isi_ok e
    obtain ⟨h3, h4⟩ := h2 t (by simp)
    refine ⟨v, tyV X.K t, tyU X.K (tyOf d), tyU X.K t, isI t d, rfl, ty_cls _ _, tyx_of F r1 h1, kit_one F h3 h1 h4, ?_⟩
    have q2 := q1 (.bl ([t].any fun t => isI t d)) H1 s1 rep_bl
    simpa using q2
/-- a tuple of classes as written -/
inductive TyL (X : Cx) : List Expr → List Ty → TA → Prop
  | nil : TyL X [] [] tNil
  | cons {e : Expr} {es : List Expr} {t : Ty} {ts : List Ty} {r : TA} (h : PE X e (tC (tyV X.K t))) (k : TyL X es ts r) (hs : starEach (e :: es) X.env = (false, eval e X.env) :: starEach es X.env) : TyL X (e :: es) (t :: ts) (tCons (tC (tyV X.K t)) r)
theorem TyL.pa {es : List Expr} {ts : List Ty} {r : TA} (h : TyL X es ts r) : PA X es r := by
  induction h with
  | nil => exact pa_nil
  | cons h _ hs ih => exact pa_cons h ih hs
theorem TyL.run {es : List Expr} {ts : List Ty} {r : TA} (h : TyL X es ts r) : ∀ {σ : L2.St} {H : Hp} {Q : List V → Hp → Prop}, Q (ts.map (tyV X.K)) H → r σ H Q := by
  induction h with
  | nil => exact fun q => q
  | cons h _ hs ih => exact fun q => ih (Q := fun xs H2 => _) q
theorem ty_all (K : Frag) : ∀ ts : List Ty, Paired ClsV (ts.map (tyV K)) (ts.map (tyU K))
  | [] => .nil
  | t :: ts => .cons (ty_cls K t) (ty_all K ts)
theorem x_isiT {cs : List String} {ts : List Ty} {r : TA} {x : Str} {p tp : Pos} {tk} (hx : x = "isinstance") (F : KitF X.K cs) (hg : Gl X x) (hm : X.mg x = none) (ha : PE X a (tW X.K W ow ma)) (hb : TyL X es ts r) (hz : ts.length ≤ 20)
    (hs : starEach [a, .Tuple es tk tp] X.env = (false, eval a X.env) :: starEach [.Tuple es tk tp] X.env := by rfl) (hs2 : starEach [.Tuple es tk tp] X.env = [(false, eval (.Tuple es tk tp) X.env)] := by rfl) (hpl : (backTo pos (starEach [.Tuple es tk tp] X.env)).any (·.1) = false := by rfl) :
    PE X (.Call (.Name x p) [a, .Tuple es tk tp] [] pos) (tE X.K W ow (un (oisi cs ts) ma)) := by
  subst hx
  refine PE.of (pe_callB call_isiT hg hm (by decide +kernel) (pa_cons ha (pa_cons (pe_tup hb.pa) pa_nil hs2) hs) (by decide) (by decide) hs hpl) fun σ H Q ⟨A, H0, O, en, R, q⟩ => ⟨A, H0, O, en, R, (Out.bind q).good fun d q1 v H1 s1 r1 => ?_⟩
  cases e : oisi cs ts d with
  | exc _ _ => exact absurd e (n_isi _ _ _)
  | stuck =>
    rw [e] at q1
    exact q1.elim
  | ok r =>
    rw [e] at q1
    obtain ⟨h1, h2, rfl⟩ := isi_ok e
    refine hb.run ⟨by rw [List.length_map]; exact Nat.le_trans hz (by decide), fun p hp => ?_⟩
    exact ⟨v, p, ts.map (tyV X.K), tyU X.K (tyOf d), ts.map (tyU X.K), _, rfl, upd_same, ty_all _ _, tyx_of F (r1.move (new_same hp)) h1, kit_any F h1 h2, q1 _ _ (s1.trans (new_same hp)) rep_bl⟩
/-! ### attributes -/
theorem n_attr {cs : List String} {f : String} : NoEx1 (oattr cs f) := fun x c fs => by
  have ho : ∀ o : Option D, opt o ≠ .exc c fs := fun o => by cases o <;> exact fun z => nomatch z
  cases x <;> simp only [oattr] <;> first | (split <;> first | exact ho _ | exact fun z => nomatch z) | exact fun z => nomatch z
theorem x_attr {cs : List String} {f : String} (F : ∀ c ∈ cs, Cls X.K (ca X.K c) ∧ NoAttr X.K (ca X.K c) (Str.ofString f)) (ha : PE X a (tW X.K W ow ma))
    (hb : attributeBase a (Str.ofString f) X.env (eval a X.env) = eval a X.env := by rfl) : PE X (.Attribute a (Str.ofString f) pos) (tE X.K W ow (un (oattr cs f) ma)) :=
  PE.of (pe_fld ha hb) fun σ H Q ⟨A, H0, O, en, R, q⟩ => ⟨A, H0, O, en, R, (Out.bind q).good fun d q1 v H1 s1 r1 => by
    cases d with
    | ins c fs =>
      simp only [oattr] at q1
      split at q1
      · rename_i hc
        obtain ⟨h1, h2⟩ := F c (by simpa using hc)
        obtain ⟨p, dx, fvs, rfl, q2, r2⟩ := r1
        have lk := r2.look (f := f)
        cases hl : fs.lookup f with
        | none =>
          rw [hl] at q1
          exact q1.elim
        | some d' =>
          rw [hl] at q1 lk
          obtain ⟨v', e1, r'⟩ := lk
          exact ⟨p, _, dx, fvs, v', rfl, q2, h1, h2, e1, q1 v' H1 s1 r'⟩
      · exact q1.elim
    | _ => exact q1.elim⟩
/-! ### slices -/
/-- a part of a slice -/
def tO (K : Frag) (W : WX) (ow : Nat → Bool) (m : Option EM) : TO := fun σ H Q => ∃ A H0 O e, ER K A H0 ow O σ H e ∧
  Out (slc.bnd m e) (fun o => ∀ H', Same H H' → Q o H') (badE K W A O σ H)
theorem o_none : PO X none (tO X.K W ow none) := ⟨fun pins s σ H Q I ⟨A, H0, O, en, R, q⟩ => po_none.run pins s σ H Q I (q H (Same.refl H))⟩
theorem o_some (h : PE X e (tE X.K W ow m)) : PO X (some e) (tO X.K W ow (some m)) := ⟨fun pins s σ H Q I ⟨A, H0, O, en, R, q⟩ => (po_some h).run pins s σ H Q I ⟨A, H0, O, en, R, (Out.bind q).good fun d q1 v H1 s1 r1 => by
  cases d with
  | int i => exact ⟨i, r1, q1 H1 s1⟩
  | _ => exact q1.elim⟩⟩
theorem x_slc {lo hi : Option Expr} {ml mh : Option EM} {p2 : Pos} (ha : PE X a (tW X.K W ow ma)) (hl : PO X lo (tO X.K W ow ml)) (hh : PO X hi (tO X.K W ow mh)) : PE X (.Subscript a (.Slice lo hi none p2) pos) (tE X.K W ow (slc ma ml mh)) :=
  PE.of (pe_slice y_slc ha hl hh) fun σ H Q ⟨A, H0, O, en, R, q⟩ => ⟨A, H0, O, en, R, (Out.bind q).good fun d q1 v H1 s1 r1 => ⟨A, H0, O, en, R.to s1, ((Out.bind q1).to s1).good fun i q2 H2 s2 => ⟨A, H0, O, en, (R.to s1).to s2, ((Out.bind q2).to (s1.trans s2)).good fun j q3 H3 s3 => by
    cases e : oslc d i j with
    | ok z =>
      rw [e] at q3
      exact ⟨_, d, z, r1.move (s2.trans s3), (((R.to s1).to s2).to s3).there, e, fun v' H' s' r' => q3 v' H' (((s1.trans s2).trans s3).trans s') r'⟩
    | exc c fs =>
      exfalso
      cases d <;> simp only [oslc, reduceCtorEq] at e
      split at e <;> cases e
    | stuck =>
      rw [e] at q3
      exact q3.elim⟩⟩⟩
theorem n_rev : NoEx1 orev := fun x c fs => by cases x <;> exact fun z => nomatch z
theorem x_rev {k : Nat} {p1 p2 p3 : Pos} (ha : PE X a (tW X.K W ow ma)) : PE X (.Subscript a (.Slice none none (some (.UnaryOp .USub (.Constant (.int 1) k p1) p2)) p3) pos) (tE X.K W ow (un orev ma)) :=
  PE.of (pe_revL ha) fun σ H Q ⟨A, H0, O, en, R, q⟩ => ⟨A, H0, O, en, R, (Out.bind q).good fun d q1 v H1 s1 r1 => by
    cases d with
    | lst xs =>
      obtain ⟨p, vs, rfl, h, r⟩ := r1
      exact ⟨p, vs, rfl, .inl h, fun p' hp => q1 _ _ (s1.trans (new_same hp)) (new_lst (R.to s1).there r.reverse hp)⟩
    | _ => exact q1.elim⟩
/-! ### built-in calls -/
def c1 (K : Frag) (f : D → Res D) : List V → Hp → VK → Prop := fun vs H Q => ∃ x, vs = [x] ∧ r1 K f x H Q
def c2 (K : Frag) (f : D → D → Res D) : List V → Hp → VK → Prop := fun vs H Q => ∃ x y, vs = [x, y] ∧ r2 K f x y H Q
theorem cimp {f : Value} {r r' : List V → Hp → VK → Prop} (h : CallR X f r) (k : ∀ x H Q, r' x H Q → r x H Q) : CallR X f r' := fun pins s σ H xs us Q I rx q => h pins s σ H xs us Q I rx (k xs H Q q)
theorem x_b1 {id : String} {x : Str} {p : Pos} {f : D → Res D} (hc : CallR X (.builtin id) (c1 X.K f)) (hf : NoEx1 f) (hg : Gl X x) (hm : X.mg x = none) (hv : bootBuiltins x = some (.builtin id)) (ha : PE X a (tW X.K W ow ma)) (hn : x ≠ "__name__" := by decide) (hdb : (x == ("__debug__" : Str)) = false := by decide)
    (hs : starEach [a] X.env = [(false, eval a X.env)] := by rfl) : PE X (.Call (.Name x p) [a] [] pos) (tE X.K W ow (un f ma)) :=
  PE.of (pe_callB hc hg hm hv (pa_cons ha pa_nil hs) hn hdb hs (by rfl)) fun σ H Q h => by
    obtain ⟨A, H0, O, en, R, q⟩ := one_of hf h
    exact ⟨A, H0, O, en, R, q.good fun d k v H' s r => ⟨v, rfl, k v H' s r⟩⟩
theorem x_t1 {id : String} {x : Str} {p : Pos} {f : D → Res D} (hc : CallR X (.type id) (c1 X.K f)) (hf : NoEx1 f) (hg : Gl X x) (hm : X.mg x = none) (hv : bootBuiltins x = some (.type id)) (ha : PE X a (tW X.K W ow ma)) (hn : x ≠ "__name__" := by decide) (hdb : (x == ("__debug__" : Str)) = false := by decide)
    (hs : starEach [a] X.env = [(false, eval a X.env)] := by rfl) : PE X (.Call (.Name x p) [a] [] pos) (tE X.K W ow (un f ma)) :=
  PE.of (pe_callTy hc hg hm hv (pa_cons ha pa_nil hs) hn hdb hs (by rfl)) fun σ H Q h => by
    obtain ⟨A, H0, O, en, R, q⟩ := one_of hf h
    exact ⟨A, H0, O, en, R, q.good fun d k v H' s r => ⟨v, rfl, k v H' s r⟩⟩
theorem x_b2 {id : String} {x : Str} {p : Pos} {f : D → D → Res D} (hc : CallR X (.builtin id) (c2 X.K f)) (hf : NoEx2 f) (hg : Gl X x) (hm : X.mg x = none) (hv : bootBuiltins x = some (.builtin id)) (ha : PE X a (tW X.K W ow ma)) (hb : PE X b (tW X.K W ow mb)) (hn : x ≠ "__name__" := by decide) (hdb : (x == ("__debug__" : Str)) = false := by decide)
    (hs : starEach [a, b] X.env = (false, eval a X.env) :: starEach [b] X.env := by rfl) (hs2 : starEach [b] X.env = [(false, eval b X.env)] := by rfl) (hpl : (backTo pos (starEach [b] X.env)).any (·.1) = false := by rfl) : PE X (.Call (.Name x p) [a, b] [] pos) (tE X.K W ow (bin f ma mb)) :=
  PE.of (pe_callB hc hg hm hv (pa_cons ha (pa_cons hb pa_nil hs2) hs) hn hdb hs hpl) fun σ H Q h => by
    obtain ⟨A, H0, O, en, R, q⟩ := two_of hf h
    refine ⟨A, H0, O, en, R, q.good fun d k v H' s r => ?_⟩
    obtain ⟨A2, H02, O2, en2, R2, q2⟩ := k v H' s r
    exact ⟨A2, H02, O2, en2, R2, q2.good fun d2 k2 v2 H2 s2 r2' => ⟨v, v2, rfl, k2 v2 H2 s2 r2'⟩⟩
theorem v_len : CallR X (.builtin "len") (c1 X.K blen) := cimp call_len fun xs H Q ⟨x, e0, A, d1, d, h1, _, e, k⟩ => by
  subst e0
  cases d1 with
  | str s =>
    simp only [blen] at e
    split at e
    · rename_i hz
      simp only [Res.ok.injEq] at e
      subst e
      have h' : x = .str (Str.ofString s) := h1
      subst h'
      exact ⟨_, s.length, rfl, ⟨by rw [str_len]; exact hz, (str_len s).symm⟩, k _ H (Same.refl H) (flat_rep rfl _ _)⟩
    · cases e
  | tup xs =>
    simp only [blen, Res.ok.injEq] at e
    subst e
    obtain ⟨a, vs, rfl, q, r⟩ := (by simpa only [RepW, Rep] using h1 : ∃ a vs, x = .ref a ∧ SqT X.K H a vs ∧ RepL X.K A H xs vs)
    refine ⟨_, xs.length, rfl, .inr ⟨vs, q, r.length⟩, k _ H (Same.refl H) (flat_rep rfl _ _)⟩
  | lst xs =>
    simp only [blen, Res.ok.injEq] at e
    subst e
    obtain ⟨a, vs, rfl, q, r⟩ := h1
    refine ⟨_, xs.length, rfl, .inl ⟨vs, .inl q, r.length⟩, k _ H (Same.refl H) (flat_rep rfl _ _)⟩
  | dic kvs => simp only [RepW, Rep] at h1
  | _ => simp [blen] at e
theorem n_len : NoEx1 blen := fun x c fs => by
  cases x <;> simp only [blen] <;> first | (split <;> exact fun z => nomatch z) | exact fun z => nomatch z
theorem v_int : CallR X (.type "int") (c1 X.K bint) := cimp call_int1 fun xs H Q ⟨x, e0, A, d1, d, h1, _, e, k⟩ => by
  subst e0
  cases d1 with
  | int i =>
    simp only [bint, Res.ok.injEq] at e
    subst e
    have h' : x = .int i := h1
    subst h'
    exact .inl ⟨i, rfl, k _ H (Same.refl H) (flat_rep rfl _ _)⟩
  | bl b =>
    simp only [bint, Res.ok.injEq] at e
    subst e
    have h' : x = .bl b := h1
    subst h'
    exact .inr ⟨b, rfl, k _ H (Same.refl H) (flat_rep rfl _ _)⟩
  | _ => simp [bint] at e
theorem n_int : NoEx1 bint := fun x c fs => by cases x <;> exact fun z => nomatch z
theorem v_tuple : CallR X (.type "tuple") (c1 X.K btuple) := cimp call_tuple_of fun xs H Q ⟨x, e0, A, d1, d, h1, ha, e, k⟩ => by
  subst e0
  cases d1 with
  | lst xs =>
    simp only [btuple, Res.ok.injEq] at e
    subst e
    obtain ⟨a, vs, rfl, q, r⟩ := h1
    exact ⟨a, vs, rfl, .inl ⟨.inl q, fun l hl => k _ _ (new_same hl) (new_tup r hl)⟩⟩
  | tup xs =>
    simp only [btuple, Res.ok.injEq] at e
    subst e
    obtain ⟨a, vs, rfl, q, r⟩ := (by simpa only [RepW, Rep] using h1 : ∃ a vs, x = .ref a ∧ SqT X.K H a vs ∧ RepL X.K A H xs vs)
    exact ⟨a, vs, rfl, .inr ⟨q, k _ H (Same.refl H) h1⟩⟩
  | _ => simp [btuple] at e
theorem n_tuple : NoEx1 btuple := fun x c fs => by cases x <;> exact fun z => nomatch z
theorem v_list : CallR X (.type "list") (c1 X.K blist) := cimp call_list_of fun xs H Q ⟨x, e0, A, d1, d, h1, ha, e, k⟩ => by
  subst e0
  cases d1 with
  | lst xs =>
    simp only [blist, Res.ok.injEq] at e
    subst e
    obtain ⟨a, vs, rfl, q, r⟩ := h1
    exact ⟨a, vs, rfl, .inl (.inl q), fun l hl => k _ _ (new_same hl) (new_lst ha r hl)⟩
  | tup xs =>
    simp only [blist, Res.ok.injEq] at e
    subst e
    obtain ⟨a, vs, rfl, q, r⟩ := (by simpa only [RepW, Rep] using h1 : ∃ a vs, x = .ref a ∧ SqT X.K H a vs ∧ RepL X.K A H xs vs)
    exact ⟨a, vs, rfl, .inr q, fun l hl => k _ _ (new_same hl) (new_lst ha r hl)⟩
  | _ => simp [blist] at e
theorem n_list : NoEx1 blist := fun x c fs => by cases x <;> exact fun z => nomatch z
theorem ints_of {K : Frag} {A : AS} {H : Hp} : ∀ {ds : List D} {vs : List V} {is : List Int}, RepL K A H ds vs → intsOf ds = some is → vs = is.map V.int
  | [], vs, is, h, e => by
    simp only [RepL] at h
    simp only [intsOf, Option.some.injEq] at e
    subst h e
    rfl
  | d :: ds, vs, is, h, e => by
    simp only [RepL] at h
    obtain ⟨v, r, rfl, h1, h2⟩ := h
    cases d with
    | int i =>
      simp only [intsOf] at e
      cases q : intsOf ds with
      | none => rw [q] at e; cases e
      | some js =>
        rw [q] at e
        have e2 : i :: js = is := Option.some.inj e
        subst e2
        have h1' : v = .int i := h1
        rw [h1', ints_of h2 q]
        rfl
    | _ => simp [intsOf] at e
theorem bools_of {K : Frag} {A : AS} {H : Hp} : ∀ {ds : List D} {vs : List V} {is : List Bool}, RepL K A H ds vs → boolsOf ds = some is → vs = is.map V.bl
  | [], vs, is, h, e => by
    simp only [RepL] at h
    simp only [boolsOf, Option.some.injEq] at e
    subst h e
    rfl
  | d :: ds, vs, is, h, e => by
    simp only [RepL] at h
    obtain ⟨v, r, rfl, h1, h2⟩ := h
    cases d with
    | bl i =>
      simp only [boolsOf] at e
      cases q : boolsOf ds with
      | none => rw [q] at e; cases e
      | some js =>
        rw [q] at e
        have e2 : i :: js = is := Option.some.inj e
        subst e2
        have h1' : v = .bl i := h1
        rw [h1', bools_of h2 q]
        rfl
    | _ => simp [boolsOf] at e
theorem v_sum (hc : X.calm = true) : CallR X (.builtin "sum") (c1 X.K bsum) := cimp (cr_sum hc) fun xs H Q ⟨x, e0, A, d1, d, h1, ha, e, k⟩ => by
  subst e0
  cases d1 with
  | lst xs =>
    simp only [bsum] at e
    split at e
    · rename_i is hi
      simp only [Res.ok.injEq] at e
      subst e
      obtain ⟨a, vs, rfl, q, r⟩ := h1
      have e1 := ints_of r hi
      subst e1
      exact ⟨a, is, rfl, .inl q, k _ H (Same.refl H) (flat_rep rfl _ _)⟩
    · cases e
  | _ => simp [bsum] at e
theorem v_all (hc : X.calm = true) : CallR X (.builtin "all") (c1 X.K ball) := cimp (cr_all hc) fun xs H Q ⟨x, e0, A, d1, d, h1, ha, e, k⟩ => by
  subst e0
  cases d1 with
  | lst xs =>
    simp only [ball] at e
    split at e
    · rename_i is hi
      simp only [Res.ok.injEq] at e
      subst e
      obtain ⟨a, vs, rfl, q, r⟩ := h1
      have e1 := bools_of r hi
      subst e1
      exact ⟨a, is, rfl, .inl q, k _ H (Same.refl H) (flat_rep rfl _ _)⟩
    · cases e
  | _ => simp [ball] at e
theorem v_any (hc : X.calm = true) : CallR X (.builtin "any") (c1 X.K bany) := cimp (cr_any hc) fun xs H Q ⟨x, e0, A, d1, d, h1, ha, e, k⟩ => by
  subst e0
  cases d1 with
  | lst xs =>
    simp only [bany] at e
    split at e
    · rename_i is hi
      simp only [Res.ok.injEq] at e
      subst e
      obtain ⟨a, vs, rfl, q, r⟩ := h1
      have e1 := bools_of r hi
      subst e1
      exact ⟨a, is, rfl, .inl q, k _ H (Same.refl H) (flat_rep rfl _ _)⟩
    · cases e
  | _ => simp [bany] at e
theorem n_sum : NoEx1 bsum := fun x c fs => by
  cases x <;> simp only [bsum] <;> first | (split <;> exact fun z => nomatch z) | exact fun z => nomatch z
theorem n_all : NoEx1 ball := fun x c fs => by
  cases x <;> simp only [ball] <;> first | (split <;> exact fun z => nomatch z) | exact fun z => nomatch z
theorem n_any : NoEx1 bany := fun x c fs => by
  cases x <;> simp only [bany] <;> first | (split <;> exact fun z => nomatch z) | exact fun z => nomatch z
theorem v_max2 (hc : X.calm = true) : CallR X (.builtin "max") (c2 X.K bmax2) := cimp (call_max2 hc) fun xs H Q ⟨x, y, e0, A, d1, d2, d, h1, h2, ha, e, k⟩ => by
  subst e0
  cases d1 <;> cases d2 <;> simp only [bmax2, Res.ok.injEq, reduceCtorEq] at e
  subst e
  rename_i i j
  exact ⟨i, j, by rw [rep_int h1, rep_int h2], k _ H (Same.refl H) (flat_rep rfl _ _)⟩
theorem v_min2 (hc : X.calm = true) : CallR X (.builtin "min") (c2 X.K bmin2) := cimp (call_min2 hc) fun xs H Q ⟨x, y, e0, A, d1, d2, d, h1, h2, ha, e, k⟩ => by
  subst e0
  cases d1 <;> cases d2 <;> simp only [bmin2, Res.ok.injEq, reduceCtorEq] at e
  subst e
  rename_i i j
  exact ⟨i, j, by rw [rep_int h1, rep_int h2], k _ H (Same.refl H) (flat_rep rfl _ _)⟩
theorem v_abs : CallR X (.builtin "abs") (c1 X.K babs) := cimp call_abs fun xs H Q ⟨x, e0, A, d1, d, h1, ha, e, k⟩ => by
  subst e0
  cases d1 <;> simp only [babs, Res.ok.injEq, reduceCtorEq] at e
  subst e
  rename_i i
  exact ⟨i, by rw [rep_int h1], k _ H (Same.refl H) (flat_rep rfl _ _)⟩
theorem n_max2 : NoEx2 bmax2 := fun x y c fs => by cases x <;> cases y <;> exact fun z => nomatch z
theorem n_min2 : NoEx2 bmin2 := fun x y c fs => by cases x <;> cases y <;> exact fun z => nomatch z
theorem n_abs : NoEx1 babs := fun x c fs => by cases x <;> exact fun z => nomatch z
theorem n_bits : NoEx1 bbits := fun x c fs => by cases x <;> exact fun z => nomatch z
theorem x_bits {apos : Pos} (ha : PE X a (tW X.K W ow ma)) (hbase : attributeBase a "bit_length" X.env (eval a X.env) = eval a X.env := by rfl) (hline : (apos.endLine == pos.line) = true := by rfl) : PE X (.Call (.Attribute a "bit_length" apos) [] [] pos) (tE X.K W ow (un bbits ma)) :=
  PE.of (pe_bits ha hbase hline) fun σ H Q ⟨A, H0, O, en, R, q⟩ => ⟨A, H0, O, en, R, (Out.bind q).good fun d q1 v H1 s1 r1 => by
    cases d with
    | int i => exact ⟨i, r1, q1 _ H1 s1 (flat_rep rfl _ _)⟩
    | _ => exact q1.elim⟩
/-- list(x) as a new list -/
theorem f_list {x : Str} {p : Pos} (hx : x = "list") (hg : Gl X x) (hm : X.mg x = none) (ha : PE X a (tW X.K W ow ma)) (hs : starEach [a] X.env = [(false, eval a X.env)] := by rfl) : PE X (.Call (.Name x p) [a] [] pos) (tF X.K W ow (un blist ma)) := by
  subst hx
  refine PE.of (pe_callTy call_list_of hg hm (by decide +kernel) (pa_cons ha pa_nil hs) (by decide) (by decide) hs (by rfl)) fun σ H Q ⟨A, H0, O, en, R, q⟩ => ⟨A, H0, O, en, R, (Out.bind q).good fun d q1 v H1 s1 r1 => ?_⟩
  cases d with
  | lst xs =>
    obtain ⟨a, vs, rfl, q, r⟩ := r1
    exact ⟨a, vs, rfl, .inl (.inl q), fun l hl => q1 l _ (s1.free hl) (s1.trans (new_same hl)) ⟨vs, upd_same, RepL.move ⟨fun b hb => hb.elim .inl fun z => by subst z; exact .inr hl, fun b o e _ => new_same hl b o e⟩ _ _ r⟩⟩
  | tup xs =>
    obtain ⟨a, vs, rfl, q, r⟩ := (by simpa only [RepW, Rep] using r1 : ∃ a vs, v = .ref a ∧ SqT X.K H1 a vs ∧ RepL X.K (AO A O) H1 xs vs)
    exact ⟨a, vs, rfl, .inr q, fun l hl => q1 l _ (s1.free hl) (s1.trans (new_same hl)) ⟨vs, upd_same, RepL.move ⟨fun b hb => hb.elim .inl fun z => by subst z; exact .inr hl, fun b o e _ => new_same hl b o e⟩ _ _ r⟩⟩
  | _ => exact q1.elim
end
end Py

/-! What is walked, targets, comprehensions. -/
namespace Py
open PySem L2
/-- J gives the data xs, one a turn, as long as the heap moves so -/
def Itm (M : AS → Hp → AS → Hp → Prop) (K : Frag) (A : AS) (J : It) (xs : List D) (H : Hp) : Prop := ∀ i A2 H2, M A H A2 H2 →
  (i < xs.length → J.go i H2 ∧ ∀ x H3, J.yld i H2 x H3 → Same H2 H3 ∧ ∃ d, xs[i]? = some d ∧ Rep K A2 H3 d x) ∧ (i = xs.length → J.stop i H2)
/-- .. as it only grows -/
def Gr (A : AS) (H : Hp) (A' : AS) (H' : Hp) : Prop := (∀ a, A' a → A a ∨ H a = none) ∧ Same H H'
theorem Gr.mv {A A' : AS} {H H' : Hp} (h : Gr A H A' H') : Mv A H A' H' := ⟨h.1, fun a o e _ => h.2 a o e⟩
abbrev MvT := AS → Hp → AS → Hp → Prop
theorem Itm.gr {K : Frag} {A : AS} {J : It} {xs : List D} {H : Hp} (h : Itm Mv K A J xs H) : Itm Gr K A J xs H := fun i A2 H2 m => h i A2 H2 m.mv
def tI (M : MvT) (K : Frag) (W : WX) (ow : Nat → Bool) (m : IM) : TI := fun σ H R => ∃ A H0 O e, ER K A H0 ow O σ H e ∧
  Out (m e) (fun xs => ∀ J H', Same H H' → Itm M K (AO A O) J xs H' → R J H') (badE K W A O σ H)
theorem PI.of {X : Cx} {tg iter : Expr} {t t' : TI} (h : PI X tg iter t) (k : ∀ σ H R, t' σ H R → t σ H R) : PI X tg iter t' := ⟨fun pins s σ H R I q => h.run pins s σ H R I (k σ H R q)⟩
section
variable {X : Cx} {W : WX} {A : AS} {H0 : Base} {ow : Nat → Bool} {tg a b c e : Expr} {es : List Expr} {m ma mb mc : EM} {am : AM} {pos p : Pos}
/-- a list or a tuple -/
theorem pi_either {l : Expr} {tl : TE} (hl : PE X l tl) : PI X tg l (fun σ H R => tl σ H fun x H1 => ∃ a, x = .ref a ∧ ((∃ xs, SqL X.K H1 a xs ∧ R (Itl X.K a) H1) ∨ ∃ xs, SqT X.K H1 a xs ∧ R (Itt X.K a) H1)) := by
  refine ⟨fun pins s σ H R I h => ?_⟩
  refine thn (hl.run pins s σ H _ I h) fun v s1 ⟨x, H1, I1, r1, q1⟩ => ?_
  obtain ⟨a, e, q⟩ := q1
  subst e
  cases r1
  have fin : ∀ b ∈ [s1.heap.objs.size], FpOk X pins H1 b := fun b hb => by
    have e : b = s1.heap.objs.size := by simpa using hb
    subst e
    exact I1.fpOk (Nat.le_refl _) (I1.hok.fresh (Nat.le_refl _))
  rcases q with ⟨xs, hq, q⟩ | ⟨xs, hq, q⟩
  · obtain ⟨its, rv, p, hz⟩ := I1.list hq
    refine wpAny_pyIter_list p.isList ?_
    exact ⟨s1.heap.objs.size, [s1.heap.objs.size], _, _, H1, rfl, I1.kept (t' := s1.toks) fun b o e => Heap.get?_push_of_some _ e, turn_list a _, ⟨_, Heap.get?_push_size _ rfl, rfl, rfl⟩, fin, q⟩
  · obtain ⟨its, rv, p, hz⟩ := I1.tuple hq
    refine wpAny_pyIter_tuple (show s1.heap.IsTuple a its.toArray from p) ?_
    exact ⟨s1.heap.objs.size, [s1.heap.objs.size], _, _, H1, rfl, I1.kept (t' := s1.toks) fun b o e => Heap.get?_push_of_some _ e, turn_tuple a _, ⟨_, Heap.get?_push_size _ rfl, rfl, rfl⟩, fin, q⟩
theorem itm_tup {K : Frag} {A : AS} {H : Hp} {a : Addr} {ds : List D} {vs : List V} (q : SqT K H a vs) (r : RepL K A H ds vs) : Itm Mv K A (Itt K a) ds H := fun i A2 H2 m => by
  have q2 := SqT.move m q
  have r2 := RepL.move m ds vs r
  refine ⟨fun hi => ?_, fun hi => ⟨vs, q2, by rw [← r.length]; exact Nat.le_of_eq hi.symm⟩⟩
  obtain ⟨v, hv, rv⟩ := r2.get (i := i) (List.getElem?_eq_getElem hi)
  refine ⟨⟨vs, v, q2, hv⟩, fun x H3 ⟨e, k⟩ => ?_⟩
  subst e
  have := k vs q2
  rw [hv] at this
  cases this
  exact ⟨Same.refl _, _, List.getElem?_eq_getElem hi, rv⟩
theorem itm_lst {M : MvT} {K : Frag} {A : AS} {H : Hp} {a : Addr} {ds : List D} {vs : List V} (hM : ∀ A2 H2, M A H A2 H2 → Mv A H A2 H2 ∧ Rd H2 a (.lst vs)) (r : RepL K A H ds vs) : Itm M K A (Itl K a) ds H := fun i A2 H2 m => by
  obtain ⟨mv, rd⟩ := hM A2 H2 m
  have q2 : SqL K H2 a vs := .inl rd
  have r2 := RepL.move mv ds vs r
  refine ⟨fun hi => ?_, fun hi => ⟨vs, q2, by rw [← r.length]; exact Nat.le_of_eq hi.symm⟩⟩
  obtain ⟨v, hv, rv⟩ := r2.get (i := i) (List.getElem?_eq_getElem hi)
  refine ⟨⟨vs, v, q2, hv⟩, fun x H3 ⟨e, k⟩ => ?_⟩
  subst e
  have := k vs q2
  rw [hv] at this
  cases this
  exact ⟨Same.refl _, _, List.getElem?_eq_getElem hi, rv⟩
theorem rd_same {H H2 : Hp} {a : Addr} {u : HO} (s : Same H H2) (h : Rd H a u) : Rd H2 a u := by
  rcases h with h | ⟨o, h⟩
  · exact .inl (s _ _ h)
  · exact .inr ⟨o, s _ _ h⟩
/-- for a for: a clean list or tuple -/
theorem i_seq (ha : PE X a (tE X.K W ow ma)) : PI X tg a (tI Mv X.K W ow (iseq ma)) :=
  PI.of (pi_either ha) fun σ H R' ⟨A, H0, O, en, R, q⟩ => ⟨A, H0, O, en, R, (Out.bind q).good fun d q1 v H1 s1 r1 => by
    cases d with
    | lst xs =>
      obtain ⟨p, vs, rfl, n, h, r⟩ := (by simpa only [Rep] using r1 : ∃ a vs, v = .ref a ∧ ¬ AO A O a ∧ Rd H1 a (.lst vs) ∧ RepL X.K (AO A O) H1 xs vs)
      exact ⟨p, rfl, .inl ⟨vs, .inl h, q1 _ H1 s1 (itm_lst (fun A2 H2 m => ⟨m, (Rd.move m h n).1⟩) r)⟩⟩
    | tup xs =>
      obtain ⟨p, vs, rfl, h, r⟩ := (by simpa only [Rep] using r1 : ∃ a vs, v = .ref a ∧ SqT X.K H1 a vs ∧ RepL X.K (AO A O) H1 xs vs)
      exact ⟨p, rfl, .inr ⟨vs, h, q1 _ H1 s1 (itm_tup h r)⟩⟩
    | _ => exact q1.elim⟩
/-- for a comprehension: also a name's own list -/
theorem i_seqW (ha : PE X a (tW X.K W ow ma)) : PI X tg a (tI Gr X.K W ow (iseq ma)) :=
  PI.of (pi_either ha) fun σ H R' ⟨A, H0, O, en, R, q⟩ => ⟨A, H0, O, en, R, (Out.bind q).good fun d q1 v H1 s1 r1 => by
    cases d with
    | lst xs =>
      obtain ⟨p, vs, rfl, h, r⟩ := r1
      exact ⟨p, rfl, .inl ⟨vs, .inl h, q1 _ H1 s1 (itm_lst (fun A2 H2 m => ⟨m.mv, rd_same m.2 h⟩) r)⟩⟩
    | tup xs =>
      obtain ⟨p, vs, rfl, h, r⟩ := (by simpa only [RepW, Rep] using r1 : ∃ a vs, v = .ref a ∧ SqT X.K H1 a vs ∧ RepL X.K (AO A O) H1 xs vs)
      exact ⟨p, rfl, .inr ⟨vs, h, q1 _ H1 s1 (itm_tup h r).gr⟩⟩
    | _ => exact q1.elim⟩
theorem i_gr {it : IM} (h : PI X tg a (tI Mv X.K W ow it)) : PI X tg a (tI Gr X.K W ow it) :=
  PI.of h fun σ H R' ⟨A, H0, O, en, R, q⟩ => ⟨A, H0, O, en, R, q.good fun xs k J H' s i => k J H' s i.gr⟩
theorem itm_range {K : Frag} {A : AS} {H : Hp} {lo hi : Int} : Itm Mv K A (Itr lo (hi - lo).toNat) (rngL lo hi) H := fun i A2 H2 m => by
  have hl : (rngL lo hi).length = (hi - lo).toNat := by unfold rngL; simp
  rw [hl]
  refine ⟨fun h => ⟨h, fun x H3 ⟨e1, e2⟩ => ?_⟩, fun h => Nat.le_of_eq h.symm⟩
  subst e1 e2
  refine ⟨Same.refl _, .int (lo + (i : Nat)), ?_, rfl⟩
  unfold rngL
  rw [List.getElem?_map, List.getElem?_range h]
  rfl
theorem nb62 {n : Int} (h : n.natAbs < B62) : -(2 : Int) ^ 62 ≤ n ∧ n < 2 ^ 62 := by
  have e : (2 : Int) ^ 62 = 4611686018427387904 := by decide
  rw [e]
  unfold B62 at h
  omega
theorem i_rng1 (hg : Gl X "range") (hm : X.mg "range" = none) (ha : PE X a (tE X.K W ow ma)) (hs : starEach [a] X.env = [(false, eval a X.env)] := by rfl) : PI X tg (.Call (.Name "range" p) [a] [] pos) (tI Mv X.K W ow (irng1 ma)) :=
  PI.of (pi_range1 hg hm (pa_cons ha pa_nil hs) hs) fun σ H R' ⟨A, H0, O, en, R, q⟩ => ⟨A, H0, O, en, R, (Out.bind q).good fun d q1 v H1 s1 r1 => by
    cases d with
    | int n =>
      simp only at q1
      split at q1
      · rename_i z
        have r1' : v = .int n := r1
        subst r1'
        refine ⟨n, rfl, (nb62 z).1, (nb62 z).2, ?_⟩
        have k := q1 (Itr 0 (n - 0).toNat) H1 s1 itm_range
        have e : n - 0 = n := Int.sub_zero n
        rw [e] at k
        exact k
      · exact q1.elim
    | _ => exact q1.elim⟩
theorem i_rng2 (hg : Gl X "range") (hm : X.mg "range" = none) (ha : PE X a (tE X.K W ow ma)) (hb : PE X b (tE X.K W ow mb)) (hs : starEach [a, b] X.env = [(false, eval a X.env), (false, eval b X.env)] := by rfl) (hs2 : starEach [b] X.env = [(false, eval b X.env)] := by rfl) :
    PI X tg (.Call (.Name "range" p) [a, b] [] pos) (tI Mv X.K W ow (irng2 ma mb)) :=
  PI.of (pi_range2 hg hm (pa_cons ha (pa_cons hb pa_nil hs2) (by rw [hs, hs2])) hs hs2) fun σ H R' ⟨A, H0, O, en, R, q⟩ => ⟨A, H0, O, en, R, (Out.bind q).good fun d q1 v H1 s1 r1 => ⟨A, H0, O, en, R.to s1, ((Out.bind q1).to s1).good fun d2 q2 v2 H2 s2 r2 => by
    cases d with
    | int i =>
      cases d2 with
      | int n =>
        simp only at q2
        split at q2
        · rename_i z
          have r1' : v = .int i := r1
          have r2' : v2 = .int n := r2
          subst r1' r2'
          exact ⟨i, n, rfl, ⟨(nb62 z.1).1, (nb62 z.1).2, (nb62 z.2).1, (nb62 z.2).2⟩, q2 (Itr i (n - i).toNat) H2 (s1.trans s2) itm_range⟩
        · exact q2.elim
      | _ => exact q2.elim
    | _ => exact q2.elim⟩⟩
/-! ### targets -/
/-- a target: ts are the slots that it sets -/
def tGt (K : Frag) (ow : Nat → Bool) (ts : List Nat) (g : GM) : TG := fun v σ H Q => ∃ A H0 O e d e', ER K A H0 ow O σ H e ∧ Rep K (AO A O) H d v ∧ g d e = some e' ∧
  ∀ σ', ER K A H0 ow O σ' H e' → σ'.length = σ.length → (∀ j, j ∉ ts → σ'[j]? = σ[j]?) → Q σ' H
theorem PG.of {tg : Expr} {t t' : TG} (h : PG X tg t) (k : ∀ v σ H Q, t' v σ H Q → t v σ H Q) : PG X tg t' := ⟨fun pins s σ H v u Q I r q => h.run pins s σ H v u Q I r (k v σ H Q q)⟩
theorem g_nm {i : Nat} (h : PG X tg (gName i)) (hi : ow i = false) : PG X tg (tGt X.K ow [i] (gnm i)) :=
  PG.of h fun v σ H Q ⟨A, H0, O, en, d, e', R, r, g, q⟩ => by
    cases g
    exact q _ (R.set hi r) (by simp) fun j hj => by
      have : i ≠ j := fun z => hj (by simp [z])
      rw [List.getElem?_set_ne this]
def tGts (K : Frag) (ow : Nat → Bool) (ts : List Nat) (gs : List GM) : TGs := fun vs σ H Q => ∃ A H0 O e ds e', ER K A H0 ow O σ H e ∧ RepL K (AO A O) H ds vs ∧ gtupL gs ds e = some e' ∧
  ∀ σ', ER K A H0 ow O σ' H e' → σ'.length = σ.length → (∀ j, j ∉ ts → σ'[j]? = σ[j]?) → Q σ' H
theorem PGs.of {tg : List Expr} {t t' : TGs} (h : PGs X tg t) (k : ∀ v σ H Q, t' v σ H Q → t v σ H Q) : PGs X tg t' := ⟨fun pins s σ H v u Q I r q => h.run pins s σ H v u Q I r (k v σ H Q q)⟩
theorem gs_nil : PGs X [] (tGts X.K ow [] []) := PGs.of pgs_nil fun vs σ H Q ⟨A, H0, O, en, ds, e', R, r, g, q⟩ => by
  cases ds with
  | nil =>
    simp only [RepL] at r
    subst r
    cases g
    exact ⟨rfl, q σ R rfl fun _ _ => rfl⟩
  | cons d ds => cases g
theorem gs_cons {ts us : List Nat} {g : GM} {gs : List GM} (h1 : PG X e (tGt X.K ow ts g)) (h2 : PGs X es (tGts X.K ow us gs))
    (hs : (assignEach (e :: es) X.env).map (·.2) = assign e X.env :: (assignEach es X.env).map (·.2) := by rfl) : PGs X (e :: es) (tGts X.K ow (ts ++ us) (g :: gs)) :=
  PGs.of (pgs_cons h1 h2 hs) fun vs σ H Q ⟨A, H0, O, en, ds, e', R, r, ge, q⟩ => by
    cases ds with
    | nil => cases ge
    | cons d ds =>
      simp only [RepL] at r
      obtain ⟨v, r', rfl, r1, r2⟩ := r
      simp only [gtupL] at ge
      cases e1 : g d en with
      | none => rw [e1] at ge; cases ge
      | some en1 =>
        rw [e1] at ge
        refine ⟨v, r', rfl, A, H0, O, en, d, en1, R, r1, e1, fun σ1 R1 l1 k1 => ⟨A, H0, O, en1, ds, e', R1, r2, ge, fun σ2 R2 l2 k2 => q σ2 R2 (l2.trans l1) fun j hj => ?_⟩⟩
        rw [k2 j fun z => hj (by simp [z]), k1 j fun z => hj (by simp [z])]
theorem gtupL_len : ∀ {gs : List GM} {ds : List D} {e e' : Env}, gtupL gs ds e = some e' → ds.length = gs.length
  | [], [], _, _, _ => rfl
  | [], _ :: _, _, _, h => by cases h
  | _ :: _, [], _, _, h => by cases h
  | g :: gs, d :: ds, e, e', h => by
    simp only [gtupL] at h
    cases e1 : g d e with
    | none => rw [e1] at h; cases h
    | some e2 =>
      rw [e1] at h
      simp only [List.length_cons]
      rw [gtupL_len (show gtupL gs ds e2 = some e' from h)]
theorem g_tup {ts : List Nat} {gs : List GM} {n k : Nat} (hc : X.calm = true) (h : PGs X es (tGts X.K ow ts gs)) (hn : (assignEach es X.env).length = n := by rfl) (hl : gs.length = n := by rfl)
    (hst : (assignEach es X.env).findIdx? (·.1) = none := by rfl) : PG X (.Tuple es k pos) (tGt X.K ow ts (gtup gs)) :=
  PG.of (pg_tup hc h hn hst) fun v σ H Q ⟨A, H0, O, en, d, e', R, r, g, q⟩ => by
    cases d with
    | tup xs =>
      obtain ⟨a, vs, rfl, h, r⟩ := (by simpa only [Rep] using r : ∃ a vs, v = .ref a ∧ SqT X.K H a vs ∧ RepL X.K (AO A O) H xs vs)
      exact ⟨a, vs, rfl, h, by rw [← r.length, ← hl]; exact gtupL_len g, A, H0, O, en, xs, e', R, r, g, q⟩
    | _ => cases g
/-! ### comprehensions -/
abbrev W0 : WX := fun _ _ _ _ => False
theorem wipe_eq : ∀ {vs : List Nat} {σ σ' : L2.St}, σ'.length = σ.length → (∀ j, j ∉ vs → σ'[j]? = σ[j]?) → L2.wipe σ' vs = L2.wipe σ vs := fun {vs σ σ'} hl h => by
  apply List.ext_getElem?
  intro i
  by_cases hi : i ∈ vs
  · have key : ∀ (us : List Nat) (τ : L2.St), i ∈ us → (L2.wipe τ us)[i]? = if i < τ.length then some none else none := by
      intro us τ
      induction us with
      | nil => intro h; cases h
      | cons u us ih =>
        intro hm
        unfold L2.wipe
        by_cases hu : u = i
        · subst hu
          rw [List.getElem?_set]
          simp only [if_true, L2.wipe_length]
        · rw [List.getElem?_set_ne hu]
          exact ih (by
            rcases List.mem_cons.mp hm with z | z
            · exact absurd z.symm hu
            · exact z)
    rw [key vs σ' hi, key vs σ hi, hl]
  · rw [L2.wipe_out hi, L2.wipe_out hi]
    exact h i hi
theorem compL_drop {f : D → Res (Option D)} {xs : List D} {i : Nat} {ys : List D} (hi : i < xs.length) (h : compL f (xs.drop i) = .ok ys) :
    ∃ o zs, f xs[i] = .ok o ∧ compL f (xs.drop (i + 1)) = .ok zs ∧ ys = match o with | some y => y :: zs | none => zs := by
  rw [List.drop_eq_getElem_cons hi] at h
  simp only [compL] at h
  cases e1 : f xs[i] with
  | ok o =>
    rw [e1, bind_ok] at h
    cases e2 : compL f (xs.drop (i + 1)) with
    | ok zs =>
      rw [e2, bind_ok] at h
      exact ⟨o, zs, rfl, rfl, (Res.ok.inj h).symm⟩
    | exc _ _ => rw [e2] at h; cases h
    | stuck => rw [e2] at h; cases h
  | exc _ _ => rw [e1] at h; cases h
  | stuck => rw [e1] at h; cases h
theorem noexc_of {α β : Type} {r : Res α} {k : α → Res β} {good : β → Prop} {bad : String → List (String × D) → Prop} (h : Out (noexc r >>= k) good bad) : ∃ a, r = .ok a ∧ Out (k a) good bad := by
  cases r with
  | ok a => exact ⟨a, rfl, h⟩
  | exc c fs => exact h.elim
  | stuck => exact h.elim
theorem ER.more {K : Frag} {A A' : AS} {H0 : Base} {ow : Nat → Bool} {O : OW} {σ : L2.St} {H H' : Hp} {e : Env} (R : ER K A H0 ow O σ H e) (h0 : ∀ a, A' a → H' a ≠ none) (s : Same H H') (hA : ∀ a, A' a → A a ∨ H a = none) (hA2 : ∀ a, A a → A' a) : ER K A' H0 ow O σ H' e := by
  have mv : Mv (AO A O) H (AO A' O) H' := ⟨fun a ha => by
    rcases ha with ha | ha
    · rcases hA a ha with z | z
      · exact .inl (.inl z)
      · exact .inr z
    · exact .inl (.inr ha), fun a o e _ => s a o e⟩
  refine ⟨R.len, h0, R.same.trans s, fun i d h1 h2 => ?_, fun i d h1 h2 => ?_, fun i a h => ⟨(R.fresh i a h).1, ne_none s (R.fresh i a h).2.1, fun z => (hA a z).elim (R.fresh i a h).2.2 (R.fresh i a h).2.1⟩, R.inj, R.pin⟩
  · obtain ⟨v, q, r⟩ := R.vals i d h1 h2
    exact ⟨v, q, Rep.move mv _ _ r⟩
  · obtain ⟨a, q, q2, r⟩ := R.owns i d h1 h2
    refine ⟨a, q, q2, r.move mv ?_⟩
    cases z : H a with
    | none => exact absurd z (R.fresh i a q).2.1
    | some o => exact s a o z
/-- [elt for tg in iter if test]; vs: the block's own names, ts: those that the target sets -/
theorem lc_of {K : Frag} {it : IM} {vs ts : List Nat} {g : GM} {t : TM} {elt : EM} (hts : ∀ j ∈ ts, j ∈ vs) {σ : L2.St} {H : Hp} {Q : VK} (h : tF K W ow (lcE it vs g t elt) σ H Q) :
    tLc (tI Gr K W ow it) (tGt K ow ts g) (tT K W0 ow t) (tE K W0 ow elt) vs σ H Q := by
  obtain ⟨A, H0, O, en, R, q⟩ := h
  refine ⟨A, H0, O, en, R, (Out.bind q).good fun xs q1 J H1 s1 itm D hD => ?_⟩
  obtain ⟨ys, hys, q2⟩ := noexc_of q1
  by_cases hsz : xs.length ≤ SZ
  case neg =>
    unfold chk at q2
    rw [if_neg hsz] at q2
    exact q2.elim
  unfold chk at q2
  rw [if_pos hsz] at q2
  have hsl : SZ = sizeLine := rfl
  have R1 := R.to s1
  have hAD : ¬ AO A O D := fun z => R1.there D z hD
  generalize hA' : (fun b => A b ∨ b = D : AS) = A'
  have hA1 : ∀ b, AO A' O b → AO A O b ∨ b = D := fun b hb => by
    subst hA'
    rcases hb with (hb | hb) | hb
    · exact .inl (.inl hb)
    · exact .inr hb
    · exact .inl (.inr hb)
  have hA2 : ∀ b, AO A O b ∨ b = D → AO A' O b := fun b hb => by
    subst hA'
    rcases hb with (hb | hb) | hb
    · exact .inl (.inl hb)
    · exact .inr hb
    · exact .inl (.inr hb)
  refine ⟨fun i m H' => m = xs.length - i ∧ i ≤ xs.length ∧ ∃ acc vs' zs, H' D = some (.lst vs') ∧ Same H1 H' ∧ acc.length ≤ i ∧ compL (compF vs g t elt en) (xs.drop i) = .ok zs ∧ ys = acc ++ zs ∧ RepL K (AO A' O) H' acc vs', ⟨xs.length, by simp, Nat.zero_le _, [], [], ys, upd_same, new_same hD, Nat.le_refl _, hys, rfl, by simp [RepL]⟩, ?_⟩
  rintro i m H' ⟨rfl, hi, acc, vs', zs, hH', s2, hal, hz, hyz, hr2⟩
  have im := itm i (AO A' O) H' ⟨fun b hb => (hA1 b hb).elim .inl fun z => by rw [z]; exact .inr hD, s2⟩
  by_cases hlt : i < xs.length
  · right
    obtain ⟨hgo, hy⟩ := im.1 hlt
    obtain ⟨o, zs', hf, hz', hzs⟩ := compL_drop hlt hz
    refine ⟨hgo, fun H'' => ∃ acc vs' zs, H'' D = some (.lst vs') ∧ Same H1 H'' ∧ acc.length ≤ i + 1 ∧ compL (compF vs g t elt en) (xs.drop (i + 1)) = .ok zs ∧ ys = acc ++ zs ∧ RepL K (AO A' O) H'' acc vs', fun H'' ⟨a1, a2, a3, h1, h2, h3, h4, h5, h6⟩ => ⟨xs.length - (i + 1), by omega, rfl, by omega, a1, a2, a3, h1, h2, h3, h4, h5, h6⟩, fun x H3 y => ?_⟩
    obtain ⟨s3, d, hd, rd⟩ := hy x H3 y
    have hd' : d = xs[i] := by
      rw [List.getElem?_eq_getElem hlt] at hd
      exact (Option.some.inj hd).symm
    subst hd'
    unfold compF at hf
    cases hg : g xs[i] (wipe en vs) with
    | none => rw [hg] at hf; cases hf
    | some e1 =>
      rw [hg, lift_some, bind_ok] at hf
      have s13 := s2.trans s3
      have hD3 : H3 D ≠ none := by
        rw [s3 _ _ hH']
        exact fun z => nomatch z
      have R3 : ER K A' H0 ow O (L2.wipe σ vs) H3 (wipe en vs) := ((R1.more (A' := A') (H' := H3) (fun b hb => by
        rcases hA1 b (.inl hb) with z | z
        · exact (R1.to s13).there b z
        · rw [z]
          exact hD3) s13 (fun b hb => by
        subst hA'
        rcases hb with hb | hb
        · exact .inl hb
        · rw [hb]
          exact .inr hD) (fun b hb => by
        subst hA'
        exact .inl hb))).wipe vs
      refine ⟨A', H0, O, wipe en vs, xs[i], e1, R3, rd, hg, fun σ1 Rσ l1 k1 => ⟨?_, ?_⟩⟩
      · have w1 := wipe_eq (vs := vs) (σ := L2.wipe σ vs) (σ' := σ1) l1 fun j hj => k1 j fun z => hj (hts j z)
        rw [w1]
        exact wipe_eq (L2.wipe_length _ _) fun j hj => L2.wipe_out hj
      · cases ht : t e1 with
        | exc c fs => rw [ht] at hf; cases hf
        | stuck => rw [ht] at hf; cases hf
        | ok bb =>
          rw [ht, bind_ok] at hf
          refine ⟨A', H0, O, e1, Rσ, ?_⟩
          rw [ht]
          show ∀ H', Same H3 H' → _
          intro H4 s4
          cases bb with
          | false =>
            rw [if_neg (by decide)] at hf ⊢
            have ho : o = none := (Res.ok.inj hf).symm
            subst ho
            have s5 : Same H' H4 := s3.trans s4
            exact ⟨acc, vs', zs', s5 _ _ hH', s2.trans s5, by omega, hz', by rw [hyz, hzs], RepL.move (Mv.same s5) _ _ hr2⟩
          | true =>
            rw [if_pos rfl] at hf ⊢
            refine ⟨A', H0, O, e1, Rσ.to s4, ?_⟩
            cases he : elt e1 with
            | exc c fs => rw [he] at hf; cases hf
            | stuck => rw [he] at hf; cases hf
            | ok y' =>
              rw [he, bind_ok] at hf
              have ho : o = some y' := (Res.ok.inj hf).symm
              subst ho
              show ∀ v H', Same H4 H' → _
              intro v5 H5 s5 r5
              have s6 : Same H' H5 := (s3.trans s4).trans s5
              have a1 := s6 _ _ hH'
              have hmv : Mv (AO A' O) H5 (AO A' O) (upd H5 D (.lst (vs' ++ [v5]))) := ⟨fun b hb => .inl hb, fun b o' e1 hb => by
                rw [upd_ne]
                · exact e1
                · intro z
                  subst z
                  rcases hb with hb | hb
                  · exact hb (hA2 _ (.inr rfl))
                  · rw [a1] at e1
                    cases e1
                    exact hb⟩
              have rall := (RepL.move (Mv.same s6) _ _ hr2).append (RepL.one r5)
              have hlen := hr2.length
              refine ⟨vs', a1, by omega, acc ++ [y'], vs' ++ [v5], zs', upd_same, fun b o' e1 => ?_, by simp; omega, hz', by rw [hyz, hzs]; simp, RepL.move hmv _ _ rall⟩
              rw [upd_ne (ne_of_none e1 hD)]
              exact s6 _ _ (s2 _ _ e1)
  · left
    refine ⟨im.2 (by omega), ?_⟩
    have hi2 : i = xs.length := by omega
    subst hi2
    rw [List.drop_length] at hz
    have hzz : zs = [] := (Res.ok.inj hz).symm
    subst hzz
    rw [List.append_nil] at hyz
    subst hyz
    exact q2 D H' (s1.free hD) (s1.trans s2) ⟨vs', hH', RepL.move (Mv.less fun b hb => hA2 b hb) _ _ hr2⟩
end
end Py

/-! Statements. -/
namespace Py
open PySem L2
section
variable {K : Frag} {A : AS} {H0 : Base} {ow : Nat → Bool} {O : OW} {σ : L2.St} {H H' : Hp} {e : Env}
/-- every name gives up what it owns -/
theorem ER.freeze (R : ER K A H0 ow O σ H e) : ER K A ⟨H0.hp, none⟩ (fun _ => false) (fun _ => none) σ H e := by
  have mv : Mv (AO A O) H (AO A fun _ => none) H := Mv.less fun b hb => hb.elim .inl fun ⟨_, z⟩ => nomatch z
  refine ⟨R.len, R.a0, R.same, fun i d h1 _ => ?_, fun i d _ h2 => (nomatch h2), fun i a h => (nomatch h), fun i j a h => (nomatch h), fun a h => (nomatch h)⟩
  cases hi : ow i with
  | false =>
    obtain ⟨v, q, r⟩ := R.vals i d h1 hi
    exact ⟨v, q, Rep.move mv _ _ r⟩
  | true =>
    obtain ⟨a, q, q2, r⟩ := R.owns i d h1 hi
    refine ⟨.ref a, q2, ?_⟩
    have na : ¬ AO A (fun _ => none) a := fun z => z.elim (R.fresh i a q).2.2 fun ⟨_, w⟩ => nomatch w
    cases d with
    | lst ds =>
      obtain ⟨vs, e1, r1⟩ := r
      simp only [Rep]
      exact ⟨a, vs, rfl, na, .inl e1, RepL.move mv _ _ r1⟩
    | ins c fs =>
      obtain ⟨dx, fvs, e1, r1⟩ := r
      simp only [Rep]
      exact ⟨a, dx, fvs, rfl, na, e1, RepF.move mv _ _ r1⟩
    | _ => exact r.elim
/-- a name's own object changes -/
theorem ER.write (R : ER K A H0 ow O σ H e) {i : Nat} {a : Addr} {o : HO} {d d' : D} (hi : ow i = true) (he : e[i]? = some (some d)) (ha : O i = some a) (h : OwnAt K (AO A O) (upd H a o) a d') : ER K A H0 ow O σ (upd H a o) (e.set i (some d')) := by
  obtain ⟨a1, q1, q2, r⟩ := R.owns i d he hi
  rw [ha] at q1
  cases q1
  have hst : ∀ u, H a = some u → ¬ still u := fun u hu => by
    cases d with
    | lst ds =>
      obtain ⟨vs, e1, _⟩ := r
      rw [e1] at hu
      cases hu
      exact fun z => z
    | ins c fs =>
      obtain ⟨dx, fvs, e1, _⟩ := r
      rw [e1] at hu
      cases hu
      exact fun z => z
    | _ => exact r.elim
  have mv : Mv (AO A O) H (AO A O) (upd H a o) := ⟨fun b hb => .inl hb, fun b u e1 hb => by
    rw [upd_ne]
    · exact e1
    · intro z
      subst z
      rcases hb with hb | hb
      · exact hb (.inr ⟨i, ha⟩)
      · exact hst u e1 hb⟩
  have hne : ∀ {H1 : Hp} {b : Addr}, H1 b ≠ none → (upd H1 a o) b ≠ none := fun {H1 b} h => by
    unfold upd
    split
    · exact fun z => nomatch z
    · exact h
  refine ⟨by simp [R.len], fun b hb => hne (R.a0 b hb), fun b u e1 => ?_, fun j dj h1 h2 => ?_, fun j dj h1 h2 => ?_, fun j b hb => ⟨(R.fresh j b hb).1, hne (R.fresh j b hb).2.1, (R.fresh j b hb).2.2⟩, R.inj, R.pin⟩
  · rw [upd_ne]
    · exact R.same b u e1
    · intro z
      rw [z, (R.fresh i a ha).1] at e1
      cases e1
  · have hj : i ≠ j := fun z => by
      subst z
      rw [hi] at h2
      cases h2
    rw [List.getElem?_set_ne hj] at h1
    obtain ⟨v, q, r⟩ := R.vals j dj h1 h2
    exact ⟨v, q, Rep.move mv _ _ r⟩
  · by_cases hj : i = j
    · subst hj
      have hl := (List.getElem?_eq_some_iff.mp he).1
      rw [List.getElem?_set_self hl] at h1
      cases h1
      exact ⟨a, ha, q2, h⟩
    · rw [List.getElem?_set_ne hj] at h1
      obtain ⟨b, p1, p2, p3⟩ := R.owns j dj h1 h2
      have hba : b ≠ a := fun z => by
        subst z
        exact hj (R.inj i j b ha p1)
      exact ⟨b, p1, p2, p3.move mv (upd_ne hba)⟩
/-- a name gets an object of its own -/
theorem ER.take (R : ER K A H0 ow O σ H e) {i : Nat} {a : Addr} {d : D} (s : Same H H') (hi : ow i = true) (h0 : 0 < i) (hn : H a = none) (h : OwnAt K (fun b => AO A O b ∨ b = a) H' a d) :
    ER K A H0 ow (fun j => if j = i then some a else O j) (σ.set i (some (.ref a))) H' (e.set i (some d)) ∧ Mv (AO A O) H (AO A fun j => if j = i then some a else O j) H' := by
  have sub : ∀ b, AO A (fun j => if j = i then some a else O j) b → AO A O b ∨ b = a := fun b hb => by
    rcases hb with hb | ⟨j, hb⟩
    · exact .inl (.inl hb)
    · by_cases hj : j = i
      · simp only [hj, if_true, Option.some.injEq] at hb
        exact .inr hb.symm
      · simp only [hj, if_false] at hb
        exact .inl (.inr ⟨j, hb⟩)
  have mv : Mv (AO A O) H (AO A fun j => if j = i then some a else O j) H' := ⟨fun b hb => (sub b hb).elim .inl fun z => by rw [z]; exact .inr hn, fun b o e1 _ => s b o e1⟩
  have mv2 : Mv (fun b => AO A O b ∨ b = a) H' (AO A fun j => if j = i then some a else O j) H' := Mv.less sub
  have ha : H' a ≠ none := by
    cases d with
    | lst ds =>
      obtain ⟨vs, e1, _⟩ := h
      rw [e1]
      exact fun z => nomatch z
    | ins c fs =>
      obtain ⟨dx, fvs, e1, _⟩ := h
      rw [e1]
      exact fun z => nomatch z
    | _ => exact h.elim
  refine ⟨⟨by simp [R.len], fun b hb => ne_none s (R.a0 b hb), R.same.trans s, fun j dj h1 h2 => ?_, fun j dj h1 h2 => ?_, fun j b hb => ?_, fun j k b hj hk => ?_, fun b hb => ?_⟩, mv⟩
  · have hj : i ≠ j := fun z => by
      subst z
      rw [hi] at h2
      cases h2
    rw [List.getElem?_set_ne hj] at h1
    obtain ⟨v, q, r⟩ := R.vals j dj h1 h2
    exact ⟨v, by rw [List.getElem?_set_ne hj]; exact q, Rep.move mv _ _ r⟩
  · by_cases hj : i = j
    · subst hj
      have hl : i < e.length := by
        have := (List.getElem?_eq_some_iff.mp h1).1
        simpa using this
      rw [List.getElem?_set_self hl] at h1
      cases h1
      exact ⟨a, by simp, List.getElem?_set_self (by rw [R.len]; exact hl), h.move mv2 rfl⟩
    · rw [List.getElem?_set_ne hj] at h1
      obtain ⟨b, p1, p2, p3⟩ := R.owns j dj h1 h2
      have hj' : ¬ j = i := fun z => hj z.symm
      refine ⟨b, by simp only [hj', if_false]; exact p1, by rw [List.getElem?_set_ne hj]; exact p2, p3.move mv ?_⟩
      cases z : H b with
      | none => exact absurd z (R.fresh j b p1).2.1
      | some o => exact s b o z
  · by_cases hj : j = i
    · simp only [hj, if_true, Option.some.injEq] at hb
      subst hb
      refine ⟨?_, ha, fun z => R.a0 a z hn⟩
      cases z : H0.hp a with
      | none => rfl
      | some o =>
        rw [R.same a o z] at hn
        cases hn
    · simp only [hj, if_false] at hb
      exact ⟨(R.fresh j b hb).1, ne_none s (R.fresh j b hb).2.1, (R.fresh j b hb).2.2⟩
  · have old : ∀ l b, O l = some b → b ≠ a := fun l b hl z => by
      rw [z] at hl
      exact (R.fresh l a hl).2.1 hn
    by_cases h1 : j = i
    · by_cases h2 : k = i
      · rw [h1, h2]
      · simp only [h1, if_true, Option.some.injEq] at hj
        simp only [h2, if_false] at hk
        exact absurd hj.symm (old k b hk)
    · by_cases h2 : k = i
      · simp only [h2, if_true, Option.some.injEq] at hk
        simp only [h1, if_false] at hj
        exact absurd hk.symm (old j b hj)
      · simp only [h1, if_false] at hj
        simp only [h2, if_false] at hk
        exact R.inj j k b hj hk
  · have h1 : ¬ 0 = i := fun z => by omega
    simp only [h1, if_false]
    exact R.pin b hb
end
/-- what is given back; fr: an object that is new and its caller's own -/
def RetOk (fr : Bool) (K : Frag) (A : AS) (H0 : Base) (H' : Hp) (d : D) (v : V) : Prop := match fr with
  | false => Rep K A H' d v
  | true => ∃ a, v = .ref a ∧ H0.hp a = none ∧ OwnAt K (fun b => A b ∨ b = a) H' a d
/-- what must hold behind a statement; oN: who owns behind it, oB: who owns at a break, a continue -/
def EndOk3 (fr : Bool) (K : Frag) (A : AS) (H0 : Base) (oN oB : Nat → Bool) (O : OW) (H : Hp) (D : Ends) : Fl → Prop
  | .next e' => ∀ O' σ' H', ER K A H0 oN O' σ' H' e' → Mv (AO A O) H (AO A O') H' → D.nx σ' H'
  | .ret d => ∀ v H', Same H0.hp H' → RetOk fr K A H0 H' d v → D.rt v H'
  | .brk e' => ∀ O' σ' H', ER K A H0 oB O' σ' H' e' → Mv (AO A O) H (AO A O') H' → D.bk σ' H'
  | .cnt e' => ∀ O' σ' H', ER K A H0 oB O' σ' H' e' → Mv (AO A O) H (AO A O') H' → D.ct σ' H'
abbrev EndOk (fr : Bool) (K : Frag) (A : AS) (H0 : Base) (ow : Nat → Bool) (O : OW) (H : Hp) (D : Ends) : Fl → Prop := EndOk3 fr K A H0 ow ow O H D
theorem EndOk3.to {fr : Bool} {K : Frag} {A : AS} {H0 : Base} {oN oB : Nat → Bool} {O O1 : OW} {H H1 : Hp} {D : Ends} (m : Mv (AO A O) H (AO A O1) H1) : ∀ {f : Fl}, EndOk3 fr K A H0 oN oB O H D f → EndOk3 fr K A H0 oN oB O1 H1 D f
  | .next _, h => fun O' σ' H' R n => h O' σ' H' R (m.trans n)
  | .ret _, h => h
  | .brk _, h => fun O' σ' H' R n => h O' σ' H' R (m.trans n)
  | .cnt _, h => fun O' σ' H' R n => h O' σ' H' R (m.trans n)
def badS (K : Frag) (W : WX) (A : AS) (H0 : Base) (c : String) (fs : List (String × D)) : Prop :=
  ∀ σ' da H' fvs, Same H0.hp H' → H' da = some (.xd fvs) → RepF K A H' fs fvs → W (.ref (ca K c)) (some da) σ' H'
theorem badS.e {K : Frag} {W : WX} {A : AS} {H0 : Base} {ow : Nat → Bool} {O : OW} {σ : L2.St} {H : Hp} {e : Env} (R : ER K A H0 ow O σ H e) {c : String} {fs : List (String × D)} (h : badS K W A H0 c fs) : badE K W A O σ H c fs := fun da H' fvs s q r =>
  h σ da H' fvs (R.same.trans s) q (RepF.move (Mv.less fun b => .inl) _ _ r)
def tS3 (fr : Bool) (K : Frag) (W : WX) (ow oN oB : Nat → Bool) (m : SM) : TS := fun D σ H => ∃ A H0 O e, ER K A H0 ow O σ H e ∧ Out (m e) (EndOk3 fr K A H0 oN oB O H D) (badS K W A H0)
abbrev tS (fr : Bool) (K : Frag) (W : WX) (ow : Nat → Bool) (m : SM) : TS := tS3 fr K W ow ow ow m
section
variable {fr : Bool} {X : Cx} {W : WX} {ow : Nat → Bool} {a b c e : Expr} {es : List Expr} {m ma mb mc : EM} {st : Stmt} {rest body orelse : List Stmt} {u v : SM} {t : TM} {pos : Pos}
theorem Out.se {α : Type} {K : Frag} {W : WX} {A : AS} {H0 : Base} {ow : Nat → Bool} {O : OW} {σ : L2.St} {H : Hp} {e : Env} (R : ER K A H0 ow O σ H e) {r : Res α} {good : α → Prop} (h : Out r good (badS K W A H0)) : Out r good (badE K W A O σ H) := h.imp (fun _ _ x => x) fun _ _ x => x.e R
/-! ### blocks -/
theorem ss_nil : PSs X [] (tS fr X.K W ow skip) := PSs.of pss_nil fun D σ H ⟨A, H0, O, en, R, q⟩ => q O σ H R Mv.refl
theorem ss_one (h : PS X st (tS fr X.K W ow u)) : PSs X [st] (tS fr X.K W ow u) := pss_one h
theorem ss_cons (h : PS X st (tS fr X.K W ow u)) (k : PSs X rest (tS fr X.K W ow v)) : PSs X (st :: rest) (tS fr X.K W ow (seq u v)) :=
  PSs.of (pss_cons h k) fun D σ H ⟨A, H0, O, en, R, q⟩ => ⟨A, H0, O, en, R, (Out.bind q).good fun f q1 => by
    cases f with
    | next e' => exact fun O' σ' H' R' mv => ⟨A, H0, O', e', R', q1.good fun f q2 => q2.to mv⟩
    | ret d => exact q1
    | brk e' => exact q1
    | cnt e' => exact q1⟩
/-! ### assignments -/
theorem s_set {i : Nat} (h : PS X st (tAsg (tE X.K W ow m) (gName i))) (hi : ow i = false) : PS X st (tS fr X.K W ow (asg (gnm i) m)) :=
  PS.of h fun D σ H ⟨A, H0, O, en, R, q⟩ => ⟨A, H0, O, en, R, ((Out.bind q).se R).good fun d q1 v H1 s1 r1 => q1 O _ H1 ((R.to s1).set hi r1) (Mv.same s1)⟩
theorem s_own {i : Nat} (h : PS X st (tAsg (tF X.K W ow m) (gName i))) (hi : ow i = true) (h0 : 0 < i := by decide) : PS X st (tS fr X.K W ow (asg (gnm i) m)) :=
  PS.of h fun D σ H ⟨A, H0, O, en, R, q⟩ => ⟨A, H0, O, en, R, ((Out.bind q).se R).good fun d q1 a H1 n s1 r1 => by
    obtain ⟨R2, mv⟩ := R.take s1 hi h0 n r1
    exact q1 _ _ H1 R2 mv⟩
theorem s_gen {ts : List Nat} {g : GM} (h : PS X st (tAsg (tE X.K W ow m) (tGt X.K ow ts g))) : PS X st (tS fr X.K W ow (asg g m)) :=
  PS.of h fun D σ H ⟨A, H0, O, en, R, q⟩ => ⟨A, H0, O, en, R, ((Out.bind q).se R).good fun d q1 v H1 s1 r1 => by
    cases hg : g d en with
    | none =>
      rw [hg] at q1
      exact q1.elim
    | some e' =>
      rw [hg] at q1
      exact ⟨A, H0, O, en, d, e', R.to s1, r1, hg, fun σ' R' _ _ => q1 O σ' H1 R' (Mv.same s1)⟩⟩
/-- x += e and its like, x a clean name -/
theorem s_aug {i : Nat} {f : D → D → Res D} {te : TE} {tp : TIp} (h : PS X st (tAug i te tp)) (hte : te = tW X.K W ow m) (hp : ∀ x y H Q, r2 X.K f x y H Q → tp x y H Q) (hf : NoEx2 f) (hi : ow i = false) : PS X st (tS fr X.K W ow (aug i f m)) := by
  subst hte
  refine PS.of h fun D σ H ⟨A, H0, O, en, R, q⟩ => ?_
  have q0 := Out.bind q
  unfold var at q0
  split at q0
  · rename_i d0 hd0
    obtain ⟨v0, e0, r0⟩ := R.vals i d0 hd0 hi
    refine ⟨v0, e0, A, H0, O, en, R, ((Out.bind q0).se R).good fun d1 q1 v1 H1 s1 r1 => hp _ _ _ _ ?_⟩
    have R1 := R.to s1
    cases e : f d0 d1 with
    | exc _ _ => exact absurd e (hf _ _ _ _)
    | stuck =>
      rw [e] at q1
      exact q1.elim
    | ok d =>
      rw [e] at q1
      exact ⟨_, d0, d1, d, RepW.of (Rep.move (Mv.same s1) _ _ r0), r1, R1.there, e, fun v2 H2 s2 r2 => q1 O _ H2 ((R1.to s2).set hi r2) (Mv.same (s1.trans s2))⟩
  · exact q0.elim
theorem s_drop (h : PS X st (tDrop (tE X.K W ow m))) : PS X st (tS fr X.K W ow (drop m)) :=
  PS.of h fun D σ H ⟨A, H0, O, en, R, q⟩ => ⟨A, H0, O, en, R, ((Out.bind q).se R).good fun d q1 v H1 s1 r1 => q1 O σ H1 (R.to s1) (Mv.same s1)⟩
theorem s_ret (h : PE X a (tE X.K W (fun _ => false) m)) : PS X (.Return (some a) pos) (tS false X.K W ow (ret m)) :=
  PS.of (ps_ret h) fun D σ H ⟨A, H0, O, en, R, q⟩ => ⟨A, _, _, en, R.freeze, ((Out.bind (show Out (ret m en) _ (badS X.K W A ⟨H0.hp, none⟩) from q)).se R.freeze).good fun d q1 v H1 s1 r1 =>
    q1 v H1 (R.same.trans s1) (Rep.move (Mv.less fun b => .inl) _ _ r1)⟩
theorem s_retN : PS X (.Return none pos) (tS false X.K W ow retN) := PS.of ps_retN fun D σ H ⟨A, H0, O, en, R, q⟩ => q .non H R.same rfl
theorem s_pass : PS X (.Pass pos) (tS fr X.K W ow skip) := PS.of ps_pass fun D σ H ⟨A, H0, O, en, R, q⟩ => q O σ H R Mv.refl
theorem s_brk : PS X (.Break pos) (tS fr X.K W ow brk) := PS.of ps_break fun D σ H ⟨A, H0, O, en, R, q⟩ => q O σ H R Mv.refl
theorem s_cnt : PS X (.Continue pos) (tS fr X.K W ow cnt) := PS.of ps_continue fun D σ H ⟨A, H0, O, en, R, q⟩ => q O σ H R Mv.refl
theorem s_if (hc : PT X a (tT X.K W ow t)) (hb : PSs X body (tS fr X.K W ow u)) (ho : PSs X orelse (tS fr X.K W ow v)) : PS X (.If a body orelse pos) (tS fr X.K W ow (ite t u v)) :=
  PS.of (ps_if hc hb ho) fun D σ H ⟨A, H0, O, en, R, q⟩ => ⟨A, H0, O, en, R, ((Out.bind q).se R).good fun k q1 H1 s1 => by
    cases k with
    | true =>
      rw [if_pos rfl] at q1 ⊢
      exact ⟨A, H0, O, en, R.to s1, q1.good fun f q2 => q2.to (Mv.same s1)⟩
    | false =>
      rw [if_neg (by decide)] at q1 ⊢
      exact ⟨A, H0, O, en, R.to s1, q1.good fun f q2 => q2.to (Mv.same s1)⟩⟩
/-! ### loops -/
theorem s_for {tg iter : Expr} {it : IM} {ts : List Nat} {g : GM} (hp : PassesOwn (model X.prog X.w) X.A X.env X.xe) (hc : X.calm = true) (hi : PI X tg iter (tI Mv X.K W ow it)) (hg : PG X tg (tGt X.K ow ts g)) (hb : PSs X body (tS fr X.K W ow u))
    (hs : ∀ x, foldedSetIterable iter X.env x = pure x := by intro _; rfl) : PS X (.For tg iter body [] pos) (tS fr X.K W ow (for_ it g u)) :=
  PS.of (ps_for hp hc hi hg hb hs) fun D σ H ⟨A, H0, O, en, R, q⟩ => ⟨A, H0, O, en, R, ((Out.bind q).se R).good fun xs q1 J H1 s1 itm => by
    refine ⟨fun i m σ' H' => m = xs.length - i ∧ i ≤ xs.length ∧ ∃ O' e', ER X.K A H0 ow O' σ' H' e' ∧ Mv (AO A O) H1 (AO A O') H' ∧ Out (forL (forB g u) (xs.drop i) e') (EndOk fr X.K A H0 ow O H1 D) (badS X.K W A H0),
      ⟨xs.length, by simp, Nat.zero_le _, O, en, R.to s1, Mv.refl, q1.good fun f q2 => q2.to (Mv.same s1)⟩, ?_⟩
    rintro i m σ' H' ⟨rfl, hi, O', e', R', mv, q2⟩
    have im := itm i (AO A O') H' mv
    by_cases hlt : i < xs.length
    · right
      obtain ⟨hgo, hy⟩ := im.1 hlt
      refine ⟨hgo, fun σ' H' => ∃ O' e', ER X.K A H0 ow O' σ' H' e' ∧ Mv (AO A O) H1 (AO A O') H' ∧ Out (forL (forB g u) (xs.drop (i + 1)) e') (EndOk fr X.K A H0 ow O H1 D) (badS X.K W A H0), fun σ2 H2 ⟨a1, a2, a3⟩ => ⟨xs.length - (i + 1), by omega, rfl, by omega, a1, a2, a3⟩, fun x H3 y => ?_⟩
      obtain ⟨s3, d, hd, rd⟩ := hy x H3 y
      have hd' : d = xs[i] := by
        rw [List.getElem?_eq_getElem hlt] at hd
        exact (Option.some.inj hd).symm
      subst hd'
      rw [List.drop_eq_getElem_cons hlt] at q2
      simp only [forL, forB] at q2
      cases hg' : g xs[i] e' with
      | none =>
        rw [hg'] at q2
        exact q2.elim
      | some e2 =>
        rw [hg', lift_some, bind_ok] at q2
        have mv3 : Mv (AO A O) H1 (AO A O') H3 := mv.trans (Mv.same s3)
        refine ⟨A, H0, O', e', xs[i], e2, R'.to s3, rd, hg', fun σ2 R2 _ _ => ⟨A, H0, O', e2, R2, ?_⟩⟩
        cases hu : u e2 with
        | exc c fs =>
          rw [hu] at q2
          exact q2
        | stuck =>
          rw [hu] at q2
          exact q2.elim
        | ok f =>
          rw [hu] at q2
          cases f with
          | next e3 => exact fun O3 σ3 H4 R3 m3 => ⟨O3, e3, R3, mv3.trans m3, q2⟩
          | cnt e3 => exact fun O3 σ3 H4 R3 m3 => ⟨O3, e3, R3, mv3.trans m3, q2⟩
          | brk e3 =>
            have q3 : EndOk fr X.K A H0 ow O H1 D (.next e3) := q2
            exact fun O3 σ3 H4 R3 m3 => q3 O3 σ3 H4 R3 (mv3.trans m3)
          | ret d => exact q2
    · left
      have hi2 : i = xs.length := by omega
      subst hi2
      rw [List.drop_length] at q2
      have q3 : EndOk fr X.K A H0 ow O H1 D (.next e') := q2
      exact ⟨im.2 rfl, q3 O' σ' H' R' mv⟩⟩
theorem s_while (hp : PassesOwn (model X.prog X.w) X.A X.env X.xe) (hc : PT X a (tT X.K W ow t)) (hb : PSs X body (tS fr X.K W ow u)) : PS X (.While a body [] pos) (tS fr X.K W ow (while_ t u)) :=
  PS.of (ps_while hp hc hb) fun D σ H ⟨A, H0, O, en, R, q⟩ => by
    refine ⟨fun k σ' H' => ∃ O' e', ER X.K A H0 ow O' σ' H' e' ∧ Mv (AO A O) H (AO A O') H' ∧ Out (whileL t u k e') (EndOk fr X.K A H0 ow O H D) (badS X.K W A H0), ⟨FUEL, O, en, R, Mv.refl, q⟩, ?_⟩
    rintro k σ' H' ⟨O', e', R', mv, q1⟩
    cases k with
    | zero => exact q1.elim
    | succ k =>
      refine ⟨A, H0, O', e', R', ((Out.bind q1).se R').good fun bb q2 H2 s2 => ?_⟩
      have R2 := R'.to s2
      have mv2 := mv.trans (Mv.same (A := AO A O') s2)
      cases bb with
      | false =>
        rw [if_neg (by decide)] at q2
        dsimp only
        rw [if_neg (by decide)]
        have q3 : EndOk fr X.K A H0 ow O H D (.next e') := q2
        exact q3 O' σ' H2 R2 mv2
      | true =>
        rw [if_pos rfl] at q2
        dsimp only
        rw [if_pos rfl]
        refine ⟨fun σ' H' => ∃ O' e', ER X.K A H0 ow O' σ' H' e' ∧ Mv (AO A O) H (AO A O') H' ∧ Out (whileL t u k e') (EndOk fr X.K A H0 ow O H D) (badS X.K W A H0), fun σ3 H3 a => ⟨k, Nat.lt_succ_self _, a⟩, A, H0, O', e', R2, ?_⟩
        cases hu : u e' with
        | exc c fs =>
          rw [hu] at q2
          exact q2
        | stuck =>
          rw [hu] at q2
          exact q2.elim
        | ok f =>
          rw [hu] at q2
          cases f with
          | next e3 => exact fun O3 σ3 H4 R3 m3 => ⟨O3, e3, R3, mv2.trans m3, q2⟩
          | cnt e3 => exact fun O3 σ3 H4 R3 m3 => ⟨O3, e3, R3, mv2.trans m3, q2⟩
          | brk e3 =>
            have q3 : EndOk fr X.K A H0 ow O H D (.next e3) := q2
            exact fun O3 σ3 H4 R3 m3 => q3 O3 σ3 H4 R3 (mv2.trans m3)
          | ret d => exact q2
/-! ### a name's own list, object -/
theorem var_ok {α : Type} {i : Nat} {en : Env} {k : D → Res α} {good : α → Prop} {bad : String → List (String × D) → Prop} (h : Out (var i en >>= k) good bad) : ∃ d, en[i]? = some (some d) ∧ Out (k d) good bad := by
  unfold var at h
  split at h
  · rename_i d hd
    exact ⟨d, hd, h⟩
  · exact h.elim
theorem sqL {K : Frag} {H : Hp} {a : Addr} {vs : List V} (h : H a = some (.lst vs)) : L2.tyV K "list" (.ref a) H := .inl ⟨rfl, vs, .inl (.inl h)⟩
theorem own_mv {K : Frag} {A : AS} {H0 : Base} {ow : Nat → Bool} {O : OW} {σ : L2.St} {H : Hp} {en : Env} (R : ER K A H0 ow O σ H en) {i : Nat} {a : Addr} (p1 : O i = some a) {u o : HO} (e : H a = some u) (hs : ¬ still u) : Mv (AO A O) H (AO A O) (upd H a o) :=
  ⟨fun b hb => .inl hb, fun b o e3 hb => by
    rw [upd_ne]
    · exact e3
    · intro z
      subst z
      rcases hb with hb | hb
      · exact hb (.inr ⟨i, p1⟩)
      · rw [e] at e3
        cases e3
        exact hs hb⟩
/-- x.append(e) -/
theorem s_app {i : Nat} (h : PS X st (tDrop (tBM X.K "list" rAppend (tVar i) (tCons (tE X.K W ow m) tNil)))) (hi : ow i = true) : PS X st (tS fr X.K W ow (app i m)) :=
  PS.of h fun D σ H ⟨A, H0, O, en, R, q⟩ => by
    obtain ⟨l, hl, q1⟩ := var_ok q
    obtain ⟨a, p1, p2, p3⟩ := R.owns i l hl hi
    cases l with
    | lst ds =>
      obtain ⟨vs, e1, r1⟩ := p3
      refine ⟨.ref a, p2, sqL e1, A, H0, O, en, R, ((Out.bind q1).se R).good fun d q2 v H1 s1 r2 => ?_⟩
      split at q2
      · rename_i hz
        have e2 := s1 _ _ e1
        refine ⟨a, vs, v, rfl, rfl, e2, by rw [← r1.length]; exact hz, ?_⟩
        have R1 := R.to s1
        have mv := own_mv R1 p1 (o := .lst (vs ++ [v])) e2 fun z => z
        have R2 := R1.write (o := .lst (vs ++ [v])) (d' := .lst (ds ++ [d])) hi hl p1 ⟨_, upd_same, RepL.move mv _ _ ((RepL.move (Mv.same s1) _ _ r1).append (RepL.one r2))⟩
        exact q2 O σ _ R2 ((Mv.same s1).trans mv)
      · exact q2.elim
    | _ => exact q1.elim
/-- x[j] = e -/
theorem s_setL {i : Nat} {mj : EM} (h : PS X st (tAsg (tE X.K W ow m) (gSub (tVar i) (tE X.K W ow mj) rSetL))) (hi : ow i = true) : PS X st (tS fr X.K W ow (setL i mj m)) :=
  PS.of h fun D σ H ⟨A, H0, O, en, R, q⟩ => by
    obtain ⟨l, hl, q1⟩ := var_ok q
    obtain ⟨a, p1, p2, p3⟩ := R.owns i l hl hi
    cases l with
    | lst ds =>
      obtain ⟨vs, e1, r1⟩ := p3
      refine ⟨A, H0, O, en, R, ((Out.bind q1).se R).good fun d q2 v H1 s1 r2 => ⟨.ref a, p2, A, H0, O, en, R.to s1, ((Out.bind q2).se (R.to s1)).good fun k q3 w H2 s2 r3 => ?_⟩⟩
      cases k with
      | int z =>
        simp only at q3
        split at q3
        · rename_i n hn
          have s12 := s1.trans s2
          have e2 := s12 _ _ e1
          have r3' : w = .int z := r3
          subst r3'
          refine ⟨a, vs, z, n, rfl, rfl, e2, by rw [← r1.length]; exact hn, ?_⟩
          have R2 := R.to s12
          have mv := own_mv R2 p1 (o := .lst (vs.set n v)) e2 fun z => z
          have R3 := R2.write (o := .lst (vs.set n v)) (d' := .lst (ds.set n d)) hi hl p1 ⟨_, upd_same, RepL.move mv _ _ (RepL.set (Rep.move (Mv.same s2) _ _ r2) n (RepL.move (Mv.same s12) _ _ r1))⟩
          exact q3 O σ _ R3 ((Mv.same s12).trans mv)
        · exact q3.elim
      | _ => exact q3.elim
    | _ => exact q1.elim
/-- self.f = e -/
theorem s_setF {i : Nat} {cs : List String} {f : String} (F : ∀ c ∈ cs, Cls X.K (ca X.K c) ∧ NoAttr X.K (ca X.K c) (Str.ofString f)) (h : PS X st (sFld X.K (tVar i) (tE X.K W ow m) (Str.ofString f))) (hi : ow i = true) : PS X st (tS fr X.K W ow (setF i cs f m)) :=
  PS.of h fun D σ H ⟨A, H0, O, en, R, q⟩ => by
    obtain ⟨l, hl, q1⟩ := var_ok q
    obtain ⟨a, p1, p2, p3⟩ := R.owns i l hl hi
    cases l with
    | ins c fs =>
      obtain ⟨dx, fvs, e1, r1⟩ := p3
      simp only at q1
      split at q1
      · rename_i hz
        obtain ⟨f1, f2⟩ := F c (by simpa using hz.1)
        refine ⟨A, H0, O, en, R, ((Out.bind q1).se R).good fun d q2 v H1 s1 r2 => ⟨.ref a, p2, a, _, dx, fvs, rfl, s1 _ _ e1, f1, f2, by rw [← r1.length]; exact hz.2, ?_⟩⟩
        have R1 := R.to s1
        have mv := own_mv R1 p1 (o := .ins (ca X.K c) dx (L2.putF (Str.ofString f) v fvs)) (s1 _ _ e1) fun z => z
        have R2 := R1.write (o := .ins (ca X.K c) dx (L2.putF (Str.ofString f) v fvs)) (d' := .ins c (putF f d fs)) hi hl p1 ⟨dx, _, upd_same, RepF.move mv _ _ (RepF.put r2 (RepF.move (Mv.same s1) _ _ r1))⟩
        exact q2 O σ _ R2 ((Mv.same s1).trans mv)
      · exact q1.elim
    | _ => exact q1.elim
end
end Py

/-! Calls, defs, classes. -/
namespace Py
open PySem L2
/-- where one stands: k calls deep there is room -/
structure Ctx (X : Cx) (W : WX) (k : Nat) : Prop where
  calm : X.calm = true
  tk : Takes X W
  po : PassesOwn (model X.prog X.w) X.A X.env X.xe
  hr : Room k X.A
  nd : X.N.Nodup
theorem Ctx.blk {X : Cx} {W : WX} {k : Nat} (c : Ctx X W k) (s : Shared) (H : Hp) (scope : Scope) (cenv : PySem.Env) (fp : List Addr) : Ctx (X.blk s H scope cenv fp) W0 k := ⟨c.calm, takes0, PassesOwn.never, c.hr, c.nd⟩
/-- a def that computes m of its arguments -/
def spM (K : Frag) (p : Nat) (m : List D → Res D) : Sp := fun vs H Q E => ∃ A ds, RepL K A H ds vs ∧ ds.length = p ∧ (∀ a, A a → H a ≠ none) ∧
  Out (m ds) (fun d => ∀ v H', Same H H' → Rep K A H' d v → Q v H') (fun c fs => ∀ da H' fvs, Same H H' → H' da = some (.xd fvs) → RepF K A H' fs fvs → E (.ref (ca K c)) (some da) H')
/-- an __init__ that makes m of the arguments behind self -/
def spI (K : Frag) (p : Nat) (cls : String) (m : List D → Res D) : Sp := fun vs H Q E => ∃ A x dx H1 ds ws, vs = .ref x :: ws ∧ H = upd (upd H1 dx (.own x)) x (.ins (ca K cls) dx []) ∧ H1 x = none ∧ H1 dx = none ∧ dx ≠ x ∧ RepL K A H1 ds ws ∧ ds.length + 1 = p ∧ (∀ a, A a → H1 a ≠ none) ∧
  Out (m ds) (fun d => ∀ H', Same H1 H' → Rep K A H' d (.ref x) → Q .non H') (fun c fs => ∀ da H' fvs, Same H1 H' → H' da = some (.xd fvs) → RepF K A H' fs fvs → E (.ref (ca K c)) (some da) H')
section
variable {X : Cx} {W : WX} {ow : Nat → Bool} {a b c e : Expr} {es : List Expr} {m ma mb mc : EM} {am : AM} {pos p : Pos} {k j n : Nat} {f C : Addr} {fd : FuncData} {ps : List Str} {x : Str} {fm : List D → Res D}
theorem call_of {E : St → XK} (hE : ∀ σ cls d H, W cls d σ H → E σ cls d H) {σ : L2.St} {H : Hp} {Q : VK} (h : tE X.K W ow (call fm am) σ H Q) (hl : ∀ ds d, fm ds = .ok d → ds.length = n) (hx : ∀ ds c fs, fm ds = .exc c fs → ds.length = n) : tCallSD (spM X.K n fm) [] E (aE X.K W ow am) σ H Q := by
  obtain ⟨A, H0, O, en, R, q⟩ := h
  refine ⟨A, H0, O, en, R, (Out.bind q).good fun ds q1 vs H1 s1 r1 => ?_⟩
  dsimp only
  rw [List.append_nil]
  refine ⟨AO A O, ds, paired_rep r1, ?_, (R.to s1).there, q1.imp (fun d _ k v H2 s2 r2 => k v H2 (s1.trans s2) r2) fun c fs z da H2 fvs s2 q2 r2 => hE _ _ _ _ (z da H2 fvs (s1.trans s2) q2 r2)⟩
  cases e : fm ds with
  | ok d => exact hl ds d e
  | exc c fs => exact hx ds c fs e
  | stuck =>
    rw [e] at q1
    exact q1.elim
/-- what a def asks of its number of arguments -/
structure Ar (n : Nat) (fm : List D → Res D) : Prop where
  ok : ∀ ds d, fm ds = .ok d → ds.length = n
  ex : ∀ ds c fs, fm ds = .exc c fs → ds.length = n
theorem ar_fn {p n : Nat} {body : SM} : Ar p (fn p n body) := by
  refine ⟨fun ds d h => ?_, fun ds c fs h => ?_⟩ <;> (unfold fn at h; split at h; (· assumption); (· cases h))
theorem x_call (T : Ctx X W j) (F : FnOk X.prog X.w X.K X.mg X.base (L2.CX X.prog X.w) k f fd ps (spM X.K n fm)) (hn : Ar n fm) (hk : k ≤ j) (hg : Gl X x) (hm : X.mg x = some (.ref f)) (hkp : PySem.W.keepIn X.K (.ref f) = true) (hb : Binds X.K fd ps [])
    (ha : PA X (e :: es) (aE X.K W ow am)) (hdb : (x == ("__debug__" : Str)) = false := by decide) (he : starEach (e :: es) X.env = (false, eval e X.env) :: starEach es X.env := by rfl) (hpl : (backTo pos (starEach es X.env)).any (·.1) = false := by rfl) :
    PE X (.Call (.Name x p) (e :: es) [] pos) (tE X.K W ow (call fm am)) :=
  PE.of (pe_callSD (E := WE W) F (T.hr.mono hk) hg hm hkp hb .nil (fun σ => passAt T.tk σ) ha hdb he hpl) fun _ _ _ h => call_of (fun _ _ _ _ z => z) h hn.ok hn.ex
theorem repF_imm {K : Frag} {A A' : AS} {H : Hp} : ∀ {fs : List (String × D)} {vs : List (Str × V)}, fs.all (fun q => imm q.2) = true → RepF K A H fs vs → RepF K A' H fs vs
  | [], vs, _, h => by
    simp only [RepF] at h ⊢
    exact h
  | (n, d) :: fs, vs, i, h => by
    simp only [List.all_cons, Bool.and_eq_true] at i
    simp only [RepF] at h ⊢
    obtain ⟨v, r, e, h1, h2⟩ := h
    exact ⟨v, r, e, Rep.imm d v i.1 h1, repF_imm i.2 h2⟩
/-- with arguments that may be a name's own lists -/
theorem x_callI (T : Ctx X W j) (F : FnOk X.prog X.w X.K X.mg X.base (L2.CX X.prog X.w) k f fd ps (spM X.K n fm)) (hn : Ar n fm) (hk : k ≤ j) (hg : Gl X x) (hm : X.mg x = some (.ref f)) (hkp : PySem.W.keepIn X.K (.ref f) = true) (hb : Binds X.K fd ps [])
    (ha : PA X (e :: es) (aW X.K W ow am)) (hdb : (x == ("__debug__" : Str)) = false := by decide) (he : starEach (e :: es) X.env = (false, eval e X.env) :: starEach es X.env := by rfl) (hpl : (backTo pos (starEach es X.env)).any (·.1) = false := by rfl) :
    PE X (.Call (.Name x p) (e :: es) [] pos) (tE X.K W ow (callI fm am)) :=
  PE.of (pe_callSD (E := WE W) F (T.hr.mono hk) hg hm hkp hb .nil (fun σ => passAt T.tk σ) ha hdb he hpl) fun σ H Q ⟨A, H0, O, en, R, q⟩ => by
    refine ⟨A, H0, O, en, R, (Out.bind q).good fun ds q1 vs H1 s1 r1 => ?_⟩
    dsimp only
    rw [List.append_nil]
    have rl := paired_none r1
    have q1 := id q1
    refine ⟨fun _ => False, ds, rl, ?_, fun _ z => z.elim, ?_⟩
    · cases e : fm ds with
      | ok d => exact hn.ok ds d e
      | exc c fs => exact hn.ex ds c fs e
      | stuck =>
        rw [e] at q1
        exact q1.elim
    · cases e : fm ds with
      | ok d =>
        rw [e] at q1
        dsimp only at q1
        split at q1
        · rename_i hi
          exact fun v H2 s2 r2 => q1 v H2 (s1.trans s2) (Rep.imm d v hi r2)
        · exact q1.elim
      | exc c fs =>
        rw [e] at q1
        dsimp only at q1
        split at q1
        · rename_i hi
          exact fun da H2 fvs s2 q2 r2 => q1 da H2 fvs (s1.trans s2) q2 (repF_imm hi r2)
        · exact q1.elim
      | stuck =>
        rw [e] at q1
        exact q1.elim
/-- C(..) of an own class -/
theorem x_make {cls : String} (T : Ctx X W j) (hW : ∀ c d σ σ' H, W c d σ H → W c d σ' H) (M : Mk X.K (ca X.K cls) f) (F : FnOk X.prog X.w X.K X.mg X.base (L2.CX X.prog X.w) k f fd ps (spI X.K n cls fm)) (hn : ∀ ds d, (fm ds = .ok d → ds.length + 1 = n)) (hx : ∀ ds c fs, fm ds = .exc c fs → ds.length + 1 = n)
    (hk : k + 1 ≤ j) (hg : Gl X x) (hm : X.mg x = some (.ref (ca X.K cls))) (hb : Binds X.K fd ps [])
    (ha : PA X (e :: es) (aE X.K W ow am)) (hdb : (x == ("__debug__" : Str)) = false := by decide) (he : starEach (e :: es) X.env = (false, eval e X.env) :: starEach es X.env := by rfl) (hpl : (backTo pos (starEach es X.env)).any (·.1) = false := by rfl) :
    PE X (.Call (.Name x p) (e :: es) [] pos) (tE X.K W ow (call fm am)) :=
  PE.of (pe_make (E := fun c d H => ∀ σ, W c d σ H) M F (T.hr.mono hk) hg hm hb .nil (passes_call T.tk fun c d σ H h => h σ) ha hdb he hpl) fun σ H Q ⟨A, H0, O, en, R, q⟩ => by
    refine ⟨A, H0, O, en, R, (Out.bind q).good fun ds q1 vs H1 s1 r1 y dx hy hdx hne => ?_⟩
    rw [List.append_nil]
    have sm : Same H1 (upd (upd H1 dx (.own y)) y (.ins (ca X.K cls) dx [])) := fun b o e => by
      rw [upd_ne (ne_of_none e hy), upd_ne (ne_of_none e hdx)]
      exact e
    refine ⟨AO A O, y, dx, H1, ds, vs, rfl, rfl, hy, hdx, hne, paired_rep r1, ?_, (R.to s1).there, ?_⟩
    · cases e : fm ds with
      | ok d => exact hn ds d e
      | exc c fs => exact hx ds c fs e
      | stuck =>
        rw [e] at q1
        exact q1.elim
    · exact q1.imp (fun d _ k H2 s2 r2 => ⟨rfl, k _ H2 (s1.trans s2) r2⟩) fun c fs z da H2 fvs s2 q2 r2 σ' => hW _ _ σ _ _ (z da H2 fvs (s1.trans s2) q2 r2)
end
/-! ### defs -/
section
variable {P : Program} {w : World} {K : Frag} {mg : Str → Option Value} {base : Heap} {name qual : Str} {params : Arguments} {body : List Stmt} {scope : Scope} {dvs : List V} {kws : List (Str × V)} {f : Addr} {fd : FuncData} {N ps : List Str} {k : Nat} {ow oN oB : Nat → Bool} {m : SM}
theorem start_get {N : List Str} {vs : List V} {i : Nat} {v : V} (h : vs[i]? = some v) : (L2.start N vs)[i]? = some (some v) := by
  unfold L2.start
  have hi := (List.getElem?_eq_some_iff.mp h).1
  rw [List.getElem?_append_left (by simpa using hi), List.getElem?_map, h]
  rfl
abbrev WD (E : XK) : WX := fun c d _ H => E c d H
/-- a def whose body computes m -/
theorem fn_ok (F : FunD K name qual params body scope dvs kws f fd) (S : FnScope N ps scope) (hp : ∀ i, i < ps.length → ow i = false)
    (hb : ∀ (cdv : Value) (A : Around) (outer : List PySem.Env) (s : Shared) (H : Hp) (E : XK), Ctx (cxOf (L2.CX P w) P w K mg base N qual scope f cdv A outer s H E) (WD E) k →
      PSs (cxOf (L2.CX P w) P w K mg base N qual scope f cdv A outer s H E) body (tS3 false K (WD E) ow oN oB m)) :
    FnOk P w K mg base (L2.CX P w) (k + 1) f fd ps (spM K ps.length (fn ps.length N.length m)) := by
  refine F.ok S (fun vs H Q E ⟨A, ds, r, h, _⟩ => r.length.symm.trans h) (fun cdv A outer s H vs Q E hr h => ?_)
  obtain ⟨AV, ds, r, hl, ha, q⟩ := h
  refine ⟨tS3 false K (WD E) ow oN oB m, hb cdv A outer s H E ⟨rfl, takes_of rfl rfl rfl rfl, passes_of rfl, hr, S.nd⟩, AV, ⟨H, none⟩, fun _ => none, ds.map some ++ List.replicate (N.length - ps.length) none, ?_, ?_⟩
  · have hlv := r.length
    have hN : ps.length ≤ N.length := by
      have := S.pre
      have h2 := congrArg List.length this
      rw [List.length_take] at h2
      omega
    refine ⟨?_, ha, Same.refl H, fun i d h1 h2 => ?_, fun i d h1 h2 => ?_, fun i a h => (nomatch h), fun i j a h => (nomatch h), fun a h => (nomatch h)⟩
    · unfold L2.start
      simp only [List.length_append, List.length_map, List.length_replicate]
      omega
    · by_cases hi : i < ds.length
      · rw [List.getElem?_append_left (by simpa using hi), List.getElem?_map, List.getElem?_eq_getElem hi] at h1
        simp only [Option.map_some, Option.some.injEq] at h1
        subst h1
        obtain ⟨v, hv, rv⟩ := r.get (List.getElem?_eq_getElem hi)
        exact ⟨v, start_get hv, Rep.move (Mv.less fun b hb => hb.elim id fun ⟨_, z⟩ => nomatch z) _ _ rv⟩
      · rw [List.getElem?_append_right (by simpa using hi)] at h1
        rw [List.getElem?_replicate] at h1
        split at h1 <;> cases h1
    · by_cases hi : i < ds.length
      · rw [hp i (by omega)] at h2
        cases h2
      · rw [List.getElem?_append_right (by simpa using hi)] at h1
        rw [List.getElem?_replicate] at h1
        split at h1 <;> cases h1
  · unfold fn at q
    rw [if_pos hl] at q
    cases e : m (ds.map some ++ List.replicate (N.length - ps.length) none) with
    | ok fl =>
      rw [e] at q
      cases fl with
      | next e' => exact fun O' σ' H' R' _ => q .non H' R'.same rfl
      | ret d => exact fun v H' s' r' => q v H' s' r'
      | brk e' => exact q.elim
      | cnt e' => exact q.elim
    | exc c fs =>
      rw [e] at q
      exact fun σ' da H' fvs s' q' r' => q da H' fvs s' q' r'
    | stuck =>
      rw [e] at q
      exact q.elim
theorem opt_pin {O : OW} {x : Addr} (h : some x = O 0) : O 0 = some x := h.symm
/-- an __init__ whose body fills self, which stands in slot 0 -/
theorem init_ok {cls : String} (F : FunD K name qual params body scope dvs kws f fd) (S : FnScope N ps scope) (h0 : ow 0 = true) (hp0 : 0 < ps.length) (hp : ∀ i, 0 < i → i < ps.length → ow i = false)
    (hb : ∀ (cdv : Value) (A : Around) (outer : List PySem.Env) (s : Shared) (H : Hp) (E : XK), Ctx (cxOf (L2.CX P w) P w K mg base N qual scope f cdv A outer s H E) (WD E) k →
      PSs (cxOf (L2.CX P w) P w K mg base N qual scope f cdv A outer s H E) body (tS false K (WD E) ow m)) :
    FnOk P w K mg base (L2.CX P w) (k + 1) f fd ps (spI K ps.length cls (made ps.length N.length cls m)) := by
  refine F.ok S (fun vs H Q E ⟨A, x, dx, H1, ds, ws, h1, _, _, _, _, r, h, _⟩ => by rw [h1, List.length_cons, ← r.length]; exact h) (fun cdv A outer s H vs Q E hr h => ?_)
  obtain ⟨AV, x, dx, H1, ds, ws, rfl, hH, hx, hdx, hne, r, hl, ha, q⟩ := h
  have sd : Same H1 (upd H1 dx (.own x)) := fun b o e => by
    rw [upd_ne (ne_of_none e hdx)]
    exact e
  have hx2 : upd H1 dx (.own x) x = none := by
    rw [upd_ne fun z => hne z.symm]
    exact hx
  have s2 : Same (upd H1 dx (.own x)) H := by
    rw [hH]
    exact new_same hx2
  have s1 : Same H1 H := sd.trans s2
  refine ⟨tS false K (WD E) ow m, hb cdv A outer s H E ⟨rfl, takes_of rfl rfl rfl rfl, passes_of rfl, hr, S.nd⟩, AV, ⟨upd H1 dx (.own x), some x⟩, fun i => if i = 0 then some x else none, (some (.ins cls []) :: ds.map some) ++ List.replicate (N.length - ps.length) none, ?_, ?_⟩
  · have hlv := r.length
    have hN : ps.length ≤ N.length := by
      have := S.pre
      have h2 := congrArg List.length this
      rw [List.length_take] at h2
      omega
    have nx : ∀ i a, (if i = 0 then some x else none) = some a → i = 0 ∧ a = x := fun i a h => by
      by_cases hi : i = 0
      · rw [if_pos hi] at h
        cases h
        exact ⟨hi, rfl⟩
      · rw [if_neg hi] at h
        cases h
    have mv : Mv AV H1 (AO AV fun i => if i = 0 then some x else none) H := ⟨fun b hb => by
      rcases hb with hb | ⟨i, hb⟩
      · exact .inl hb
      · rw [(nx i b hb).2]
        exact .inr hx, fun b o e _ => s1 b o e⟩
    refine ⟨?_, fun b hb => ne_none s1 (ha b hb), s2, fun i d h1 h2 => ?_, fun i d h1 h2 => ?_, fun i a h => ?_, fun i j a h h' => (nx i a h).1.trans (nx j a h').1.symm, fun a h => ?_⟩
    · unfold L2.start
      simp only [List.length_append, List.length_map, List.length_replicate, List.length_cons]
      omega
    · cases i with
      | zero =>
        rw [h0] at h2
        cases h2
      | succ i =>
        by_cases hi : i < ds.length
        · rw [List.getElem?_append_left (by simpa using hi), List.getElem?_cons_succ, List.getElem?_map, List.getElem?_eq_getElem hi] at h1
          simp only [Option.map_some, Option.some.injEq] at h1
          subst h1
          obtain ⟨v, hv, rv⟩ := r.get (List.getElem?_eq_getElem hi)
          exact ⟨v, start_get (by simpa using hv), Rep.move mv _ _ rv⟩
        · rw [List.getElem?_append_right (by simpa using hi)] at h1
          rw [List.getElem?_replicate] at h1
          split at h1 <;> cases h1
    · cases i with
      | zero =>
        simp only [List.cons_append, List.getElem?_cons_zero, Option.some.injEq] at h1
        subst h1
        refine ⟨x, rfl, start_get rfl, dx, [], ?_, by simp [RepF]⟩
        rw [hH]
        exact upd_same
      | succ i =>
        by_cases hi : i < ds.length
        · rw [hp (i + 1) (by omega) (by omega)] at h2
          cases h2
        · rw [List.getElem?_append_right (by simpa using hi)] at h1
          rw [List.getElem?_replicate] at h1
          split at h1 <;> cases h1
    · obtain ⟨_, rfl⟩ := nx i a h
      refine ⟨hx2, ?_, fun z => ha a z hx⟩
      rw [hH, upd_same]
      exact fun z => nomatch z
    · cases h
      rfl
  · unfold made at q
    rw [if_pos hl] at q
    cases e : m ((some (.ins cls []) :: ds.map some) ++ List.replicate (N.length - ps.length) none) with
    | ok fl =>
      rw [e] at q
      cases fl with
      | next e' =>
        refine fun O' σ' H' R' _ => ?_
        cases e' with
        | nil => exact q.elim
        | cons d0 r0 =>
          cases d0 with
          | none => exact q.elim
          | some d1 =>
            cases d1 with
            | ins c fs =>
              have q2 : ∀ H', Same H1 H' → Rep K AV H' (.ins c fs) (.ref x) → Q .non H' := q
              refine q2 H' (sd.trans R'.same) ?_
              have hpin : O' 0 = some x := R'.pin x rfl
              obtain ⟨a, p1, p2, dx', fvs, p3, p4⟩ := R'.owns 0 (.ins c fs) rfl h0
              rw [hpin] at p1
              cases p1
              simp only [Rep]
              exact ⟨x, dx', fvs, rfl, fun z => ha x z hx, p3, RepF.move (Mv.less fun b => .inl) _ _ p4⟩
            | _ => exact q.elim
      | ret d => exact q.elim
      | brk e' => exact q.elim
      | cnt e' => exact q.elim
    | exc c fs =>
      rw [e] at q
      exact fun σ' da H' fvs s' q' r' => q da H' fvs (sd.trans s') q' r'
    | stuck =>
      rw [e] at q
      exact q.elim
end
end Py

/-! enumerate over tuples and lists. -/
namespace PySem
open Builtin
theorem py_en_new {v : Value} {o : Obj} {H : Heap → Prop} (B : Begins v o H) :
    Meets (Builtin.«enumerate.__new__» ⟨[.type "enumerate", v], []⟩) (fun _ R s => H s.heap ∧
      R (.ok (.ret (.ref (s.heap.push o).objs.size))) { s with heap := (s.heap.push o).push { cls := .type "enumerate", data := .fields #[.none, .bool false, .ref s.heap.objs.size, rawInt 0, .none, .none] } }) :=
  .of_wp fun prog w A R s h => by
    obtain ⟨hp, g, d, tk, os⟩ := s
    obtain ⟨h1, h⟩ := h
    have hsub := sub_enumerate
    have iter1 : ∀ {A' : Around} {E : Value → Shared → Prop} {Q : Value → Shared → Prop}, Q (.ref hp.objs.size) ⟨hp.push o, g, d, tk, os⟩ → wpAny (model prog w) A' (pyIter v) Q E ⟨hp, g, d, tk, os⟩ :=
      fun q => B.iter prog w _ _ ⟨hp, g, d, tk, os⟩ _ h1 q
    wp_walk using iter1
    refine wpAny_stack_any fun st => wpAny_pure ?_
    split
    · rename_i c _ _ _ _ _
      cases (c == Value.type "enumerate")
      · wp_walk using iter1
        exact ⟨_, rfl, h⟩
      · wp_walk using iter1
        exact ⟨_, rfl, h⟩
    · wp_walk using iter1
      exact ⟨_, rfl, h⟩
theorem py_en_call {prog : Program} {w : World} {A : Around} {E : Value → Shared → Prop} {s : Shared} {v : Value} {o : Obj} {H : Heap → Prop} {Q : Value → Shared → Prop} (B : Begins v o H) (h1 : H s.heap)
    (h : ∀ h', IsEnum h' (s.heap.objs.size + 1) s.heap.objs.size 0 .none → h'.get? s.heap.objs.size = some o → h'.objs.size = s.heap.objs.size + 2 →
      (∀ b o, s.heap.get? b = some o → h'.get? b = some o) → Q (.ref (s.heap.objs.size + 1)) { s with heap := h' }) :
    wpAny (model prog w) A (call (.type "enumerate") [v]) Q E s := by
  refine callType_new F.called_enumerate (by decide) (F.typeCall_enumerate_1 _) (F.newCall_enumerate_1 _) (fun obj => F.args_object_init_2 obj _) F.entry_enumerate_new (py_en_new B) ⟨h1, ?_⟩
  have hz : (s.heap.push o).objs.size = s.heap.objs.size + 1 := Heap.size_push ..
  show _ ∧ _
  rw [hz]
  have he : IsEnum ((s.heap.push o).push { cls := .type "enumerate", data := .fields #[.none, .bool false, .ref s.heap.objs.size, rawInt 0, .none, .none] }) (s.heap.objs.size + 1) s.heap.objs.size 0 .none := by
    have this := Heap.get?_push_size (s.heap.push o) (o := { cls := .type "enumerate", data := .fields #[.none, .bool false, .ref s.heap.objs.size, rawInt 0, .none, .none] }) rfl
    rw [hz] at this
    exact this
  exact ⟨⟨_, he, rfl⟩, h _ he (Heap.get?_push_of_some _ (Heap.get?_push_size _ B.free)) (by rw [Heap.size_push, hz]) fun b o x => Heap.get?_push_of_some _ (Heap.get?_push_of_some _ x)⟩
end PySem
namespace Py
open PySem L2
/-- enumerate over the tuple at a -/
def Iet (K : Frag) (a : Addr) : It :=
  ⟨fun i H => ∃ (xs : List V) (x : V), SqT K H a xs ∧ xs[i]? = some x, fun i H v H' => ∃ T x, v = .ref T ∧ H T = none ∧ H' = upd H T (.tup [.int (i : Nat), x]) ∧ ∀ xs, SqT K H a xs → xs[i]? = some x, fun i H => ∃ xs : List V, SqT K H a xs ∧ i = xs.length⟩
theorem turn_enumT {P : Program} {w : World} {K : Frag} {elts : List Expr} {kk : Nat} {tpos : Pos} (a e it : Addr) :
    Turn P w K (.Tuple elts kk tpos) (Iet K a) [e, it] e (fun i h => (∃ old, IsEnum h e it ((i : Nat) : Int) old) ∧ h.IsTupleIter it a i ∧ e ≠ it ∧ a ≠ it ∧ a ≠ e) where
  mem := by simp
  obj := fun i h st b hb => by
    obtain ⟨⟨old, he⟩, ⟨o, ho, hc, hd⟩, _⟩ := st
    rcases (by simpa using hb : b = e ∨ b = it) with z | z
    · subst z
      exact ⟨_, he, fun v q => nomatch q⟩
    · subst z
      exact ⟨o, ho, fun v q => by rw [hd] at q; cases q⟩
  keep := fun i h h' st k => by
    obtain ⟨⟨old, he⟩, hi, n1, n2, n3⟩ := st
    exact ⟨⟨old, k e (by simp) _ he⟩, hi.at fun o q => k it (by simp) o q, n1, n2, n3⟩
  item := by
    intro X hP hw hK hc i pins s σ H E I hf st hg
    subst hP hw hK
    obtain ⟨⟨old, he⟩, hit, n1, n2, n3⟩ := st
    obtain ⟨xs, x, hq, hx⟩ := hg
    obtain ⟨its, rv, tp, hz⟩ := I.tuple hq
    obtain ⟨u, hu, ru⟩ := rv.get hx
    have hel : e < s.heap.objs.size := Heap.lt_size he
    have hil : it < s.heap.objs.size := by
      obtain ⟨_, q, _⟩ := hit
      exact Heap.lt_size q
    have hi : i < its.toArray.size := by
      have := (List.getElem?_eq_some_iff.mp hu).1
      simpa using this
    have htp : s.heap.IsTuple a its.toArray := tp
    refine wpAny_pyNext_enum_itemD (Draws.tuple (prog := X.prog) (w := X.w) (A := X.A.in1) (I.ok.hd hc) it a n2 its.toArray) he (show _ ∧ _ from ⟨hit, htp⟩) hi n1 (by simp [n1, n3.symm]) fun x' h' tk hP' ho hst' hT hsz hk => ?_
    have hxu : x' = u := by
      have q1 : its[i]? = some x' := by simpa using hP'
      rw [hu] at q1
      exact (Option.some.inj q1).symm
    subst hxu
    refine ⟨_, rfl, wpAny_letOwnedTupleGo_enum (s := { s with heap := h', toks := tk + 1 }) ho fun h'' he' sb => ?_⟩
    have hT2 : h''.get? s.heap.objs.size = some { cls := .type "tuple", data := .seq #[.int i tk, x'] } := (sb.2 _ (Nat.ne_of_gt hel)).trans hT
    have new : ObjOk X.prog X.w (upd H s.heap.objs.size (.tup [.int (i : Nat), x])) h'' s.heap.objs.size (.tup [.int (i : Nat), x]) :=
      ⟨by show 2 ≤ sizeLine; decide, [.int i tk, x'], .cons ⟨_, rfl⟩ (.cons ru .nil), ⟨_, hT2, rfl, _, rfl⟩⟩
    have I1 : Inv X pins σ (upd H s.heap.objs.size (.tup [.int (i : Nat), x])) { s with heap := h'', toks := tk + 1 } :=
      I.turnedNew (ch := [e, it]) (fun b ob hb q => (sb.2 b fun z => hb (by simp [z])).trans (hk b ob (fun z => hb (by simp [z])) (fun z => hb (by simp [z])) q)) hf (Nat.le_refl _) new
    refine ⟨.ref s.heap.objs.size, _, I1, rfl, ⟨_, x, rfl, I.hok.fresh (Nat.le_refl _), rfl, fun ys hy => by rw [I.tuple_inj hy hq]; exact hx⟩, ⟨⟨x', ?_⟩, hst'.1.at fun o q => (sb.2 it n1.symm).trans q, n1, n2, n3⟩, fun b hb => ?_⟩
    · have e1 : ((i + 1 : Nat) : Int) = (i : Int) + 1 := by omega
      rw [e1]
      exact he'
    · have hb' : b < s.heap.objs.size := by
        rcases (by simpa using hb : b = e ∨ b = it) with z | z
        · subst z
          exact hel
        · subst z
          exact hil
      rw [upd_ne (Nat.ne_of_lt hb')]
      exact (hf b hb).1
  done := by
    intro X hP hw hK hc i pins s σ H E I hf st hg
    subst hP hw hK
    obtain ⟨⟨old, he⟩, hit, n1, n2, n3⟩ := st
    obtain ⟨xs, hq, hx⟩ := hg
    obtain ⟨its, rv, tp, hz⟩ := I.tuple hq
    obtain ⟨f0, f1, f2, f3, f4, f5⟩ := hf it (by simp)
    have hl := rv.length
    have htp : s.heap.IsTuple a its.toArray := tp
    have hi2 : i = its.toArray.size := by
      rw [List.size_toArray]
      omega
    subst hi2
    exact wpAny_pyNext_enum_endD (Draws.tuple (prog := X.prog) (w := X.w) (A := X.A.in1) (I.ok.hd hc) it a n2 its.toArray) he (show _ ∧ _ from ⟨hit, htp⟩) fun h' eb => ⟨rfl, I.turned (t' := s.toks) (fun b o hb q => eb b o hb q) f0 f1 f3 f4 f5⟩
  self := fun A i s Q E st h => by
    obtain ⟨⟨_, he⟩, _⟩ := st
    exact wpAny_pyIter_enum he h
section
variable {X : Cx} {W : WX} {ow : Nat → Bool} {a b c e : Expr} {es elts : List Expr} {m ma mb mc : EM} {pos p tpos : Pos} {kk : Nat}
def iEnumE (K : Frag) (ta : TA) : TI := fun σ H R => ta σ H fun vs H1 => ∃ a, vs = [.ref a] ∧ ((∃ xs, SqL K H1 a xs ∧ R (Ite K a) H1) ∨ ∃ xs, SqT K H1 a xs ∧ R (Iet K a) H1)
theorem pi_enumE {ta : TA} (hg : Gl X "enumerate") (hm : X.mg "enumerate" = none) (ha : PA X [e] ta) (hs : starEach [e] X.env = [(false, eval e X.env)] := by rfl) : PI X (.Tuple elts kk tpos) (.Call (.Name "enumerate" p) [e] [] pos) (iEnumE X.K ta) := by
  refine ⟨fun pins s σ H R I h => ?_⟩
  refine PyProof.Rows.Call_ (ld_blt I hg hm PyProof.Rows.boot_enumerate (PyProof.Rows.callWith_type1 (thn (ha.run pos pins s σ H _ I h) fun us s1 ⟨vs, H1, I1, r1, q1⟩ => ?_) hs rfl))
  obtain ⟨a, ex, q⟩ := q1
  subst ex
  obtain ⟨u, rfl, ru⟩ := vals1 r1
  cases ru
  have fin : ∀ b ∈ [s1.heap.objs.size + 1, s1.heap.objs.size], FpOk X pins H1 b := fun b hb => by
    have hle : s1.heap.objs.size ≤ b := by
      rcases (by simpa using hb : b = s1.heap.objs.size + 1 ∨ b = s1.heap.objs.size) with z | z
      · rw [z]
        exact Nat.le_add_right _ _
      · rw [z]
        exact Nat.le_refl _
    exact I1.fpOk hle (I1.hok.fresh hle)
  rcases q with ⟨xs, hq, q⟩ | ⟨xs, hq, q⟩
  · obtain ⟨its, rv, tp, hz⟩ := I1.list hq
    refine py_en_call (begins_list a its.toArray) tp.isList fun h' he hit hsz hk => wpAny_pyIter_enum he ?_
    exact ⟨s1.heap.objs.size + 1, [s1.heap.objs.size + 1, s1.heap.objs.size], _, _, H1, rfl, I1.kept (t' := s1.toks) hk, turn_enum a (s1.heap.objs.size + 1) s1.heap.objs.size, ⟨⟨.none, he⟩, ⟨_, hit, rfl, rfl⟩, Nat.succ_ne_self _⟩, fin, q⟩
  · obtain ⟨its, rv, tp, hz⟩ := I1.tuple hq
    have hlt : a < s1.heap.objs.size := tp.lt
    refine py_en_call (begins_tuple a its.toArray) tp fun h' he hit hsz hk => wpAny_pyIter_enum he ?_
    exact ⟨s1.heap.objs.size + 1, [s1.heap.objs.size + 1, s1.heap.objs.size], _, _, H1, rfl, I1.kept (t' := s1.toks) hk, turn_enumT a (s1.heap.objs.size + 1) s1.heap.objs.size, ⟨⟨.none, he⟩, ⟨_, hit, rfl, rfl⟩, Nat.succ_ne_self _, Nat.ne_of_lt hlt, Nat.ne_of_lt (Nat.lt_succ_of_lt hlt)⟩, fin, q⟩
theorem enumL_get : ∀ {ds : List D} {n i : Nat} {d : D}, ds[i]? = some d → (enumL n ds)[i]? = some (.tup [.int ((n + i : Nat) : Int), d])
  | [], _, _, _, h => by simp at h
  | x :: ds, n, 0, d, h => by
    simp at h
    subst h
    rfl
  | x :: ds, n, i + 1, d, h => by
    simp only [enumL, List.getElem?_cons_succ]
    rw [enumL_get (n := n + 1) (by simpa using h)]
    rw [Nat.add_right_comm]
    rfl
theorem enumL_len : ∀ (ds : List D) (n : Nat), (enumL n ds).length = ds.length
  | [], _ => rfl
  | x :: ds, n => by
    simp only [enumL, List.length_cons]
    rw [enumL_len ds]
theorem enum_item {K : Frag} {A : AS} {H : Hp} {T : Addr} {i : Nat} {d : D} {v : V} (hn : H T = none) (r : Rep K A H d v) : Same H (upd H T (.tup [.int (i : Nat), v])) ∧ Rep K A (upd H T (.tup [.int (i : Nat), v])) (.tup [.int ((0 + i : Nat) : Int), d]) (.ref T) := by
  refine ⟨new_same hn, new_tup ?_ hn⟩
  rw [Nat.zero_add]
  simp only [RepL]
  exact ⟨_, _, rfl, rfl, v, [], rfl, r, rfl⟩
theorem itm_enumT {K : Frag} {A : AS} {H : Hp} {a : Addr} {ds : List D} {vs : List V} (q : SqT K H a vs) (r : RepL K A H ds vs) : Itm Mv K A (Iet K a) (enumL 0 ds) H := fun i A2 H2 m => by
  have q2 := SqT.move m q
  have r2 := RepL.move m ds vs r
  rw [enumL_len]
  refine ⟨fun hi => ?_, fun hi => ⟨vs, q2, by rw [← r.length]; exact hi⟩⟩
  obtain ⟨v, hv, rv⟩ := r2.get (i := i) (List.getElem?_eq_getElem hi)
  refine ⟨⟨vs, v, q2, hv⟩, fun x H3 ⟨T, x', e1, hn, e2, k⟩ => ?_⟩
  subst e1 e2
  have := k vs q2
  rw [hv] at this
  cases this
  obtain ⟨s1, r1⟩ := enum_item (i := i) hn rv
  exact ⟨s1, _, enumL_get (List.getElem?_eq_getElem hi), r1⟩
theorem itm_enumL {M : MvT} {K : Frag} {A : AS} {H : Hp} {a : Addr} {ds : List D} {vs : List V} (hM : ∀ A2 H2, M A H A2 H2 → Mv A H A2 H2 ∧ Rd H2 a (.lst vs)) (r : RepL K A H ds vs) : Itm M K A (Ite K a) (enumL 0 ds) H := fun i A2 H2 m => by
  obtain ⟨mv, rd⟩ := hM A2 H2 m
  have q2 : SqL K H2 a vs := .inl rd
  have r2 := RepL.move mv ds vs r
  rw [enumL_len]
  refine ⟨fun hi => ?_, fun hi => ⟨vs, q2, by rw [← r.length]; exact Nat.le_of_eq hi.symm⟩⟩
  obtain ⟨v, hv, rv⟩ := r2.get (i := i) (List.getElem?_eq_getElem hi)
  refine ⟨⟨vs, v, q2, hv⟩, fun x H3 ⟨T, x', e1, hn, e2, k⟩ => ?_⟩
  subst e1 e2
  have := k vs q2
  rw [hv] at this
  cases this
  obtain ⟨s1, r1⟩ := enum_item (i := i) hn rv
  exact ⟨s1, _, enumL_get (List.getElem?_eq_getElem hi), r1⟩
theorem i_enum (hg : Gl X "enumerate") (hm : X.mg "enumerate" = none) (ha : PE X a (tE X.K W ow ma)) (hs : starEach [a] X.env = [(false, eval a X.env)] := by rfl) : PI X (.Tuple elts kk tpos) (.Call (.Name "enumerate" p) [a] [] pos) (tI Mv X.K W ow (ienum ma)) :=
  PI.of (pi_enumE hg hm (pa_cons ha pa_nil hs) hs) fun σ H R' ⟨A, H0, O, en, R, q⟩ => ⟨A, H0, O, en, R, (Out.bind (Out.bind q)).good fun d q1 v H1 s1 r1 => by
    cases d with
    | lst xs =>
      obtain ⟨p, vs, rfl, n, h, r⟩ := (by simpa only [Rep] using r1 : ∃ a vs, v = .ref a ∧ ¬ AO A O a ∧ Rd H1 a (.lst vs) ∧ RepL X.K (AO A O) H1 xs vs)
      exact ⟨p, rfl, .inl ⟨vs, .inl h, q1 _ H1 s1 (itm_enumL (fun A2 H2 m => ⟨m, (Rd.move m h n).1⟩) r)⟩⟩
    | tup xs =>
      obtain ⟨p, vs, rfl, h, r⟩ := (by simpa only [Rep] using r1 : ∃ a vs, v = .ref a ∧ SqT X.K H1 a vs ∧ RepL X.K (AO A O) H1 xs vs)
      exact ⟨p, rfl, .inr ⟨vs, h, q1 _ H1 s1 (itm_enumT h r)⟩⟩
    | _ => exact q1.elim⟩
theorem i_enumW (hg : Gl X "enumerate") (hm : X.mg "enumerate" = none) (ha : PE X a (tW X.K W ow ma)) (hs : starEach [a] X.env = [(false, eval a X.env)] := by rfl) : PI X (.Tuple elts kk tpos) (.Call (.Name "enumerate" p) [a] [] pos) (tI Gr X.K W ow (ienum ma)) :=
  PI.of (pi_enumE hg hm (pa_cons ha pa_nil hs) hs) fun σ H R' ⟨A, H0, O, en, R, q⟩ => ⟨A, H0, O, en, R, (Out.bind (Out.bind q)).good fun d q1 v H1 s1 r1 => by
    cases d with
    | lst xs =>
      obtain ⟨p, vs, rfl, h, r⟩ := r1
      exact ⟨p, rfl, .inl ⟨vs, .inl h, q1 _ H1 s1 (itm_enumL (fun A2 H2 m => ⟨m.mv, rd_same m.2 h⟩) r)⟩⟩
    | tup xs =>
      obtain ⟨p, vs, rfl, h, r⟩ := (by simpa only [RepW, Rep] using r1 : ∃ a vs, v = .ref a ∧ SqT X.K H1 a vs ∧ RepL X.K (AO A O) H1 xs vs)
      exact ⟨p, rfl, .inr ⟨vs, h, q1 _ H1 s1 (itm_enumT h r).gr⟩⟩
    | _ => exact q1.elim⟩
end
end Py

/-! Comprehensions as expressions, what the module's names stand for, the ends. -/
namespace Py
open PySem L2
theorem f_le {K : Frag} {W : WX} {ow : Nat → Bool} {m : EM} {σ : L2.St} {H : Hp} {Q : VK} (h : tE K W ow m σ H Q) : tF K W ow m σ H Q := by
  obtain ⟨A, H0, O, en, R, q⟩ := h
  refine ⟨A, H0, O, en, R, q.good fun d k a H' n s r => k (.ref a) H' s ?_⟩
  have na : ¬ AO A O a := fun z => R.there a z n
  have mv : Mv (fun b => AO A O b ∨ b = a) H' (AO A O) H' := Mv.less fun b x => .inl x
  cases d with
  | lst ds =>
    obtain ⟨vs, e1, r1⟩ := r
    simp only [Rep]
    exact ⟨a, vs, rfl, na, .inl e1, RepL.move mv _ _ r1⟩
  | ins c fs =>
    obtain ⟨dx, fvs, e1, r1⟩ := r
    simp only [Rep]
    exact ⟨a, dx, fvs, rfl, na, e1, RepF.move mv _ _ r1⟩
  | _ => exact r.elim
section
variable {X : Cx} {W : WX} {ow : Nat → Bool} {a b c e : Expr} {es : List Expr} {m ma mb mc : EM} {am : AM} {pos p spos : Pos} {k j n : Nat}
variable {elt tg iter : Expr} {ifs : List Expr} {scope : Scope} {own : List (Str × Nat)} {it : IM} {g : GM} {t : TM} {me : EM} {ts : List Nat}
theorem ts_nil : PTs X [] (tT X.K W ow yes) := ⟨fun pins s σ H Q I ⟨A, H0, O, en, R, q⟩ => pts_nil.run pins s σ H Q I (q H (Same.refl H))⟩
theorem ts_one (h : PT X c (tT X.K W ow t)) : PTs X [c] (tT X.K W ow t) := pts_one h
/-- [elt for tg in iter if ..] -/
theorem f_lc (T : Ctx X W j) (hi : PI X tg iter (tI Gr X.K W ow it)) (ok : BlkOk X.N X.env.scope scope own)
    (hg : ∀ (s : Shared) (H : Hp) (C : Addr) (cl : List (Str × Addr)) (fp : List Addr), Ctx (X.blk s H scope (compEnvC scope cl C X.env) fp) W0 j → PG (X.blk s H scope (compEnvC scope cl C X.env) fp) tg (tGt X.K ow ts g))
    (ht : ∀ (s : Shared) (H : Hp) (C : Addr) (cl : List (Str × Addr)) (fp : List Addr), Ctx (X.blk s H scope (compEnvC scope cl C X.env) fp) W0 j → PTs (X.blk s H scope (compEnvC scope cl C X.env) fp) ifs (tT X.K W0 ow t))
    (he : ∀ (s : Shared) (H : Hp) (C : Addr) (cl : List (Str × Addr)) (fp : List Addr), Ctx (X.blk s H scope (compEnvC scope cl C X.env) fp) W0 j → PE (X.blk s H scope (compEnvC scope cl C X.env) fp) elt (tE X.K W0 ow me))
    (hts : ∀ i ∈ ts, i ∈ own.map (·.2)) (hs : ∀ x, foldedSetIterable iter X.env x = pure x := by intro _; rfl) :
    PE X (.ListComp elt [⟨tg, iter, ifs, 0⟩] scope pos) (tF X.K W ow (lcE it (own.map (·.2)) g t me)) :=
  PE.of (pe_lc T.calm T.nd hi ok (fun s H C cl fp => hg s H C cl fp (T.blk ..)) (fun s H C cl fp => ht s H C cl fp (T.blk ..)) (fun s H C cl fp => he s H C cl fp (T.blk ..)) hs) fun _ _ _ h => lc_of hts h
/-- y = [..], y a plain local -/
theorem s_lc0 {i : Nat} {y : Str} {py : Pos} (T : Ctx X W j) (hy : X.N[i]? = some y) (hyl : X.env.scope.names.lookup y = some .local)
    (hsw : swapsWith (.ListComp elt [⟨tg, iter, ifs, 0⟩] scope pos) (some (.Name y py)) spos.line X.env = pure true) (hi : PI X tg iter (tI Gr X.K W ow it)) (ok : BlkOk X.N X.env.scope scope own)
    (hg : ∀ (s : Shared) (H : Hp) (C : Addr) (cl : List (Str × Addr)) (fp : List Addr), Ctx (X.blk s H scope (compEnvC scope cl C X.env) fp) W0 j → PG (X.blk s H scope (compEnvC scope cl C X.env) fp) tg (tGt X.K ow ts g))
    (ht : ∀ (s : Shared) (H : Hp) (C : Addr) (cl : List (Str × Addr)) (fp : List Addr), Ctx (X.blk s H scope (compEnvC scope cl C X.env) fp) W0 j → PTs (X.blk s H scope (compEnvC scope cl C X.env) fp) ifs (tT X.K W0 ow t))
    (he : ∀ (s : Shared) (H : Hp) (C : Addr) (cl : List (Str × Addr)) (fp : List Addr), Ctx (X.blk s H scope (compEnvC scope cl C X.env) fp) W0 j → PE (X.blk s H scope (compEnvC scope cl C X.env) fp) elt (tE X.K W0 ow me))
    (hts : ∀ i ∈ ts, i ∈ own.map (·.2)) (hs : ∀ x, foldedSetIterable iter X.env x = pure x := by intro _; rfl) :
    PS X (.Assign [.Name y py] (.ListComp elt [⟨tg, iter, ifs, 0⟩] scope pos) spos) (tAsg (tF X.K W ow (lcE it (own.map (·.2)) g t me)) (gName i)) :=
  PS.of (ps_setLc T.calm T.nd hy hyl hsw hi ok (fun s H C cl fp => hg s H C cl fp (T.blk ..)) (fun s H C cl fp => ht s H C cl fp (T.blk ..)) (fun s H C cl fp => he s H C cl fp (T.blk ..)) hs) fun _ _ _ h => lc_of hts h
theorem s_f {st : Stmt} {i : Nat} (h : PS X st (tAsg (tF X.K W ow m) (gName i))) : PS X st (tAsg (tE X.K W ow m) (gName i)) := PS.of h fun _ _ _ q => f_le q
/-! ### is True -/
theorem y_isB : OpR X (compareOp .Is) (r2 X.K oisB) := imp2 op_isBl fun x y H Q ⟨A, d1, d2, d, h1, h2, _, e, k⟩ => by
  cases d1 <;> cases d2 <;> simp only [oisB, Res.ok.injEq, reduceCtorEq] at e
  subst e
  exact ⟨_, _, h1, h2, k _ H (Same.refl H) rep_bl⟩
theorem y_notB : OpR X (compareOp .IsNot) (r2 X.K onotB) := imp2 op_notBl fun x y H Q ⟨A, d1, d2, d, h1, h2, _, e, k⟩ => by
  cases d1 <;> cases d2 <;> simp only [onotB, Res.ok.injEq, reduceCtorEq] at e
  subst e
  exact ⟨_, _, h1, h2, k _ H (Same.refl H) rep_bl⟩
theorem n_isB : NoEx2 oisB := fun x y c fs => by cases x <;> cases y <;> exact fun z => nomatch z
theorem n_notB : NoEx2 onotB := fun x y c fs => by cases x <;> cases y <;> exact fun z => nomatch z
theorem b_isB : ∀ x y d, oisB x y = .ok d → ∃ k, d = .bl k := fun x y d h => by
  cases x <;> cases y <;> simp only [oisB, Res.ok.injEq, reduceCtorEq] at h
  exact ⟨_, h.symm⟩
theorem b_notB : ∀ x y d, onotB x y = .ok d → ∃ k, d = .bl k := fun x y d h => by
  cases x <;> cases y <;> simp only [onotB, Res.ok.injEq, reduceCtorEq] at h
  exact ⟨_, h.symm⟩
end
/-! ### a try that runs through -/
theorem Ctx.nox {X : Cx} {W : WX} {k : Nat} (c : Ctx X W k) : Ctx X.nox W0 k := ⟨c.calm, takes0, PassesOwn.never, c.hr, c.nd⟩
section
variable {fr : Bool} {X : Cx} {W : WX} {ow : Nat → Bool} {body : List Stmt} {u : SM} {h0 : ExceptHandler} {hs : List ExceptHandler} {pos : Pos} {j : Nat}
theorem s_thru (T : Ctx X W j) (hb : Ctx X.nox W0 j → PSs X.nox body (tS fr X.K W0 ow u)) : PS X (.Try body (h0 :: hs) [] [] pos) (tS fr X.K W ow (thru u)) :=
  PS.of (ps_try_thru0 (hb T.nox)) fun D σ H ⟨A, H0, O, en, R, q⟩ => ⟨A, H0, O, en, R, by
    have q1 : Out (noexc (u en)) (EndOk fr X.K A H0 ow O H D) (badS X.K W A H0) := q
    cases e : u en with
    | ok f =>
      rw [e] at q1
      exact q1
    | exc c fs =>
      rw [e] at q1
      exact q1.elim
    | stuck =>
      rw [e] at q1
      exact q1.elim⟩
end
/-! ### what the module's names stand for -/
/-- the name x calls a def of n parameters that computes fm -/
def CallOk (P : Program) (w : World) (K : Frag) (mg : Str → Option Value) (base : Heap) (k : Nat) (x : Str) (d : He.DefD) (ps : List Str) (n : Nat) (fm : List D → Res D) : Prop := ∃ f fd, mg x = some (.ref f) ∧ PySem.W.keepIn K (.ref f) = true ∧ Binds K fd ps [] ∧ FnOk P w K mg base (L2.CX P w) k f fd ps (spM K n fm) ∧ Ar n fm ∧ FunD K d.name d.qual d.params d.body d.scope [] [] f fd
theorem perm_cons {α : Type} {i : Nat} {π : List Nat} {ws : List α} : perm (i :: π) ws = match ws[i]? with | some a => a :: perm π ws | none => perm π ws := by
  unfold perm
  rw [List.filterMap_cons]
  cases ws[i]? <;> rfl
theorem perm_vals {zs : List V} {ws : List Value} (h : Vals zs ws) : ∀ π : List Nat, Vals (perm π zs) (perm π ws)
  | [] => .nil
  | i :: π => by
    rw [perm_cons, perm_cons]
    have hl := h.length
    by_cases hi : i < zs.length
    · have hi2 : i < ws.length := by omega
      obtain ⟨u, hu, ru⟩ := h.get (List.getElem?_eq_getElem hi)
      rw [List.getElem?_eq_getElem hi, hu]
      exact .cons ru (perm_vals h π)
    · rw [List.getElem?_eq_none (by omega), List.getElem?_eq_none (by omega)]
      exact perm_vals h π
theorem perm_rep {K : Frag} {A : AS} {H : Hp} {ds : List D} {vs : List V} (h : RepL K A H ds vs) : ∀ π : List Nat, RepL K A H (perm π ds) (perm π vs)
  | [] => by simp [perm, RepL]
  | i :: π => by
    rw [perm_cons, perm_cons]
    have hl := h.length
    by_cases hi : i < ds.length
    · obtain ⟨v, hv, rv⟩ := h.get (List.getElem?_eq_getElem hi)
      rw [List.getElem?_eq_getElem hi, hv]
      simp only [RepL]
      exact ⟨_, _, rfl, rv, perm_rep h π⟩
    · rw [List.getElem?_eq_none (by omega), List.getElem?_eq_none (by omega)]
      exact perm_rep h π
/-- the name cls makes an instance -/
def MakeOk (P : Program) (w : World) (K : Frag) (mg : Str → Option Value) (base : Heap) (k : Nat) (cls : String) (n : Nat) (fm : List D → Res D) : Prop := ∃ f fd ps, mg (Str.ofString cls) = some (.ref (ca K cls)) ∧ Mk K (ca K cls) f ∧ Binds K fd ps [] ∧ FnOk P w K mg base (L2.CX P w) k f fd ps (spI K n cls fm) ∧ (∀ ds d, fm ds = .ok d → ds.length + 1 = n) ∧ ∀ ds c fs, fm ds = .exc c fs → ds.length + 1 = n
section
variable {X : Cx} {W : WX} {ow : Nat → Bool} {e : Expr} {es : List Expr} {am : AM} {pos p : Pos} {k j n : Nat} {x : Str} {fm : List D → Res D} {d : He.DefD} {ps : List Str}
theorem x_own1 (T : Ctx X W j) (C : CallOk X.prog X.w X.K X.mg X.base k x d ps n fm) (hk : k ≤ j) (hg : Gl X x) (ha : PA X (e :: es) (aE X.K W ow am)) (hdb : (x == ("__debug__" : Str)) = false := by decide)
    (he : starEach (e :: es) X.env = (false, eval e X.env) :: starEach es X.env := by rfl) (hpl : (backTo pos (starEach es X.env)).any (·.1) = false := by rfl) : PE X (.Call (.Name x p) (e :: es) [] pos) (tE X.K W ow (call fm am)) := by
  obtain ⟨f, fd, h1, h2, h3, h4, h5, _⟩ := C
  exact x_call T h4 h5 hk hg h1 h2 h3 ha hdb he hpl
theorem x_ownI (T : Ctx X W j) (C : CallOk X.prog X.w X.K X.mg X.base k x d ps n fm) (hk : k ≤ j) (hg : Gl X x) (ha : PA X (e :: es) (aW X.K W ow am)) (hdb : (x == ("__debug__" : Str)) = false := by decide)
    (he : starEach (e :: es) X.env = (false, eval e X.env) :: starEach es X.env := by rfl) (hpl : (backTo pos (starEach es X.env)).any (·.1) = false := by rfl) : PE X (.Call (.Name x p) (e :: es) [] pos) (tE X.K W ow (callI fm am)) := by
  obtain ⟨f, fd, h1, h2, h3, h4, h5, _⟩ := C
  exact x_callI T h4 h5 hk hg h1 h2 h3 ha hdb he hpl
theorem x_new {cls : String} (T : Ctx X W j) (hW : ∀ c d σ σ' H, W c d σ H → W c d σ' H) (C : MakeOk X.prog X.w X.K X.mg X.base k cls n fm) (hk : k + 1 ≤ j) (hg : Gl X (Str.ofString cls)) (ha : PA X (e :: es) (aE X.K W ow am)) (hdb : (Str.ofString cls == ("__debug__" : Str)) = false := by decide)
    (he : starEach (e :: es) X.env = (false, eval e X.env) :: starEach es X.env := by rfl) (hpl : (backTo pos (starEach es X.env)).any (·.1) = false := by rfl) : PE X (.Call (.Name (Str.ofString cls) p) (e :: es) [] pos) (tE X.K W ow (call fm am)) := by
  obtain ⟨f, fd, ps, h1, h2, h3, h4, h5, h6⟩ := C
  exact x_make T hW h2 h4 h5 h6 hk hg h1 h3 ha hdb he hpl
theorem xk_nil {R : RR} : PK X [] (tA R X.K W ow argN) := ⟨fun pos pins s σ H Q I ⟨A, H0, O, en, R', q⟩ => pk_nil.run pos pins s σ H Q I (q [] H (Same.refl H) .nil)⟩
theorem xk_cons {m : EM} {nm : Option Str} {kpos : Pos} {kws : List Keyword} (ha : PE X e (tE X.K W ow m)) (hr : PK X kws (aE X.K W ow am)) : PK X (⟨nm, e, kpos⟩ :: kws) (aE X.K W ow (argC m am)) :=
  ⟨fun pos pins s σ H Q I ⟨A, H0, O, en, R, q⟩ => (pk_cons ha hr).run pos pins s σ H Q I ⟨A, H0, O, en, R, (Out.bind q).good fun d q1 v H1 s1 r1 => ⟨A, H0, O, en, R.to s1, ((Out.bind q1).to s1).good fun ds q2 vs H2 s2 r2 =>
    q2 (v :: vs) H2 (s1.trans s2) (.cons (Rep.move (Mv.same s2) _ _ r1) r2)⟩⟩⟩
/-- f(k = v, ..), keywords alone -/
theorem x_kw {kws : List Keyword} {ks : List Str} {π : List Nat} (T : Ctx X W j) (C : CallOk X.prog X.w X.K X.mg X.base k x d ps n fm) (hk : k ≤ j) (hg : Gl X x) (hW : ∀ c d σ σ' H, W c d σ H → W c d σ' H)
    (hbind : ∀ (kV doc pm : Value) (an : Option Addr) (cdv ct : Value) (ws : List Value), ws.length = ks.length → bindArgs (PySem.W.fnOf d.name d.qual d.params d.body d.scope .none kV doc pm an cdv ct) ⟨[], ks.zip ws⟩ = pure (ps.zip (perm π ws))) (hkw : PK X kws (aE X.K W ow am)) (hlen : kws.length = ks.length := by rfl)
    (hall : (backToKw pos (keywordEach kws X.env)).all (·.1.isSome) = true := by rfl) (hks : (backToKw pos (keywordEach kws X.env)).filterMap (·.1) = ks := by rfl)
    (hdb : (x == ("__debug__" : Str)) = false := by decide) (hpl : ((backTo pos (starEach [] X.env)).any (·.1) || (backToKw pos (keywordEach kws X.env)).any (·.1.isNone)) = false := by rfl) :
    PE X (.Call (.Name x p) [] kws pos) (tE X.K W ow (call (kwc ks.length π fm) am)) := by
  obtain ⟨f, fd, hm, hkp, _, F, hn, FD⟩ := C
  have hb : KBn X.K fd ps 0 ks (fun _ ws => perm π ws) (fun _ zs => perm π zs) := by
    obtain ⟨oc, od, dV, kV, doc, pm, an, cdv, ct, osl, rfl, lk, hcd, hD, hK⟩ := FD.ex
    rcases hD with ⟨_, rfl⟩ | ⟨e, _⟩
    · refine ⟨fun s us ws X l1 l2 => ?_, fun r1 r2 => perm_vals r2 π⟩
      have : us = [] := List.length_eq_zero_iff.mp l1
      subst this
      exact .of_eq (hbind kV doc pm an cdv ct ws l2)
    · exact absurd rfl e
  refine ⟨fun pins s σ H Q I h => ?_⟩
  obtain ⟨A, H0, O, en, R, q⟩ := h
  refine wpAny_Call_Name_kw (ld_glob I hg hm ?_ hdb)
  refine PySem.W.callWith_KW0 (h₀ := X.base) I.ok.mod.kin hkp hall ?_ hpl
  refine thn (hkw.run pos pins s σ H (fun zs H1 => zs.length = ks.length ∧ spM X.K n fm (perm π zs) H1 Q fun c d H => ∀ σ', W c d σ' H) I ⟨A, H0, O, en, R, (Out.bind q).good fun ds q1 vs H1 s1 r1 => ?_⟩) fun ws s2 ⟨zs, H2, I2, rz, hl, q2⟩ => ⟨I2.kIn, ?_⟩
  · unfold kwc at q1
    by_cases hl : ds.length = ks.length
    · rw [if_pos hl] at q1
      have r2 := paired_rep r1
      refine ⟨r2.length.symm.trans hl, AO A O, perm π ds, perm_rep r2 π, ?_, (R.to s1).there, q1.imp (fun d _ k v H2 s2 r2 => k v H2 (s1.trans s2) r2) fun c fs z da H2 fvs s2 q2 r2 σ' => hW _ _ _ σ' _ (z da H2 fvs (s1.trans s2) q2 r2)⟩
      cases e : fm (perm π ds) with
      | ok d => exact hn.ok _ d e
      | exc c fs => exact hn.ex _ c fs e
      | stuck =>
        rw [e] at q1
        exact q1.elim
    · rw [if_neg hl] at q1
      exact q1.elim
  · rw [hks]
    exact run_fnN (us := []) (vs := []) F (T.hr.mono hk) hb (passes_call T.tk fun c d σ H h => h σ) I2 .nil rz rfl hl q2
end
/-! ### defs by the head's facts -/
section
variable {P : Program} {w : World} {K : Frag} {mg : Str → Option Value} {base : Heap} {k : Nat} {ow oN oB : Nat → Bool} {m : SM} {name qual : Str} {params : Arguments} {body : List Stmt} {scope : Scope} {f : Addr} {N ps : List Str} {p n : Nat}
theorem def_ok {d : He.DefD} (F : ∃ fd, FunD K d.name d.qual d.params d.body d.scope [] [] f fd) (g : mg d.name = some (.ref f)) (S : FnScope N ps d.scope) (hpl : ps.length = p) (hnl : N.length = n) (hp : ∀ i, i < p → ow i = false)
    (hbind : ∀ (kV doc pm : Value) (an : Option Addr) (cdv ct : Value) (us : List Value), us.length = ps.length → bindArgs (PySem.W.fnOf d.name d.qual d.params d.body d.scope .none kV doc pm an cdv ct) ⟨us, []⟩ = pure (ps.zip us))
    (hb : ∀ (cdv : Value) (A : Around) (outer : List PySem.Env) (s : Shared) (H : Hp) (E : XK), Ctx (cxOf (L2.CX P w) P w K mg base N d.qual d.scope f cdv A outer s H E) (WD E) k →
      PSs (cxOf (L2.CX P w) P w K mg base N d.qual d.scope f cdv A outer s H E) d.body (tS3 false K (WD E) ow oN oB m)) : CallOk P w K mg base (k + 1) d.name d ps p (fn p n m) := by
  obtain ⟨fd, F⟩ := F
  subst hpl hnl
  exact ⟨f, fd, g, F.kp, FunD.bindsN F hbind, fn_ok F S hp hb, ar_fn, F⟩
theorem ar_made {p n : Nat} {cls : String} {body : SM} : (∀ ds d, made p n cls body ds = .ok d → ds.length + 1 = p) ∧ ∀ ds c fs, made p n cls body ds = .exc c fs → ds.length + 1 = p := by
  refine ⟨fun ds d h => ?_, fun ds c fs h => ?_⟩ <;> (unfold made at h; split at h; (· assumption); (· cases h))
theorem cls_ok {cls : String} (F : ∃ fd, FunD K name qual params body scope [] [] f fd) (g : mg (Str.ofString cls) = some (.ref (ca K cls))) (M : Mk K (ca K cls) f) (S : FnScope N ps scope) (hpl : ps.length = p) (hnl : N.length = n) (h0 : ow 0 = true) (hp0 : 0 < p) (hp : ∀ i, i < p → 0 < i → ow i = false)
    (hbind : ∀ (kV doc pm : Value) (an : Option Addr) (cdv ct : Value) (us : List Value), us.length = ps.length → bindArgs (PySem.W.fnOf name qual params body scope .none kV doc pm an cdv ct) ⟨us, []⟩ = pure (ps.zip us))
    (hb : ∀ (cdv : Value) (A : Around) (outer : List PySem.Env) (s : Shared) (H : Hp) (E : XK), Ctx (cxOf (L2.CX P w) P w K mg base N qual scope f cdv A outer s H E) (WD E) k →
      PSs (cxOf (L2.CX P w) P w K mg base N qual scope f cdv A outer s H E) body (tS false K (WD E) ow m)) : MakeOk P w K mg base (k + 1) cls p (made p n cls m) := by
  obtain ⟨fd, F⟩ := F
  subst hpl hnl
  exact ⟨f, fd, ps, g, M, FunD.bindsN F hbind, init_ok F S h0 hp0 (fun i a b => hp i b a) hb, ar_made.1, ar_made.2⟩
end
/-! ### the head's facts, tables, and one more -/
section
open He
abbrev AlX : Type := AlT × Bool
def obsX (more : Frag → Bool) (fa : List Fa) (fn : List DefD) (ts : List Tab) (K : Frag) : AlX := (obsT fa fn ts K, more K)
def valX (fn : List DefD) (ts : List Tab) (w : World) : AlX := (valT fn ts w, true)
def obsXG (n : Nat) (more : Frag → Bool) (fa : List Fa) (fn : List DefD) (ts : List Tab) (g : Addr → Option Obj) : AlX := obsX more fa fn ts (frG g (asD g n))
def hookX (n : Nat) (more : Frag → Bool) (fa : List Fa) (fn : List DefD) (ts : List Tab) : PySem.W.Hook where
  α := AlX
  obs := fun s => obsXG n more fa fn ts s.heap.get?
  val := fun w => valX fn ts w
  says := fun w h => ∃ K : PySem.W.Frag, K.In h ∧ SaysT fa fn ts w K ∧ more K = true
  of := fun w s e => by
    have e1 : (obsT fa fn ts (frG s.heap.get? (asD s.heap.get? n)), more (frG s.heap.get? (asD s.heap.get? n))) = (valT fn ts w, true) := e
    exact ⟨_, frG_in, congrArg Prod.fst e1, congrArg Prod.snd e1⟩
  keeps := fun _ _ _ ⟨K, hK, c, m⟩ k => ⟨K, PySem.W.Frag.In.keeps hK k, c, m⟩
theorem obsXG_eq {n : Nat} {more : Frag → Bool} {fa : List Fa} {fn : List DefD} {ts : List Tab} {g : Addr → Option Obj} {s : Shared} (h : ∀ a, g a = s.heap.get? a) : obsXG n more fa fn ts g = (hookX n more fa fn ts).obs s := by
  have e : g = s.heap.get? := funext h
  rw [e] <;> rfl
end
/-! ### a table of texts -/
def TabOk (K : Frag) (w : World) (mg : Str → Option Value) (x : Str) (tab : List (String × Int)) : Prop :=
  ∃ d es n, mg x = some (.ref d) ∧ KDict K w d es n ∧ ∀ z : String, ∃ r, PySem.W.nsIn K d (Str.ofString z) = some r ∧ (tab.lookup z = none → r = none) ∧ ∀ i, tab.lookup z = some i → ∃ t, r = some (.int i t)
theorem lookup_mem {z : String} {i : Int} : ∀ {tab : List (String × Int)}, tab.lookup z = some i → (z, i) ∈ tab
  | [], h => by cases h
  | (y, j) :: r, h => by
    rw [List.lookup_cons] at h
    split at h
    · rename_i e
      have e1 : z = y := by simpa using e
      cases h
      subst e1
      exact List.mem_cons_self
    · exact List.mem_cons_of_mem _ (lookup_mem h)
theorem lookup_no {z : String} : ∀ {tab : List (String × Int)}, tab.lookup z = none → ∀ q ∈ tab, q.1 ≠ z
  | [], _, q, hq => by cases hq
  | (y, j) :: r, h, q, hq => by
    rw [List.lookup_cons] at h
    split at h
    · cases h
    · rename_i e
      rcases List.mem_cons.mp hq with e1 | hq
      · subst e1
        intro e2
        have e2 : y = z := e2
        subst e2
        simp at e
      · exact lookup_no h q hq
theorem tab_keys {P : Params} : ∀ {l : List DictEntry} {ks : List Str}, l.map He.keyOf = He.keysIn P ks → ∀ e ∈ l, ∃ k t, e.key = .str k t ∧ k ∈ ks
  | [], _, _, e, he => by cases he
  | e0 :: r, [], h, _, _ => by cases h
  | e0 :: r, k :: ks, h, e, he => by
    have h1 : He.keyOf e0 :: r.map He.keyOf = some (k, PyData.keyHash P k) :: He.keysIn P ks := h
    injection h1 with h2 h3
    rcases List.mem_cons.mp he with e1 | he
    · subst e1
      unfold He.keyOf at h2
      split at h2
      · rename_i x t q
        have h4 := Option.some.inj h2
        obtain ⟨h5, h6⟩ := Prod.mk.inj h4
        exact ⟨x, t, q, by rw [h5]; exact List.mem_cons_self⟩
      · cases h2
    · obtain ⟨k1, t, e1, m⟩ := tab_keys h3 e he
      exact ⟨k1, t, e1, List.mem_cons_of_mem _ m⟩
theorem tab_ok {K : Frag} {w : World} {mg : Str → Option Value} {x : Str} {tab : List (String × Int)} (hraw : He.dicW K (He.ga K x) = some (He.keysIn w.params (tab.map fun q => Str.ofString q.1))) (hv : He.valsB K (He.ga K x) (tab.map fun q => (Str.ofString q.1, He.Dv.int q.2)) = true) (hg : mg x = some (.ref (He.ga K x))) : TabOk K w mg x tab := by
  obtain ⟨es, n, D⟩ := He.dicW_ok hraw
  refine ⟨_, es, n, hg, D, fun z => ?_⟩
  cases e : tab.lookup z with
  | some i =>
    have m := lookup_mem e
    obtain ⟨u, h1, h2⟩ := He.valsB_ok hv (q := (Str.ofString z, He.Dv.int i)) (List.mem_map.mpr ⟨_, m, rfl⟩)
    refine ⟨_, h1, (fun q => nomatch q), fun j q => ?_⟩
    cases q
    obtain ⟨t, rfl⟩ := (show ∃ t, u = Value.int i t from h2)
    exact ⟨t, rfl⟩
  | none =>
    have no := lookup_no e
    have ks : es.toList.map He.keyOf = He.keysIn w.params (tab.map fun q => Str.ofString q.1) := by
      unfold He.dicW at hraw
      rw [D.at_] at hraw
      have low := D.low
      simp only [low, decide_true, Bool.true_and, Bool.not_false, Bool.and_true] at hraw
      simpa using hraw
    refine ⟨none, ?_, fun _ => rfl, fun j q => nomatch q⟩
    unfold PySem.W.nsIn
    rw [D.at_]
    have ef : es.toList.find? (·.key.isStr (Str.ofString z)) = none := by
      rw [List.find?_eq_none]
      intro ent hent h
      obtain ⟨k, t, e1, m⟩ := tab_keys ks ent hent
      rw [e1] at h
      obtain ⟨q, hq, e2⟩ := List.mem_map.mp m
      have e3 : k = Str.ofString z := by simpa [Value.isStr] using h
      exact no q hq (ofS_inj (e2.trans e3))
    have er : es.toList.any (·.refKey) = false := by
      rw [List.any_eq_false]
      intro ent hent h
      obtain ⟨k, t, e1, m⟩ := tab_keys ks ent hent
      simp [DictEntry.refKey, e1] at h
    simp only [ef, er]
    rfl
section
variable {X : Cx} {W : WX} {ow : Nat → Bool} {a : Expr} {ma : EM} {pos p : Pos} {tab : List (String × Int)} {nm : Str}
theorem x_has (T : TabOk X.K X.w X.mg nm tab) (hg : Gl X nm) (ha : PE X a (tE X.K W ow ma)) (hm : behindInMarks .In (.Name nm p) = false := by rfl) (hd : (nm == ("__debug__" : Str)) = false := by decide) : PE X (.Compare a [.In] [.Name nm p] pos) (tE X.K W ow (un (ohas tab) ma)) := by
  obtain ⟨d, es, n, h1, h2, h3⟩ := T
  refine PE.of (pe_cmpR (op_in_kd h2) ha (pe_glob (v := .ref d) hg h1 rfl hd) hm) fun σ H Q ⟨A, H0, O, en, R, q⟩ => ⟨A, H0, O, en, R, (Out.bind q).good fun d1 q1 v1 H1 s1 r1 => ?_⟩
  cases d1 with
  | str z =>
    obtain ⟨r, e, k1, k2⟩ := h3 z
    refine ⟨_, r, r1, rfl, e, ?_⟩
    have e2 : r.isSome = (tab.lookup z).isSome := by
      cases e3 : tab.lookup z with
      | none => rw [k1 e3] <;> rfl
      | some i =>
        obtain ⟨t, e4⟩ := k2 i e3
        rw [e4] <;> rfl
    rw [e2]
    exact q1 _ _ s1 rep_bl
  | _ => exact q1.elim
theorem x_nothas (T : TabOk X.K X.w X.mg nm tab) (hg : Gl X nm) (ha : PE X a (tE X.K W ow ma)) (hm : behindInMarks .NotIn (.Name nm p) = false := by rfl) (hd : (nm == ("__debug__" : Str)) = false := by decide) : PE X (.Compare a [.NotIn] [.Name nm p] pos) (tE X.K W ow (un (onothas tab) ma)) := by
  obtain ⟨d, es, n, h1, h2, h3⟩ := T
  refine PE.of (pe_cmpR (op_notIn_kd h2) ha (pe_glob (v := .ref d) hg h1 rfl hd) hm) fun σ H Q ⟨A, H0, O, en, R, q⟩ => ⟨A, H0, O, en, R, (Out.bind q).good fun d1 q1 v1 H1 s1 r1 => ?_⟩
  cases d1 with
  | str z =>
    obtain ⟨r, e, k1, k2⟩ := h3 z
    refine ⟨_, r, r1, rfl, e, ?_⟩
    have e2 : r.isSome = (tab.lookup z).isSome := by
      cases e3 : tab.lookup z with
      | none => rw [k1 e3] <;> rfl
      | some i =>
        obtain ⟨t, e4⟩ := k2 i e3
        rw [e4] <;> rfl
    rw [e2]
    exact q1 _ _ s1 rep_bl
  | _ => exact q1.elim
theorem t_has (T : TabOk X.K X.w X.mg nm tab) (hg : Gl X nm) (ha : PE X a (tE X.K W ow ma)) (hm : behindInMarks .In (.Name nm p) = false := by rfl) (hd : (nm == ("__debug__" : Str)) = false := by decide) : PT X (.Compare a [.In] [.Name nm p] pos) (tT X.K W ow (tst (un (ohas tab) ma))) := by
  obtain ⟨d, es, n, h1, h2, h3⟩ := T
  refine PT.of (pt_cmpR (op_in_kd h2) ha (pe_glob (v := .ref d) hg h1 rfl hd) hm) fun σ H Q ⟨A, H0, O, en, R, q⟩ => ⟨A, H0, O, en, R, (Out.bind (Out.bind q)).good fun d1 q1 v1 H1 s1 r1 => ?_⟩
  cases d1 with
  | str z =>
    obtain ⟨r, e, k1, k2⟩ := h3 z
    refine ⟨_, r, r1, rfl, e, _, rfl, ?_⟩
    have e2 : r.isSome = (tab.lookup z).isSome := by
      cases e3 : tab.lookup z with
      | none => rw [k1 e3] <;> rfl
      | some i =>
        obtain ⟨t, e4⟩ := k2 i e3
        rw [e4] <;> rfl
    rw [e2]
    exact q1 _ s1
  | _ => exact q1.elim
theorem t_nothas (T : TabOk X.K X.w X.mg nm tab) (hg : Gl X nm) (ha : PE X a (tE X.K W ow ma)) (hm : behindInMarks .NotIn (.Name nm p) = false := by rfl) (hd : (nm == ("__debug__" : Str)) = false := by decide) : PT X (.Compare a [.NotIn] [.Name nm p] pos) (tT X.K W ow (tst (un (onothas tab) ma))) := by
  obtain ⟨d, es, n, h1, h2, h3⟩ := T
  refine PT.of (pt_cmpR (op_notIn_kd h2) ha (pe_glob (v := .ref d) hg h1 rfl hd) hm) fun σ H Q ⟨A, H0, O, en, R, q⟩ => ⟨A, H0, O, en, R, (Out.bind (Out.bind q)).good fun d1 q1 v1 H1 s1 r1 => ?_⟩
  cases d1 with
  | str z =>
    obtain ⟨r, e, k1, k2⟩ := h3 z
    refine ⟨_, r, r1, rfl, e, _, rfl, ?_⟩
    have e2 : r.isSome = (tab.lookup z).isSome := by
      cases e3 : tab.lookup z with
      | none => rw [k1 e3] <;> rfl
      | some i =>
        obtain ⟨t, e4⟩ := k2 i e3
        rw [e4] <;> rfl
    rw [e2]
    exact q1 _ s1
  | _ => exact q1.elim
theorem b_has : ∀ x d, ohas tab x = .ok d → ∃ k, d = .bl k := fun x d h => by
  cases x <;> simp only [ohas, Res.ok.injEq, reduceCtorEq] at h
  exact ⟨_, h.symm⟩
theorem b_nothas : ∀ x d, onothas tab x = .ok d → ∃ k, d = .bl k := fun x d h => by
  cases x <;> simp only [onothas, Res.ok.injEq, reduceCtorEq] at h
  exact ⟨_, h.symm⟩
theorem x_look (T : TabOk X.K X.w X.mg nm tab) (hg : Gl X nm) (ha : PE X a (tE X.K W ow ma)) (hs : PlainIx a := by exact fun _ _ => rfl) (hd : (nm == ("__debug__" : Str)) = false := by decide) : PE X (.Subscript (.Name nm p) a pos) (tE X.K W ow (un (olook tab) ma)) := by
  obtain ⟨d, es, n, h1, h2, h3⟩ := T
  refine PE.of (pe_ix ix_kdict (pe_glob (v := .ref d) hg h1 rfl hd) ha hs) fun σ H Q ⟨A, H0, O, en, R, q⟩ => ?_
  refine (⟨A, H0, O, en, R, (Out.bind q).good fun d1 q1 v1 H1 s1 r1 => ?_⟩ : tE X.K W ow ma σ H _)
  cases d1 with
  | str z =>
    obtain ⟨r, e, k1, k2⟩ := h3 z
    cases e3 : tab.lookup z with
    | none =>
      simp only [olook, e3, opt, Option.map_none] at q1
      exact q1.elim
    | some i =>
      obtain ⟨t, e4⟩ := k2 i e3
      subst e4
      simp only [olook, e3, opt, Option.map_some] at q1
      exact ⟨d, Str.ofString z, .int i, rfl, r1, ⟨es, n, _, h2.at_, h2.lit, e, ⟨t, rfl⟩⟩, q1 _ _ s1 (flat_rep (d := .int i) rfl _ _)⟩
  | _ => exact q1.elim
end
/-! ### append -/
theorem s_app1 {fr : Bool} {X : Cx} {W : WX} {ow : Nat → Bool} {i : Nat} {o e : Expr} {m : EM} {apos cpos pos : Pos} (ho : PE X o (tVar i)) (h : PE X e (tE X.K W ow m)) (hi : ow i = true)
    (hbase : attributeBase o "append" X.env (eval o X.env) = eval o X.env := by rfl)
    (hfew : ((backTo cpos (starEach [e] X.env)).all (fun x => !x.1) && (backToKw cpos (keywordEach [] X.env)).all (fun x => x.1.isSome)
      && decide (([e] : List Expr).length + ([] : List Keyword).length + (if ([] : List Keyword).isEmpty then 0 else 1) < 30)) = true := by rfl)
    (hline : (apos.endLine == cpos.line) = true := by rfl) (hs : starEach [e] X.env = [(false, eval e X.env)] := by rfl)
    (hsw : swapsWith (.Call (.Attribute o "append" apos) [e] [] cpos) none pos.line X.env = pure false := by rfl) :
    PS X (.Expr (.Call (.Attribute o "append" apos) [e] [] cpos) pos) (tS fr X.K W ow (app i m)) :=
  s_app (ps_expr (pe_bm PySem.F.plainAttrs_list PySem.F.slot_list_append PySem.F.type_list_append mt_append ho (pa_cons h pa_nil hs) hbase hfew hline hs (by rfl)) hsw) hi
/-! ### code that is not reached -/
theorem s_dead {fr : Bool} {X : Cx} {W : WX} {ow : Nat → Bool} {st : Stmt} : PS X st (tS fr X.K W ow dead) := ⟨fun pins s σ H D I ⟨A, H0, O, en, R, q⟩ => (q : False).elim⟩
theorem x_dead {X : Cx} {W : WX} {ow : Nat → Bool} {a : Expr} : PE X a (tE X.K W ow deadE) := ⟨fun pins s σ H Q I ⟨A, H0, O, en, R, q⟩ => (q : False).elim⟩
/-! ### the law -/
end Py

/-! What a head tells, in one place; the law's end. -/
namespace Py
open PySem L2
open He (Fa DefD Tab)
theorem Ctx.eq {X : Cx} {W : WX} {k : Nat} (T : Ctx X W k) : OpR X (compareOp .Eq) (r2 X.K oeq) := y_eq (by have := T.hr.un; omega)
theorem Ctx.ne {X : Cx} {W : WX} {k : Nat} (T : Ctx X W k) : OpR X (compareOp .NotEq) (r2 X.K one) := y_ne (by have := T.hr.un; omega)
theorem ss_dead {fr : Bool} {X : Cx} {W : WX} {ow : Nat → Bool} {st : List Stmt} : PSs X st (tS fr X.K W ow dead) := ⟨fun pins s σ H D I ⟨A, H0, O, en, R, q⟩ => (q : False).elim⟩
theorem hv_len : bootBuiltins "len" = some (.builtin "len") := by decide +kernel
theorem hv_sum : bootBuiltins "sum" = some (.builtin "sum") := by decide +kernel
theorem hv_all : bootBuiltins "all" = some (.builtin "all") := by decide +kernel
theorem hv_any : bootBuiltins "any" = some (.builtin "any") := by decide +kernel
theorem hv_max : bootBuiltins "max" = some (.builtin "max") := by decide +kernel
theorem hv_min : bootBuiltins "min" = some (.builtin "min") := by decide +kernel
theorem hv_abs : bootBuiltins "abs" = some (.builtin "abs") := by decide +kernel
theorem hv_int : bootBuiltins "int" = some (.type "int") := by decide +kernel
theorem hv_tuple : bootBuiltins "tuple" = some (.type "tuple") := by decide +kernel
theorem hv_list : bootBuiltins "list" = some (.type "list") := by decide +kernel
theorem hv_bool : bootBuiltins "bool" = some (.type "bool") := by decide +kernel
theorem hv_str : bootBuiltins "str" = some (.type "str") := by decide +kernel
theorem hv_dict : bootBuiltins "dict" = some (.type "dict") := by decide +kernel
theorem h_iadd {K : Frag} : ∀ x y H Q, r2 K oiadd x y H Q → ipI (fun i j => i + j) x y H Q := fun x y H Q ⟨A, d1, d2, d, h1, h2, _, e, k⟩ => by
  cases d1 <;> cases d2 <;> simp only [oiadd, Res.ok.injEq, reduceCtorEq] at e
  subst e
  exact ⟨_, _, h1, h2, k _ H (Same.refl H) (flat_rep (d := .int _) rfl _ _)⟩
theorem h_isub {K : Frag} : ∀ x y H Q, r2 K oisub x y H Q → ipI (fun i j => i - j) x y H Q := fun x y H Q ⟨A, d1, d2, d, h1, h2, _, e, k⟩ => by
  cases d1 <;> cases d2 <;> simp only [oisub, Res.ok.injEq, reduceCtorEq] at e
  subst e
  exact ⟨_, _, h1, h2, k _ H (Same.refl H) (flat_rep (d := .int _) rfl _ _)⟩
theorem n_iadd : NoEx2 oiadd := fun x y c fs => by cases x <;> cases y <;> exact fun z => nomatch z
theorem n_isub : NoEx2 oisub := fun x y c fs => by cases x <;> cases y <;> exact fun z => nomatch z
/-! ### the list objects left out -/
def notList (o : Obj) : Bool := match o.cls with
  | .type c => !(decide (c = "list"))
  | _ => true
def noL (K : Frag) : Bool := K.all fun q => notList q.2
theorem klookup_mem {a : Addr} {o : Obj} : ∀ {l : List (Addr × Obj)}, l.lookup a = some o → (a, o) ∈ l
  | [], h => by cases h
  | (b, u) :: r, h => by
    rw [List.lookup_cons] at h
    split at h
    · rename_i e
      have e1 : a = b := by simpa using e
      cases h
      subst e1
      exact List.mem_cons_self
    · exact List.mem_cons_of_mem _ (klookup_mem h)
theorem sqL_rd {K : Frag} (h : noL K = true) {H : Hp} {a : Addr} {vs : List V} (q : SqL K H a vs) : Rd H a (.lst vs) := by
  rcases q with q | ⟨o, its, n, hk, hc, _⟩
  · exact q
  · have m := List.all_eq_true.mp h _ (klookup_mem hk)
    simp [notList, hc] at m
/-! ### facts -/
structure Facts (fa : List Fa) (fn : List DefD) (ts : List Tab) (ms : List (Frag → Bool)) (w : World) (K : Frag) (mg : Str → Option Value) : Prop where
  c : He.SaysT fa fn ts w K
  m : (noL K && ms.all fun m => m K) = true
  h : ∃ h : Heap, K.In h ∧ h.Ns mainGlobals mg
section
variable {fa : List Fa} {fn : List DefD} {ts : List Tab} {ms : List (Frag → Bool)} {w : World} {K : Frag} {mg : Str → Option Value}
theorem Facts.glo (Y : Facts fa fn ts ms w K mg) (i : Nat) {x : Str} (h : fa[i]? = some (.glo x) := by rfl) : mg x = some (.ref (He.ga K x)) := by
  obtain ⟨_, KX, G⟩ := Y.h
  exact He.glo_ok KX G (Y.c.d.fact i h)
theorem Facts.free (Y : Facts fa fn ts ms w K mg) (i : Nat) {x : Str} (h : fa[i]? = some (.free x) := by rfl) : mg x = none := by
  obtain ⟨_, KX, G⟩ := Y.h
  exact He.free_ok KX G (Y.c.d.fact i h)
theorem Facts.mkr (Y : Facts fa fn ts ms w K mg) (i : Nat) {x : String} (h : fa[i]? = some (.mkr (Str.ofString x)) := by rfl) : Mk K (ca K x) (He.ma K (ca K x) "__init__") := He.mkr_ok (Y.c.d.fact i h)
theorem Facts.def_ (Y : Facts fa fn ts ms w K mg) (i : Nat) {d : DefD} (h : fn[i]? = some d := by rfl) : ∃ fd, FunD K d.name d.qual d.params d.body d.scope (d.dvs K) (d.kws K) (He.fAd K d.at_) fd := Y.c.d.def_ i h
theorem Facts.more (Y : Facts fa fn ts ms w K mg) (i : Nat) {m : Frag → Bool} (h : ms[i]? = some m := by rfl) : m K = true := by
  have q := Y.m
  rw [Bool.and_eq_true] at q
  exact List.all_eq_true.mp q.2 m (List.mem_of_getElem? h)
theorem Facts.noL (Y : Facts fa fn ts ms w K mg) : noL K = true := by
  have q := Y.m
  rw [Bool.and_eq_true] at q
  exact q.1
/-- a field's classes -/
def attB (cs : List String) (f : String) (K : Frag) : Bool := cs.all fun c => (Fa.cls (Str.ofString c)).ok K && (Fa.noat (Str.ofString c) (Str.ofString f)).ok K
theorem att_ok {cs : List String} {f : String} (h : attB cs f K = true) : ∀ c ∈ cs, Cls K (ca K c) ∧ NoAttr K (ca K c) (Str.ofString f) := fun c hc => by
  have q := List.all_eq_true.mp h c hc
  rw [Bool.and_eq_true] at q
  exact ⟨He.cls_ok q.1, He.noat_ok q.2⟩
def kitC (cs : List String) (K : Frag) : Bool := kitB K cs
/-- a table of texts -/
def tabB (x : String) (tab : List (String × Int)) (K : Frag) : Bool := He.valsB K (He.ga K (Str.ofString x)) (tab.map fun q => (Str.ofString q.1, He.Dv.int q.2))
def tabT (x : String) (tab : List (String × Int)) : Tab := (fun K => He.ga K (Str.ofString x), tab.map fun q => Str.ofString q.1)
theorem Facts.tab (Y : Facts fa fn ts ms w K mg) {x : String} {tab : List (String × Int)} (i j k : Nat) (h1 : ts[i]? = some (tabT x tab) := by rfl) (h2 : ms[j]? = some (tabB x tab) := by rfl) (h3 : fa[k]? = some (.glo (Str.ofString x)) := by rfl) : TabOk K w mg (Str.ofString x) tab := by
  refine tab_ok ?_ (Y.more j h2) (Y.glo k h3)
  have e : ts.map (fun t => He.dicW K (t.1 K)) = ts.map fun t => some (He.keysIn w.params t.2) := congrArg (fun z : He.AlT => z.2) Y.c
  have e2 : (ts.map fun t => He.dicW K (t.1 K))[i]? = (ts.map fun t => some (He.keysIn w.params t.2))[i]? := by rw [e]
  rw [List.getElem?_map, List.getElem?_map, h1] at e2
  exact Option.some.inj e2
end
/-! ### the law's def -/
section
variable {P : Program} {w : World} {K : Frag} {mg : Str → Option Value} {k : Nat} {ow oN oB : Nat → Bool} {m : SM} {qual : Str} {params : Arguments} {body : List Stmt} {scope : Scope} {f : Addr} {N : List Str} {n : Nat}
theorem law_ok (F : ∃ fd, FunD K "law" qual params body scope [] [] f fd) (S : FnScope N ["script"] scope) (hnl : N.length = n) (hp : ow 0 = false)
    (hbind : ∀ (kV doc pm : Value) (an : Option Addr) (cdv ct : Value) (us : List Value), us.length = 1 → bindArgs (PySem.W.fnOf "law" qual params body scope .none kV doc pm an cdv ct) ⟨us, []⟩ = pure ((["script"] : List Str).zip us))
    (hb : ∀ (base : Heap) (cdv : Value) (A : Around) (outer : List PySem.Env) (s : Shared) (H : Hp) (E : XK), Ctx (cxOf (L2.CX P w) P w K mg base N qual scope f cdv A outer s H E) (WD E) k →
      PSs (cxOf (L2.CX P w) P w K mg base N qual scope f cdv A outer s H E) body (tS3 false K (WD E) ow oN oB m)) :
    ∃ fd : FuncData, (∀ (s : Shared) (u : Value), BindsTo s fd ⟨[u], []⟩ [("script", u)]) ∧ ∀ base : Heap, FnOk P w K mg base (L2.CX P w) (k + 1) f fd ["script"] (spM K 1 (fn 1 n m)) := by
  obtain ⟨fd, F⟩ := F
  subst hnl
  have b := FunD.bindsA (ps := ["script"]) F hbind
  exact ⟨fd, fun s v => b s [v] rfl, fun base => fn_ok F S (fun i hi => by
    have : i = 0 := by simpa using hi
    subst this
    exact hp) (hb base)⟩
theorem ints_rep {K : Frag} {A : AS} {H : Hp} : ∀ ns : List Int, RepL K A H (ns.map D.int) (ns.map V.int)
  | [] => by simp [RepL]
  | n :: ns => by
    simp only [List.map_cons, RepL]
    exact ⟨_, _, rfl, rfl, ints_rep ns⟩
/-- what escapes nothing can be handed out -/
theorem cx_none {P : Program} {w : World} {H : Hp} {s : Shared} {e : Value} {s' : Shared} (h : L2.CX P w [] H s (fun _ _ _ => False) e s') : False := by
  obtain ⟨a, B, H', cls, d, rfl, fl, hok, ub, na, os, ag, hE⟩ := h
  exact hE
open PyProof.Rows in
theorem walk_ofW {l : PySem.W.OpenLaw} {n k : Nat} {q : Program} {loose : List Str} {XP : (Str → Option Value) → Heap → Prop} {YP : World → Heap → Prop} {d : DefRec} {CX : World → CXT} {x : Str}
    (hn : l.most = some n) (hn2 : n ≤ sizeLine) (hdf : d.params.defaults = []) (hr : Room k callerA)
    (F : ∀ (w : World) (mg : Str → Option Value) (fa : Addr) (h : Heap), YP w h → h.Ns mainGlobals mg → mg d.name = some (.ref fa) →
      ∃ (K : PySem.W.Frag) (fd : FuncData) (sp : Sp), K.In h ∧ (∀ (s : Shared) (u : Value), BindsTo s fd ⟨[u], []⟩ [(x, u)]) ∧
        (∀ (H : Hp) (a : Addr) (ns : List Int), ns.length ≤ n → Only H → SqL K H a (ns.map V.int) → sp [.ref a] H (fun v _ => v = .bl true) fun _ _ _ => False) ∧
        ∀ base : Heap, K.In base → base.Ns mainGlobals mg → FnOk l.prog w K mg base (CX w) k fa fd [x] sp)
    (hCX : ∀ (w : World) (H : Hp) (s : Shared) (e : Value) (s' : Shared), CX w [] H s (fun _ _ _ => False) e s' → False) :
    PySem.W.WalkO q loose XP YP l.row.toRowW d [] (fun f vs => PySem.call f vs) := by
  refine Att.attach_call hn hdf fun w s₀ s₁ mg mb fa o pm cd doc a vs ns G Y ho hd hcd hmg hobj hints hlen hg => ?_
  obtain ⟨K, fd, sp, KX, hb, hsp, hF⟩ := F w mg fa _ Y G.T.g hmg
  exact law_call KX G.T.g G.T.b G.T.builtins G.T.nolimit hg hobj hints (Nat.le_trans hlen hn2) hr hF hb (fun H hO hS => hsp H a ns hlen hO hS) fun H e s' => hCX w H s₁ e s'
/-- what the law computes is True: the law holds -/
theorem sp_law {K : Frag} {fm : List D → Res D} (hL : noL K = true) {H : Hp} {a : Addr} {ns : List Int} (hm : fm [.lst (ns.map .int)] = .ok (.bl true)) (hS : SqL K H a (ns.map V.int)) :
    spM K 1 fm [.ref a] H (fun v _ => v = .bl true) fun _ _ _ => False := by
  refine ⟨fun _ => False, [.lst (ns.map .int)], ?_, rfl, fun _ h => h.elim, ?_⟩
  · simp only [RepL]
    refine ⟨_, _, rfl, ?_, rfl⟩
    simp only [Rep]
    exact ⟨a, _, rfl, id, sqL_rd hL hS, ints_rep ns⟩
  · rw [hm]
    exact fun v H' _ r => r
end
end Py

/-! Methods of own classes, zip, constants of the module, |=. -/
namespace Py
open PySem L2
open He (Fa DefD Tab)
/-! ### methods -/
structure MethOk (P : Program) (w : World) (K : Frag) (mg : Str → Option Value) (base : Heap) (k : Nat) (cls mn : String) (n : Nat) (fm : List D → Res D) : Prop where
  ex : ∃ f fd ps, Cls K (ca K cls) ∧ Meth K (ca K cls) (Str.ofString mn) f ∧ Binds K fd ps [] ∧ FnOk P w K mg base (L2.CX P w) k f fd ps (spM K n fm) ∧ Ar n fm
section
variable {X : Cx} {W : WX} {ow : Nat → Bool} {o e : Expr} {es : List Expr} {ma : EM} {am : AM} {pos apos : Pos} {k j n : Nat} {cls mn : String} {fm : List D → Res D}
theorem meth_of {C : Addr} {m : Str} {fm : List D → Res D} (hC : C = ca X.K cls) (hm : m = Str.ofString mn) (hn : Ar n fm) (hW : ∀ c d σ σ' H, W c d σ H → W c d σ' H) {σ : L2.St} {H : Hp} {Q : VK}
    (h : tE X.K W ow (callM cls mn fm ma am) σ H Q) : tMeth C m (spM X.K n fm) [] (fun c d H => ∀ σ, W c d σ H) (tE X.K W ow ma) (aE X.K W ow am) σ H Q := by
  subst hC hm
  obtain ⟨A, H0, O, en, R, q⟩ := h
  refine ⟨A, H0, O, en, R, (Out.bind q).good fun d q1 v H1 s1 r1 => ?_⟩
  cases d with
  | ins c' fs =>
    simp only at q1
    split at q1
    · rename_i hc
      obtain ⟨rfl, hl⟩ := hc
      obtain ⟨p, dx, fvs, rfl, na, q2, r2⟩ := (by simpa only [Rep] using r1 : ∃ a dx fvs, v = .ref a ∧ ¬ AO A O a ∧ H1 a = some (.ins (ca X.K c') dx fvs) ∧ RepF X.K (AO A O) H1 fs fvs)
      have lk := r2.look (f := mn)
      have hl2 : fs.lookup mn = none := Option.isNone_iff_eq_none.mp hl
      rw [hl2] at lk
      refine ⟨p, dx, fvs, rfl, q2, lk, A, H0, O, en, R.to s1, ((Out.bind q1).to s1).good fun ds q3 vs H2 s2 r3 => ?_⟩
      dsimp only
      rw [List.append_nil]
      refine ⟨AO A O, .ins c' fs :: ds, ?_, ?_, ((R.to s1).to s2).there, q3.imp (fun d _ k v H3 s3 r3 => k v H3 ((s1.trans s2).trans s3) r3) fun c fs2 z da H3 fvs2 s3 q4 r4 σ' => hW _ _ _ σ' _ (z da H3 fvs2 ((s1.trans s2).trans s3) q4 r4)⟩
      · simp only [RepL]
        exact ⟨_, vs, rfl, Rep.move (Mv.same s2) _ _ r1, paired_rep r3⟩
      · cases e : fm (.ins c' fs :: ds) with
        | ok d => exact hn.ok _ d e
        | exc c fs => exact hn.ex _ c fs e
        | stuck =>
          rw [e] at q3
          exact q3.elim
    · exact q1.elim
  | _ => exact q1.elim
theorem x_meth {pl : Sem Bool} {m : Str} (hm : m = Str.ofString mn) (T : Ctx X W j) (C : MethOk X.prog X.w X.K X.mg X.base k cls mn n fm) (hk : k ≤ j) (hW : ∀ c d σ σ' H, W c d σ H → W c d σ' H) (ho : PE X o (tE X.K W ow ma)) (ha : PA X (e :: es) (aE X.K W ow am))
    (hst : starEach (e :: es) X.env = (false, eval e X.env) :: starEach es X.env := by rfl) (hpl : (backTo pos (starEach es X.env)).any (·.1) = false := by rfl)
    (ht : eval (.Call (.Attribute o m apos) (e :: es) [] pos) X.env = (do
      let ov ← eval o X.env
      standAt apos.atName
      let (f, first) ← holding [ov] (getMethod ov m pl)
      callWith pos f first (backTo pos (starEach (e :: es) X.env)) (backToKw pos (keywordEach [] X.env))) := by rfl) :
    PE X (.Call (.Attribute o m apos) (e :: es) [] pos) (tE X.K W ow (callM cls mn fm ma am)) := by
  obtain ⟨f, fd, ps, h1, h2, h3, h4, h5⟩ := C.ex
  subst hm
  exact PE.of (pe_meth (E := fun c d H => ∀ σ, W c d σ H) ho h1 h2 h4 (T.hr.mono hk) h3 .nil (passes_call T.tk fun c d σ H h => h σ) ha hst hpl ht) fun σ H Q h => meth_of rfl rfl h5 hW h
theorem x_meth0 {pl : Sem Bool} {m : Str} (hm : m = Str.ofString mn) (T : Ctx X W j) (C : MethOk X.prog X.w X.K X.mg X.base k cls mn n fm) (hk : k ≤ j) (hW : ∀ c d σ σ' H, W c d σ H → W c d σ' H) (ho : PE X o (tE X.K W ow ma))
    (ht : eval (.Call (.Attribute o m apos) [] [] pos) X.env = (do
      let ov ← eval o X.env
      standAt apos.atName
      let (f, first) ← holding [ov] (getMethod ov m pl)
      callWith pos f first (backTo pos (starEach [] X.env)) (backToKw pos (keywordEach [] X.env))) := by rfl) :
    PE X (.Call (.Attribute o m apos) [] [] pos) (tE X.K W ow (callM cls mn fm ma argN)) := by
  obtain ⟨f, fd, ps, h1, h2, h3, h4, h5⟩ := C.ex
  subst hm
  refine PE.of (pe_meth0 (E := fun c d H => ∀ σ, W c d σ H) ho h1 h2 h4 (T.hr.mono hk) h3 .nil (passes_call T.tk fun c d σ H h => h σ) ht) fun σ H Q h => ?_
  obtain ⟨A, H0, O, en, R, q⟩ := meth_of (C := ca X.K cls) rfl rfl h5 hW h
  refine ⟨A, H0, O, en, R, q.good fun d k v H1 s1 r1 => ?_⟩
  obtain ⟨a, dx, fs, e1, e2, e3, A1, H01, O1, en1, R1, q1⟩ := k v H1 s1 r1
  exact ⟨a, dx, fs, e1, e2, e3, q1 [] H1 (Same.refl H1) .nil⟩
end
section
variable {P : Program} {w : World} {K : Frag} {mg : Str → Option Value} {base : Heap} {k : Nat} {ow oN oB : Nat → Bool} {m : SM} {f : Addr} {N ps : List Str} {p n : Nat} {cls mn : String}
theorem meth_def {d : He.DefD} (F : ∃ fd, FunD K d.name d.qual d.params d.body d.scope [] [] f fd) (hc : Cls K (ca K cls)) (hme : Meth K (ca K cls) (Str.ofString mn) f) (S : FnScope N ps d.scope) (hpl : ps.length = p) (hnl : N.length = n) (hp : ∀ i, i < p → ow i = false)
    (hbind : ∀ (kV doc pm : Value) (an : Option Addr) (cdv ct : Value) (us : List Value), us.length = ps.length → bindArgs (PySem.W.fnOf d.name d.qual d.params d.body d.scope .none kV doc pm an cdv ct) ⟨us, []⟩ = pure (ps.zip us))
    (hb : ∀ (cdv : Value) (A : Around) (outer : List PySem.Env) (s : Shared) (H : Hp) (E : XK), Ctx (cxOf (L2.CX P w) P w K mg base N d.qual d.scope f cdv A outer s H E) (WD E) k →
      PSs (cxOf (L2.CX P w) P w K mg base N d.qual d.scope f cdv A outer s H E) d.body (tS3 false K (WD E) ow oN oB m)) : MethOk P w K mg base (k + 1) cls mn p (fn p n m) := by
  obtain ⟨fd, F⟩ := F
  subst hpl hnl
  exact ⟨f, fd, ps, hc, hme, FunD.bindsN F hbind, fn_ok F S hp hb, ar_fn⟩
end
section
variable {fa : List Fa} {fn : List DefD} {ts : List Tab} {ms : List (Frag → Bool)} {w : World} {K : Frag} {mg : Str → Option Value}
theorem Facts.cls (Y : Facts fa fn ts ms w K mg) (i : Nat) {x : String} (h : fa[i]? = some (.cls (Str.ofString x)) := by rfl) : Cls K (ca K x) := He.cls_ok (Y.c.d.fact i h)
theorem Facts.meth (Y : Facts fa fn ts ms w K mg) (i : Nat) {x : String} {m : Str} (h : fa[i]? = some (.meth (Str.ofString x) m) := by rfl) : Meth K (ca K x) m (He.ma K (ca K x) m) := He.meth_ok (Y.c.d.fact i h)
theorem Facts.int (Y : Facts fa fn ts ms w K mg) (i : Nat) {x : Str} {z : Int} (h : fa[i]? = some (.int x z) := by rfl) : ∃ t, mg x = some (.int z t) := by
  obtain ⟨_, KX, G⟩ := Y.h
  exact He.int_ok KX G (Y.c.d.fact i h)
theorem Facts.str (Y : Facts fa fn ts ms w K mg) (i : Nat) {x z : Str} (h : fa[i]? = some (.str x z) := by rfl) : ∃ t, mg x = some (.str z t) := by
  obtain ⟨_, KX, G⟩ := Y.h
  exact He.str_ok KX G (Y.c.d.fact i h)
/-- a flat tuple of the module -/
def dvOf : D → Option He.Dv
  | .non => some .non
  | .bl b => some (.bl b)
  | .int i => some (.int i)
  | .str s => some (.str (Str.ofString s))
  | _ => none
def dvsOf : List D → List He.Dv
  | [] => []
  | d :: r => (dvOf d).getD .non :: dvsOf r
def tupC (x : String) (ds : List D) (K : Frag) : Bool := He.tupB K (Str.ofString x) (dvsOf ds)
theorem dv_rep {A : AS} {H : Hp} {d : D} (h : flatD d = true) : Rep K A H d (((dvOf d).getD .non).v K) := by
  cases d <;> first | rfl | cases h
theorem dvs_rep {A : AS} {H : Hp} : ∀ {ds : List D}, ds.all flatD = true → RepL K A H ds ((dvsOf ds).map (He.Dv.v K))
  | [], _ => by simp [RepL, dvsOf]
  | d :: ds, h => by
    simp only [List.all_cons, Bool.and_eq_true] at h
    simp only [dvsOf, List.map_cons, RepL]
    exact ⟨_, _, rfl, dv_rep h.1, dvs_rep h.2⟩
end
section
variable {X : Cx} {W : WX} {ow : Nat → Bool} {x : Str} {pos : Pos}
theorem x_gint {i : Int} (hg : Gl X x) (hm : ∃ t, X.mg x = some (.int i t)) (hd : (x == ("__debug__" : Str)) = false := by decide) : PE X (.Name x pos) (tE X.K W ow (cst (.int i))) := by
  obtain ⟨t, hm⟩ := hm
  exact x_cst (v := .int i) (pe_glob hg hm ⟨t, rfl⟩ hd) rfl
theorem x_gstr {s : String} (hg : Gl X x) (hm : ∃ t, X.mg x = some (.str (Str.ofString s) t)) (hd : (x == ("__debug__" : Str)) = false := by decide) : PE X (.Name x pos) (tE X.K W ow (cst (.str s))) := by
  obtain ⟨t, hm⟩ := hm
  exact x_cst (v := .str (Str.ofString s)) (pe_glob hg hm ⟨t, rfl⟩ hd) rfl
theorem x_gtup {y : String} {ds : List D} (hy : x = Str.ofString y) (hg : Gl X x) (hm : X.mg x = some (.ref (He.ga X.K x))) (hc : tupC y ds X.K = true) (hf : ds.all flatD = true) (hd : (x == ("__debug__" : Str)) = false := by decide) : PE X (.Name x pos) (tE X.K W ow (cst (.tup ds))) := by
  subst hy
  refine PE.of (pe_glob (v := .ref (He.ga X.K (Str.ofString y))) hg hm rfl hd) fun σ H Q ⟨A, H0, O, en, R, q⟩ => ?_
  refine q _ H (Same.refl H) ?_
  simp only [Rep]
  exact ⟨_, _, rfl, He.tupB_ok hc H, dvs_rep hf⟩
end
/-! ### another name of a def -/
def aliasB (y x : String) (K : Frag) : Bool := decide (He.ga K (Str.ofString y) = He.ga K (Str.ofString x))
theorem CallOk.alias {P : Program} {w : World} {K : Frag} {mg : Str → Option Value} {base : Heap} {k n : Nat} {x y : String} {d : He.DefD} {ps : List Str} {fm : List D → Res D} (C : CallOk P w K mg base k (Str.ofString x) d ps n fm) (h : aliasB y x K = true)
    (gx : mg (Str.ofString x) = some (.ref (He.ga K (Str.ofString x)))) (gy : mg (Str.ofString y) = some (.ref (He.ga K (Str.ofString y)))) : CallOk P w K mg base k (Str.ofString y) d ps n fm := by
  obtain ⟨f, fd, h1, h2⟩ := C
  have e : He.ga K (Str.ofString y) = He.ga K (Str.ofString x) := of_decide_eq_true h
  exact ⟨f, fd, by rw [gy, e, ← gx, h1], h2⟩
/-! ### zip -/
theorem zip_item {K : Frag} {A : AS} {H : Hp} {T : Addr} {d e : D} {v u : V} (hn : H T = none) (r : Rep K A H d v) (q : Rep K A H e u) : Same H (upd H T (.tup [v, u])) ∧ Rep K A (upd H T (.tup [v, u])) (.tup [d, e]) (.ref T) := by
  refine ⟨new_same hn, new_tup ?_ hn⟩
  simp only [RepL]
  exact ⟨_, _, rfl, r, _, [], rfl, q, rfl⟩
theorem zip_get {α β γ : Type} {f : α × β → γ} {xs : List α} {ys : List β} {i : Nat} {x : α} {y : β} (h1 : xs[i]? = some x) (h2 : ys[i]? = some y) : ((xs.zip ys).map f)[i]? = some (f (x, y)) := by
  rw [List.getElem?_map, (List.getElem?_zip_eq_some (z := (x, y))).mpr ⟨h1, h2⟩]
  rfl
/-! ### x |= y -/
section
variable {X : Cx}
theorem ip_or : PIp X .BitOr (ipI fun i j => Builtin.bitOr i j) := by
  intro pins s σ H x y v u Q I r1 r2 h
  obtain ⟨i, j, e1, e2, q⟩ := h
  subst e1; subst e2
  obtain ⟨t, rfl⟩ := r1
  obtain ⟨t', rfl⟩ := r2
  exact PyProof.Rows.ior_int ⟨.int _, H, I.tok _, ⟨_, rfl⟩, q⟩
theorem ip_xor : PIp X .BitXor (ipI fun i j => Builtin.bitXor i j) := by
  intro pins s σ H x y v u Q I r1 r2 h
  obtain ⟨i, j, e1, e2, q⟩ := h
  subst e1; subst e2
  obtain ⟨t, rfl⟩ := r1
  obtain ⟨t', rfl⟩ := r2
  exact PyProof.Rows.ixor_int ⟨.int _, H, I.tok _, ⟨_, rfl⟩, q⟩
theorem ip_and : PIp X .BitAnd (ipI fun i j => Builtin.bitAnd i j) := by
  intro pins s σ H x y v u Q I r1 r2 h
  obtain ⟨i, j, e1, e2, q⟩ := h
  subst e1; subst e2
  obtain ⟨t, rfl⟩ := r1
  obtain ⟨t', rfl⟩ := r2
  exact PyProof.Rows.iand_int ⟨.int _, H, I.tok _, ⟨_, rfl⟩, q⟩
end
theorem h_ior {K : Frag} : ∀ x y H Q, r2 K oior x y H Q → ipI (fun i j => Builtin.bitOr i j) x y H Q := fun x y H Q ⟨A, d1, d2, d, h1, h2, _, e, k⟩ => by
  cases d1 <;> cases d2 <;> simp only [oior, Res.ok.injEq, reduceCtorEq] at e
  subst e
  exact ⟨_, _, h1, h2, k _ H (Same.refl H) (flat_rep (d := .int _) rfl _ _)⟩
theorem h_ixor {K : Frag} : ∀ x y H Q, r2 K oixor x y H Q → ipI (fun i j => Builtin.bitXor i j) x y H Q := fun x y H Q ⟨A, d1, d2, d, h1, h2, _, e, k⟩ => by
  cases d1 <;> cases d2 <;> simp only [oixor, Res.ok.injEq, reduceCtorEq] at e
  subst e
  exact ⟨_, _, h1, h2, k _ H (Same.refl H) (flat_rep (d := .int _) rfl _ _)⟩
theorem h_iand {K : Frag} : ∀ x y H Q, r2 K oiand x y H Q → ipI (fun i j => Builtin.bitAnd i j) x y H Q := fun x y H Q ⟨A, d1, d2, d, h1, h2, _, e, k⟩ => by
  cases d1 <;> cases d2 <;> simp only [oiand, Res.ok.injEq, reduceCtorEq] at e
  subst e
  exact ⟨_, _, h1, h2, k _ H (Same.refl H) (flat_rep (d := .int _) rfl _ _)⟩
theorem n_ior : NoEx2 oior := fun x y c fs => by cases x <;> cases y <;> exact fun z => nomatch z
theorem n_ixor : NoEx2 oixor := fun x y c fs => by cases x <;> cases y <;> exact fun z => nomatch z
theorem n_iand : NoEx2 oiand := fun x y c fs => by cases x <;> cases y <;> exact fun z => nomatch z
end Py

namespace Py
open PySem PySem.Spec PyProof.Rows L2
/-! ### zip over any two of lists and tuples: k = true: a tuple -/
def IAt (k : Bool) (h : Heap) (it l : Addr) (i : Nat) : Prop := match k with | true => h.IsTupleIter it l i | false => h.IsListIter it l i
def SAt (k : Bool) (h : Heap) (l : Addr) (xs : Array Value) : Prop := match k with | true => h.IsTuple l xs | false => h.IsList l xs
def icls (k : Bool) : String := match k with | true => "tuple_iterator" | false => "list_iterator"
theorem IAt.up {k : Bool} {h h' : Heap} {it l : Addr} {i : Nat} (x : IAt k h it l i) (e : ∀ o, h.get? it = some o → h'.get? it = some o) : IAt k h' it l i := by
  cases k with
  | true => exact Heap.IsTupleIter.at x e
  | false => exact Heap.IsListIter.at x e
theorem SAt.up {k : Bool} {h h' : Heap} {l : Addr} {xs : Array Value} (x : SAt k h l xs) (e : ∀ o, h.get? l = some o → h'.get? l = some o) : SAt k h' l xs := by
  cases k with
  | true => obtain ⟨o, ho, r⟩ := x; exact ⟨o, e _ ho, r⟩
  | false => obtain ⟨o, ho, r⟩ := x; exact ⟨o, e _ ho, r⟩
theorem IAt.some {k : Bool} {h : Heap} {it l : Addr} {i : Nat} (x : IAt k h it l i) : ∃ o, h.get? it = some o ∧ ∀ v, o.data ≠ .cell v := by
  cases k with
  | true => obtain ⟨o, ho, _, d⟩ := x; exact ⟨o, ho, fun v q => by rw [d] at q; cases q⟩
  | false => obtain ⟨o, ho, _, d⟩ := x; exact ⟨o, ho, fun v q => by rw [d] at q; cases q⟩
section
variable {prog : Program} {w : World} {A : Around} {E : Value → Shared → Prop} {s : Shared}
theorem draw1 {k : Bool} {it l : Addr} {i : Nat} {xs : Array Value} {x : Value} {Q : Value → Shared → Prop} (a : IAt k s.heap it l i) (b : SAt k s.heap l xs) (hx : xs[i]? = some x)
    (q : ∀ h', IAt k h' it l (i + 1) → Heap.SameBut it s.heap h' → Q x { s with heap := h' }) : wpAny (model prog w) A (Builtin.SmallTypes.nextOf (.ref it)) Q E s := by
  cases k with
  | true => exact RZ.nextOf_tuple_item a b hx q
  | false => exact wpAny_nextOf_list_item a b hx q
theorem draw0 {k : Bool} {it l : Addr} {i : Nat} {xs : Array Value} {Q : Value → Shared → Prop} (hh : A.handled = none) (a : IAt k s.heap it l i) (b : SAt k s.heap l xs) (hx : xs[i]? = none)
    (q : ∀ h' e, Heap.ExtBut it s.heap h' → (∃ o, h'.get? e = some o ∧ o.cls = .type "StopIteration") → E (.ref e) { s with heap := h' }) : wpAny (model prog w) A (Builtin.SmallTypes.nextOf (.ref it)) Q E s := by
  cases k with
  | true => exact RZ.nextOf_tuple_end hh a b hx q
  | false => exact wpAny_nextOf_list_end hh a b hx q
theorem bfield {α : Type} {a : Addr} {o : Obj} {vs : Array Value} {n : Nat} {x : Value} {f : Value → Sem α} {Q : α → Shared → Prop} (ho : s.heap.get? a = some o) (hd : o.data = .fields vs) (hi : vs[n]? = some x) (h : wpAny (model prog w) A (f x) Q E s) : wpAny (model prog w) A (field (.ref a) n >>= f) Q E s := wpAny_bind (wpAny_field ho hd hi h)
/-- what stays while a zip draws -/
def Rest (z TO i1 i2 : Addr) (h h' : Heap) : Prop := ∀ c o, c ≠ z → c ≠ TO → c ≠ i1 → c ≠ i2 → h.get? c = some o → h'.get? c = some o
theorem zip_turn {k1 k2 : Bool} {z TI TO i1 i2 l1 l2 : Addr} {n1 n2 : Nat} {xs ys : Array Value} {a b : Value} {Q : Value → Shared → Prop} (hh : A.handled = none) (D : ZipApart z TI TO i1 i2 l1 l2)
    (hz : IsZip s.heap z TI TO .none) (hTI : IsPair s.heap TI (.ref i1) (.ref i2)) (hTO : IsPair s.heap TO a b) (j1 : IAt k1 s.heap i1 l1 n1) (j2 : IAt k2 s.heap i2 l2 n2) (q1 : SAt k1 s.heap l1 xs) (q2 : SAt k2 s.heap l2 ys)
    (hI : ∀ x y h', xs[n1]? = some x → ys[n2]? = some y → IsZip h' z TI TO (rawInt s.heap.objs.size) → IsPair h' TO x y → IAt k1 h' i1 l1 (n1 + 1) → IAt k2 h' i2 l2 (n2 + 1) → IsPair h' s.heap.objs.size x y → Rest z TO i1 i2 s.heap h' → Q (.ref s.heap.objs.size) { s with heap := h' })
    (hE : ∀ h' e, xs[n1]? = none ∨ ys[n2]? = none → Rest z TO i1 i2 s.heap h' → (∃ o, h'.get? e = some o ∧ o.cls = .type "StopIteration") → E (.ref e) { s with heap := h' }) :
    wpAny (model prog w) A (Builtin.«zip.__next__» ⟨[.ref z], []⟩) (fun fin s' => ∃ v, fin = .done (.ret v) ∧ Q v s') E s := by
  change wpAny _ _ (field _ _ >>= _) _ _ _
  refine bfield hz rfl (x := .bool false) rfl ?_
  change wpAny _ _ (field _ _ >>= _) _ _ _
  refine bfield hz rfl (x := .ref TI) rfl (wpAny_bind (wpAny_seqItems hTI rfl ?_))
  change wpAny _ _ (Builtin.SmallTypes.ownedTupleIsFree _ >>= _) _ _ _
  delta Builtin.SmallTypes.ownedTupleIsFree
  refine wpAny_bind (bfield hz rfl (x := .none) rfl (wpAny_pure ?_))
  rw [if_pos rfl]
  refine wpAny_bind (wpAny_rule (bfield hz rfl (x := .ref TO) rfl (wpAny_bind (wpAny_setField_rec hz (by simp) fun u1 c1 b1 => wpAny_bind ?_))))
  replace c1 : IsZip u1 z TI TO .ellipsis := c1
  have e1 := b1.extBut
  rw [show (#[Value.ref i1, .ref i2] : Array Value).toList.zipIdx = [(.ref i1, 0), (.ref i2, 1)] from rfl]
  rw [List.forIn_cons]
  refine wpAny_bind (wpAny_bind (wpAny_onRaise ?_))
  change wpAny _ _ (Builtin.SmallTypes.nextOf _ >>= _) _ _ _
  have j1a : IAt k1 u1 i1 l1 n1 := j1.up fun o q => e1 _ _ D.i1z q
  have q1a : SAt k1 u1 l1 xs := q1.up fun o q => e1 _ _ D.l1z q
  cases hx : xs[n1]? with
  | none =>
    refine wpAny_bind (draw0 hh j1a q1a hx fun u2 e b2 ⟨oe, he, ce⟩ => ?_)
    have c2 : IsZip u2 z TI TO .ellipsis := b2 _ _ D.i1z.symm c1
    have ne : e ≠ z := fun q => by
      rw [q, c2] at he
      cases he
      simp at ce
    exact wpAny_setField_rec c2 (by simp) fun u3 _ b3 => hE u3 e (.inl hx) (fun c o n1 n2 n3 n4 q => b3.extBut _ _ n1 (b2 _ _ n3 (e1 _ _ n1 q))) ⟨oe, b3.extBut _ _ ne he, ce⟩
  | some x =>
    refine wpAny_bind (draw1 j1a q1a hx fun u2 j1b b2 => wpAny_pure ?_)
    have e2 := b2.extBut
    have t2 : IsPair u2 TO a b := e2 _ _ D.TOi1 (e1 _ _ D.TOz hTO)
    refine wpAny_bind (wpAny_seqItems t2 rfl (wpAny_bind (wpAny_updateSeq_pair t2 fun u3 t3 b3 => wpAny_bind (wpAny_letGo (wpAny_pure ?_)))))
    replace t3 : IsPair u3 TO x b := t3
    have e3 := b3.extBut
    dsimp only
    rw [List.forIn_cons]
    refine wpAny_bind (wpAny_bind (wpAny_onRaise ?_))
    change wpAny _ _ (Builtin.SmallTypes.nextOf _ >>= _) _ _ _
    have j2a : IAt k2 u3 i2 l2 n2 := j2.up fun o q => e3 _ _ D.TOi2.symm (e2 _ _ D.i12.symm (e1 _ _ D.i2z q))
    have q2a : SAt k2 u3 l2 ys := q2.up fun o q => e3 _ _ D.l2TO (e2 _ _ D.l2i1 (e1 _ _ D.l2z q))
    cases hy : ys[n2]? with
    | none =>
      refine wpAny_bind (draw0 hh j2a q2a hy fun u4 e b4 ⟨oe, he, ce⟩ => ?_)
      have c4 : IsZip u4 z TI TO .ellipsis := b4 _ _ D.i2z.symm (e3 _ _ D.TOz.symm (e2 _ _ D.i1z.symm c1))
      have ne : e ≠ z := fun q => by
        rw [q, c4] at he
        cases he
        simp at ce
      exact wpAny_setField_rec c4 (by simp) fun u5 _ b5 => hE u5 e (.inr hy) (fun c o n1 n2 n3 n4 q => b5.extBut _ _ n1 (b4 _ _ n4 (e3 _ _ n2 (e2 _ _ n3 (e1 _ _ n1 q))))) ⟨oe, b5.extBut _ _ ne he, ce⟩
    | some y =>
      refine wpAny_bind (draw1 j2a q2a hy fun u4 j2b b4 => wpAny_pure ?_)
      have e4 := b4.extBut
      have t4 : IsPair u4 TO x b := e4 _ _ D.TOi2 t3
      refine wpAny_bind (wpAny_seqItems t4 rfl (wpAny_bind (wpAny_updateSeq_pair t4 fun u5 t5 b5 => wpAny_bind (wpAny_letGo (wpAny_pure ?_)))))
      replace t5 : IsPair u5 TO x y := t5
      have e5 := b5.extBut
      dsimp only
      rw [List.forIn_nil]
      refine wpAny_pure (wpAny_bind (wpAny_seqItems t5 rfl (wpAny_bind (wpAny_newTuple ?_))))
      have sz : u5.objs.size = s.heap.objs.size := by rw [b5.1, b4.1, b3.1, b2.1, b1.1]
      have c5 : IsZip u5 z TI TO .ellipsis := e5 _ _ D.TOz.symm (e4 _ _ D.i2z.symm (e3 _ _ D.TOz.symm (e2 _ _ D.i1z.symm c1)))
      have r5 : Rest z TO i1 i2 s.heap u5 := fun c o n1 n2 n3 n4 q => e5 _ _ n2 (e4 _ _ n4 (e3 _ _ n2 (e2 _ _ n3 (e1 _ _ n1 q))))
      have j1c : IAt k1 u5 i1 l1 (n1 + 1) := j1b.up fun o q => e5 _ _ D.TOi1.symm (e4 _ _ D.i12 (e3 _ _ D.TOi1.symm q))
      have j2c : IAt k2 u5 i2 l2 (n2 + 1) := j2b.up fun o q => e5 _ _ D.TOi2.symm q
      have zl : z < u5.objs.size := Heap.lt_size c5
      change wpAny _ _ (Builtin.SmallTypes.ownedTupleHandOut _ (.ref u5.objs.size) >>= _) _ _ _
      delta Builtin.SmallTypes.ownedTupleHandOut
      have c6 : IsZip (u5.push { cls := .type "tuple", data := .seq #[x, y] }) z TI TO .ellipsis := Heap.get?_push_of_some _ c5
      refine wpAny_bind (wpAny_bind (wpAny_setField_rec c6 (by simp) fun u7 c7 b7 => ?_))
      replace c7 : IsZip u7 z TI TO (rawInt u5.objs.size) := c7
      refine wpAny_setField_rec c7 (by simp) fun u8 c8 b8 => wpAny_pure ⟨_, rfl, ?_⟩
      replace c8 : IsZip u8 z TI TO (rawInt u5.objs.size) := c8
      have up : ∀ c o, c ≠ z → u5.get? c = some o → u8.get? c = some o := fun c o n1 q => b8.extBut _ _ n1 (b7.extBut _ _ n1 (Heap.get?_push_of_some _ q))
      have t8 : IsPair u8 u5.objs.size x y := b8.extBut _ _ (Nat.ne_of_gt zl) (b7.extBut _ _ (Nat.ne_of_gt zl) (Heap.get?_push_size _ rfl))
      rw [sz] at c8 t8
      change Q (.ref u5.objs.size) _
      rw [sz]
      exact hI x y u8 hx hy c8 (up _ _ D.TOz t5) (j1c.up fun o q => up _ o D.i1z q) (j2c.up fun o q => up _ o D.i2z q) t8 fun c o n1 n2 n3 n4 q => up c o n1 (r5 c o n1 n2 n3 n4 q)
theorem zip_next {k1 k2 : Bool} {z TI TO i1 i2 l1 l2 : Addr} {n1 n2 : Nat} {xs ys : Array Value} {a b : Value} {Q : Option Value → Shared → Prop} (hh : A.handled = none) (D : ZipApart z TI TO i1 i2 l1 l2)
    (hz : IsZip s.heap z TI TO .none) (hTI : IsPair s.heap TI (.ref i1) (.ref i2)) (hTO : IsPair s.heap TO a b) (j1 : IAt k1 s.heap i1 l1 n1) (j2 : IAt k2 s.heap i2 l2 n2) (q1 : SAt k1 s.heap l1 xs) (q2 : SAt k2 s.heap l2 ys)
    (hI : ∀ x y h', xs[n1]? = some x → ys[n2]? = some y → IsZip h' z TI TO (rawInt s.heap.objs.size) → IsPair h' TO x y → IAt k1 h' i1 l1 (n1 + 1) → IAt k2 h' i2 l2 (n2 + 1) → IsPair h' s.heap.objs.size x y → Rest z TO i1 i2 s.heap h' → Q (some (.ref s.heap.objs.size)) { s with heap := h' })
    (hE : ∀ h', xs[n1]? = none ∨ ys[n2]? = none → Rest z TO i1 i2 s.heap h' → Q none { s with heap := h' }) : wpAny (model prog w) A (pyNext (.ref z)) Q E s := by
  have ty : s.TypeIs (.ref z) "zip" := ⟨_, hz, rfl⟩
  delta pyNext
  refine wpAny_bind (wpAny_attempt (wpAny_callSpecial?_slot (name := Str.ofString "__next__") ty F.slot_zip_next (wpAny_call_entry F.slot_zip_next ty F.entry_zip_next ?_ (F.args_zip_next_1 _))))
  refine zip_turn hh D hz hTI hTO j1 j2 q1 q2 (fun x y h' a1 a2 a3 a4 a5 a6 a7 a8 => wpAny_pure (hI x y h' a1 a2 a3 a4 a5 a6 a7 a8)) fun h' e he r ⟨o, ho, hc⟩ => ?_
  exact wpAny_bind (wpAny_isInstance (T := "StopIteration") (b := true) ⟨o, ho, hc⟩ isSubtype_stop (wpAny_pure (hE h' he r)))
theorem iter_new {k : Bool} {l : Addr} {xs : Array Value} {Q : Value → Shared → Prop} (q : SAt k s.heap l xs) (h : Q (.ref s.heap.objs.size) { s with heap := s.heap.push { cls := .type (icls k), data := .fields #[.ref l, .int 0 0] } }) : wpAny (model prog w) A (pyIter (.ref l)) Q E s := by
  cases k with
  | true => exact wpAny_pyIter_tuple q h
  | false => exact wpAny_pyIter_list q h
end
abbrev zi (k : Bool) (l : Addr) : Obj := { cls := .type (icls k), data := .fields #[.ref l, .int 0 0] }
abbrev zo (n : Nat) : Obj := { cls := .type "zip", data := .fields #[.none, .bool false, .bool false, .ref (n + 2), .ref (n + 3)] }
abbrev zt (x y : Value) : Obj := { cls := .type "tuple", data := .seq #[x, y] }
abbrev zh (k1 k2 : Bool) (h : Heap) (l1 l2 : Addr) : Heap :=
  let a := h.push (zi k1 l1)
  let b := a.push (zi k2 l2)
  let c := b.push (zt (.ref h.objs.size) (.ref a.objs.size))
  let d := c.push (zt .none .none)
  d.push { cls := .type "zip", data := .fields #[.none, .bool false, .bool false, .ref b.objs.size, .ref c.objs.size] }
theorem meets_zip2 (k1 k2 : Bool) (l1 l2 : Addr) (xs ys : Array Value) : Meets (Builtin.«zip.__new__» ⟨[.type "zip", .ref l1, .ref l2], []⟩) (fun _ R s => SAt k1 s.heap l1 xs ∧ SAt k2 s.heap l2 ys ∧ R (.ok (.ret (.ref (s.heap.objs.size + 1 + 1 + 1 + 1)))) { s with heap := zh k1 k2 s.heap l1 l2 }) := .of_wp fun prog w A R s h => by
  obtain ⟨hp, g, d, tk, os⟩ := s
  obtain ⟨q1, q2, h⟩ := h
  have sub := sub_zip
  have p1 : SAt k1 (Shared.heap ⟨hp, g, d, tk, os⟩) l1 xs := q1
  have p2 : SAt k2 (Shared.heap ⟨hp.push (zi k1 l1), g, d, tk, os⟩) l2 ys := q2.up fun o e => Heap.get?_push_of_some _ e
  wp_walk using iter_new p1, iter_new p2
  exact ⟨_, by simp only [Heap.size_push], h⟩
section
variable {prog : Program} {w : World} {A : Around} {E : Value → Shared → Prop} {s : Shared}
theorem zip_call {k1 k2 : Bool} {l1 l2 : Addr} {xs ys : Array Value} {Q : Value → Shared → Prop} (q1 : SAt k1 s.heap l1 xs) (q2 : SAt k2 s.heap l2 ys)
    (h : ∀ h' n, n = s.heap.objs.size → IsZip h' (n + 4) (n + 2) (n + 3) .none → IsPair h' (n + 2) (.ref n) (.ref (n + 1)) → IsPair h' (n + 3) .none .none → IAt k1 h' n l1 0 → IAt k2 h' (n + 1) l2 0 → (∀ c o, s.heap.get? c = some o → h'.get? c = some o) → Q (.ref (n + 4)) { s with heap := h' }) :
    wpAny (model prog w) A (PySem.call (.type "zip") [.ref l1, .ref l2]) Q E s := by
  refine callType_new F.called_zip (by decide) (F.typeCall_zip_2 _ _) (F.newCall_zip_2 _ _) (fun obj => F.args_object_init_3 obj _ _) F.entry_zip_new (meets_zip2 k1 k2 l1 l2 xs ys) ⟨q1, q2, ?_⟩
  have g : ∀ (h : Heap) (o : Obj) (n : Nat), h.objs.size = n → Obj.isFreed o = false → (h.push o).get? n = some o := fun h o n e f => by
    rw [← e]
    exact Heap.get?_push_size _ f
  have up : ∀ {h : Heap} {o p : Obj} {n : Nat}, h.get? n = some p → (h.push o).get? n = some p := fun e => Heap.get?_push_of_some _ e
  have i1 : ∀ (k : Bool) (l : Addr), Obj.isFreed (zi k l) = false := fun k l => rfl
  generalize hn : s.heap.objs.size = n
  have g5 : (zh k1 k2 s.heap l1 l2).get? (n + 4) = some (zo n) := by
    have := g ((((s.heap.push (zi k1 l1)).push (zi k2 l2)).push (zt (.ref n) (.ref (n + 1)))).push (zt .none .none)) (zo n) (n + 4) (by simp only [Heap.size_push, hn]) rfl
    unfold zh
    simp only [Heap.size_push, hn]
    exact this
  have g4 : (zh k1 k2 s.heap l1 l2).get? (n + 3) = some (zt .none .none) := up (g _ _ _ (by simp only [Heap.size_push, hn]) rfl)
  have g3 : (zh k1 k2 s.heap l1 l2).get? (n + 2) = some (zt (.ref n) (.ref (n + 1))) := by
    have := g ((s.heap.push (zi k1 l1)).push (zi k2 l2)) (zt (.ref n) (.ref (n + 1))) (n + 2) (by simp only [Heap.size_push, hn]) rfl
    refine up (up ?_)
    simpa only [Heap.size_push, hn] using this
  have g2 : (zh k1 k2 s.heap l1 l2).get? (n + 1) = some (zi k2 l2) := up (up (up (g _ _ _ (by simp only [Heap.size_push, hn]) (i1 k2 l2))))
  have g1 : (zh k1 k2 s.heap l1 l2).get? n = some (zi k1 l1) := up (up (up (up (g _ _ _ hn (i1 k1 l1)))))
  refine ⟨⟨_, g5, rfl⟩, h _ n hn.symm g5 g3 g4 ?_ ?_ fun c o x => up (up (up (up (up x))))⟩
  · cases k1 with
    | true => exact ⟨_, g1, rfl, rfl⟩
    | false => exact ⟨_, g1, rfl, rfl⟩
  · cases k2 with
    | true => exact ⟨_, g2, rfl, rfl⟩
    | false => exact ⟨_, g2, rfl, rfl⟩
end
/-! the turn -/
def SqK (k : Bool) (K : Frag) (H : Hp) (a : Addr) (xs : List V) : Prop := match k with | true => SqT K H a xs | false => SqL K H a xs
theorem SqK.at {k : Bool} {X : Cx} {pins : List (Addr × Obj)} {σ : L2.St} {H : Hp} {s : Shared} {a : Addr} {xs : List V} (I : Inv X pins σ H s) (q : SqK k X.K H a xs) : ∃ its, Vals xs its ∧ SAt k s.heap a its.toArray ∧ a < s.heap.objs.size := by
  cases k with
  | true =>
    obtain ⟨its, r, p, _⟩ := I.tuple q
    obtain ⟨o, ho, _⟩ := id p
    exact ⟨its, r, p, Heap.lt_size ho⟩
  | false =>
    obtain ⟨its, r, p, _⟩ := I.list q
    exact ⟨its, r, p.isList, p.lt⟩
theorem SqK.inj {k : Bool} {X : Cx} {pins : List (Addr × Obj)} {σ : L2.St} {H : Hp} {s : Shared} {a : Addr} {xs ys : List V} (I : Inv X pins σ H s) (q : SqK k X.K H a xs) (q' : SqK k X.K H a ys) : xs = ys := by
  cases k with
  | true => exact I.tuple_inj q q'
  | false => exact I.list_inj q q'
def Itq (K : Frag) (k1 k2 : Bool) (a b : Addr) : It :=
  ⟨fun i H => ∃ (xs ys : List V) (x y : V), SqK k1 K H a xs ∧ SqK k2 K H b ys ∧ xs[i]? = some x ∧ ys[i]? = some y,
   fun i H v H' => ∃ T x y, v = .ref T ∧ H T = none ∧ H' = upd H T (.tup [x, y]) ∧ (∀ xs, SqK k1 K H a xs → xs[i]? = some x) ∧ ∀ ys, SqK k2 K H b ys → ys[i]? = some y,
   fun i H => ∃ xs ys : List V, SqK k1 K H a xs ∧ SqK k2 K H b ys ∧ (xs.length ≤ i ∨ ys.length ≤ i)⟩
theorem zip_Turn {P : Program} {w : World} {K : Frag} {elts : List Expr} {kk : Nat} {tpos : Pos} {k1 k2 : Bool} {a b z TI TO i1 i2 : Addr} (D : ZipApart z TI TO i1 i2 a b) :
    Turn P w K (.Tuple elts kk tpos) (Itq K k1 k2 a b) [z, TI, TO, i1, i2] z (fun i h => IsZip h z TI TO .none ∧ IsPair h TI (.ref i1) (.ref i2) ∧ (∃ x y, IsPair h TO x y) ∧ IAt k1 h i1 a i ∧ IAt k2 h i2 b i) := by
  have five : ∀ {c : Addr}, c ∈ [z, TI, TO, i1, i2] → c = z ∨ c = TI ∨ c = TO ∨ c = i1 ∨ c = i2 := fun {c} h => by simpa using h
  have nin : ∀ {c : Addr}, c ∉ [z, TI, TO, i1, i2] → c ≠ z ∧ c ≠ TO ∧ c ≠ i1 ∧ c ≠ i2 := fun {c} h => ⟨fun q => h (by simp [q]), fun q => h (by simp [q]), fun q => h (by simp [q]), fun q => h (by simp [q])⟩
  refine ⟨List.mem_cons_self, fun i h st c hc => ?_, fun i h h' st k => ?_, ?_, ?_, fun A i s Q E st h => wpAny_pyIter_zip st.1 h⟩
  · obtain ⟨hz, hTI, ⟨x, y, hTO⟩, h1, h2⟩ := st
    rcases five hc with rfl | rfl | rfl | rfl | rfl
    · exact ⟨_, hz, nofun⟩
    · exact ⟨_, hTI, nofun⟩
    · exact ⟨_, hTO, nofun⟩
    · exact h1.some
    · exact h2.some
  · obtain ⟨hz, hTI, ⟨x, y, hTO⟩, h1, h2⟩ := st
    exact ⟨k z (by simp) _ hz, k TI (by simp) _ hTI, ⟨x, y, k TO (by simp) _ hTO⟩, h1.up (k i1 (by simp)), h2.up (k i2 (by simp))⟩
  · intro X hP hw hK hc i pins s σ H E I hf st hg
    subst hP hw hK
    obtain ⟨hz, hTI, ⟨x0, y0, hTO⟩, h1, h2⟩ := st
    obtain ⟨xs, ys, x, y, qx, qy, hx, hy⟩ := hg
    obtain ⟨its, rv, p1, _⟩ := qx.at I
    obtain ⟨its2, rv2, p2, _⟩ := qy.at I
    obtain ⟨u, hu, ru⟩ := rv.get hx
    obtain ⟨u2, hu2, ru2⟩ := rv2.get hy
    have lz : z < s.heap.objs.size := Heap.lt_size hz
    refine zip_next (I.ok.hd hc) D hz hTI hTO h1 h2 p1 p2 (fun v v2 h' a1 a2 c1 t1 m1 m2 pr rs => ?_) fun h' he _ => ?_
    · have e1 : v = u := by simpa [hu] using a1.symm
      have e2 : v2 = u2 := by simpa [hu2] using a2.symm
      subst e1 e2
      refine ⟨_, rfl, wpAny_letOwnedTupleGo_zip (s := { s with heap := h' }) c1 fun h'' c2 sb => ?_⟩
      have pr2 : h''.get? s.heap.objs.size = some (zt v v2) := (sb.2 _ (Nat.ne_of_gt lz)).trans pr
      have new : ObjOk X.prog X.w (upd H s.heap.objs.size (.tup [x, y])) h'' s.heap.objs.size (.tup [x, y]) := by
        refine ⟨?_, [v, v2], .cons ru (.cons ru2 .nil), ⟨_, pr2, rfl, _, rfl⟩⟩
        change 2 ≤ sizeLine
        decide
      have all : ∀ c o, c ∉ [z, TI, TO, i1, i2] → s.heap.get? c = some o → h''.get? c = some o := fun c o hb q => by
        obtain ⟨n1, n2, n3, n4⟩ := nin hb
        exact (sb.2 c n1).trans (rs c o n1 n2 n3 n4 q)
      have I1 : Inv X pins σ (upd H s.heap.objs.size (.tup [x, y])) { s with heap := h'' } := I.turnedNew (t' := s.toks) all hf (Nat.le_refl _) new
      refine ⟨.ref s.heap.objs.size, _, I1, rfl, ⟨_, x, y, rfl, I.hok.fresh (Nat.le_refl _), rfl, fun l hl => by rw [hl.inj I qx]; exact hx, fun l hl => by rw [hl.inj I qy]; exact hy⟩, ⟨c2, ?_, ⟨v, v2, ?_⟩, ?_, ?_⟩, fun c hcm => ?_⟩
      · exact (sb.2 _ D.TIz).trans (rs _ _ D.TIz D.TITO D.TIi1 D.TIi2 hTI)
      · exact (sb.2 _ D.TOz).trans t1
      · exact m1.up fun o q => (sb.2 _ D.i1z).trans q
      · exact m2.up fun o q => (sb.2 _ D.i2z).trans q
      · have lt : c < s.heap.objs.size := by
          rcases five hcm with rfl | rfl | rfl | rfl | rfl
          · exact lz
          · exact Heap.lt_size hTI
          · exact Heap.lt_size hTO
          · obtain ⟨_, e, _⟩ := h1.some; exact Heap.lt_size e
          · obtain ⟨_, e, _⟩ := h2.some; exact Heap.lt_size e
        rw [upd_ne (Nat.ne_of_lt lt)]
        exact (hf c hcm).1
    · rcases he with he | he
      · rw [show its.toArray[i]? = some u by simpa using hu] at he
        cases he
      · rw [show its2.toArray[i]? = some u2 by simpa using hu2] at he
        cases he
  · intro X hP hw hK hc i pins s σ H E I hf st hg
    subst hP hw hK
    obtain ⟨hz, hTI, ⟨x0, y0, hTO⟩, h1, h2⟩ := st
    obtain ⟨xs, ys, qx, qy, stop⟩ := hg
    obtain ⟨its, rv, p1, _⟩ := qx.at I
    obtain ⟨its2, rv2, p2, _⟩ := qy.at I
    have n1 := rv.length
    have n2 := rv2.length
    refine zip_next (I.ok.hd hc) D hz hTI hTO h1 h2 p1 p2 (fun v v2 h' a1 a2 _ _ _ _ _ _ => ?_) fun h' _ rs => ⟨rfl, I.turnedL (t' := s.toks) (ch := [z, TI, TO, i1, i2]) (fun c o hb q => ?_) hf⟩
    · have b1 : i < its.length := by
        simp at a1
        exact (List.getElem?_eq_some_iff.mp a1).1
      have b2 : i < its2.length := by
        simp at a2
        exact (List.getElem?_eq_some_iff.mp a2).1
      omega
    · obtain ⟨m1, m2, m3, m4⟩ := nin hb
      exact rs c o m1 m2 m3 m4 q
def iZipq (K : Frag) (ta : TA) : TI := fun σ H R => ta σ H fun vs H1 => ∃ k1 k2 a b xs ys, vs = [.ref a, .ref b] ∧ SqK k1 K H1 a xs ∧ SqK k2 K H1 b ys ∧ R (Itq K k1 k2 a b) H1
theorem pi_zipq {X : Cx} {e e2 : Expr} {ta : TA} {p pos tpos : Pos} {elts : List Expr} {kk : Nat} (hg : Gl X "zip") (hm : X.mg "zip" = none) (ha : PA X [e, e2] ta)
    (hs : starEach [e, e2] X.env = (false, eval e X.env) :: starEach [e2] X.env := by rfl) (hpl : (backTo pos (starEach [e2] X.env)).any (·.1) = false := by rfl) : PI X (.Tuple elts kk tpos) (.Call (.Name "zip" p) [e, e2] [] pos) (iZipq X.K ta) := ⟨fun pins s σ H R I h => by
  refine Call_ (ld_blt I hg hm PyProof.Rows.boot_zip (PyProof.Rows.callWith_type1 (thn (ha.run pos pins s σ H _ I h) fun us s1 ⟨vs, H1, I1, r1, k1, k2, a, b, xs, ys, ex, qx, qy, q⟩ => ?_) hs hpl))
  subst ex
  cases r1 with
  | cons r rr =>
    cases rr with
    | cons r' rr =>
      cases rr
      cases r
      cases r'
      obtain ⟨its, _, p1, l1⟩ := qx.at I1
      obtain ⟨its2, _, p2, l2⟩ := qy.at I1
      refine zip_call p1 p2 fun h' n hn c1 t1 t2 m1 m2 up => wpAny_pyIter_zip c1 ?_
      have I2 : Inv X pins σ H1 { s1 with heap := h' } := I1.kept (t' := s1.toks) up
      refine ⟨n + 4, [n + 4, n + 2, n + 3, n, n + 1], _, _, H1, rfl, I2, zip_Turn (PySem.W.ktu_apart n a b (by rw [hn]; exact l1) (by rw [hn]; exact l2)), ⟨c1, t1, ⟨_, _, t2⟩, m1, m2⟩, fun c hc => ?_, q⟩
      have le : s1.heap.objs.size ≤ c := by
        have : c = n + 4 ∨ c = n + 2 ∨ c = n + 3 ∨ c = n ∨ c = n + 1 := by simpa using hc
        rw [← hn]
        rcases this with z | z | z | z | z <;> rw [z]
        · exact Nat.le_add_right _ _
        · exact Nat.le_add_right _ _
        · exact Nat.le_add_right _ _
        · exact Nat.le_refl _
        · exact Nat.le_add_right _ _
      exact I1.fpOk le (I1.hok.fresh le)⟩
/-! ### zip in the mirror -/
theorem rep_sq {K : Frag} {A : AS} {O : OW} {H : Hp} {d : D} {v : V} {k : Bool} {ds : List D} (e : seqOf d = some (k, ds)) (r : Rep K (AO A O) H d v) : ∃ a vs, v = .ref a ∧ (∀ A2 H2, Mv (AO A O) H A2 H2 → SqK k K H2 a vs) ∧ RepL K (AO A O) H ds vs := by
  cases d with
  | lst xs =>
    cases e
    obtain ⟨x, vs, rfl, n, h, r⟩ := (by simpa only [Rep] using r : ∃ a vs, v = .ref a ∧ ¬ AO A O a ∧ Rd H a (.lst vs) ∧ RepL K (AO A O) H ds vs)
    exact ⟨x, vs, rfl, fun A2 H2 m => .inl (Rd.move m h n).1, r⟩
  | tup xs =>
    cases e
    obtain ⟨x, vs, rfl, h, r⟩ := (by simpa only [Rep] using r : ∃ a vs, v = .ref a ∧ SqT K H a vs ∧ RepL K (AO A O) H ds vs)
    exact ⟨x, vs, rfl, fun A2 H2 m => SqT.move m h, r⟩
  | _ => cases e
theorem itm_zipq {K : Frag} {A : AS} {H : Hp} {k1 k2 : Bool} {a b : Addr} {ds es : List D} {vs us : List V} (q : ∀ A2 H2, Mv A H A2 H2 → SqK k1 K H2 a vs) (q' : ∀ A2 H2, Mv A H A2 H2 → SqK k2 K H2 b us) (r : RepL K A H ds vs) (r' : RepL K A H es us) : Itm Mv K A (Itq K k1 k2 a b) ((ds.zip es).map fun p => .tup [p.1, p.2]) H := fun i A2 H2 m => by
  have q2 := q A2 H2 m
  have q2' := q' A2 H2 m
  have r2 := RepL.move m ds vs r
  have r2' := RepL.move m es us r'
  rw [List.length_map, List.length_zip]
  refine ⟨fun hi => ?_, fun hi => ⟨vs, us, q2, q2', by rw [← r.length, ← r'.length]; omega⟩⟩
  have h1 : i < ds.length := by omega
  have h2 : i < es.length := by omega
  obtain ⟨v, hv, rv⟩ := r2.get (i := i) (List.getElem?_eq_getElem h1)
  obtain ⟨u, hu, ru⟩ := r2'.get (i := i) (List.getElem?_eq_getElem h2)
  refine ⟨⟨vs, us, v, u, q2, q2', hv, hu⟩, fun x H3 ⟨T, x', y', e1, hn, e2, k1, k2⟩ => ?_⟩
  subst e1 e2
  have e3 := k1 vs q2
  have e4 := k2 us q2'
  rw [hv] at e3
  rw [hu] at e4
  cases e3
  cases e4
  obtain ⟨s1, r1⟩ := zip_item hn rv ru
  exact ⟨s1, _, zip_get (List.getElem?_eq_getElem h1) (List.getElem?_eq_getElem h2), r1⟩
section
variable {X : Cx} {W : WX} {ow : Nat → Bool} {a b : Expr} {elts : List Expr} {ma mb : EM} {pos p tpos : Pos} {kk : Nat}
theorem i_zip (hg : Gl X "zip") (hm : X.mg "zip" = none) (ha : PE X a (tE X.K W ow ma)) (hb : PE X b (tE X.K W ow mb)) (hs : starEach [a, b] X.env = (false, eval a X.env) :: starEach [b] X.env := by rfl) (hs2 : starEach [b] X.env = [(false, eval b X.env)] := by rfl) (hpl : (backTo pos (starEach [b] X.env)).any (·.1) = false := by rfl) :
    PI X (.Tuple elts kk tpos) (.Call (.Name "zip" p) [a, b] [] pos) (tI Mv X.K W ow (izip ma mb)) :=
  PI.of (pi_zipq hg hm (pa_cons ha (pa_cons hb pa_nil hs2) hs) hs hpl) fun σ H R' ⟨A, H0, O, en, R, q⟩ => ⟨A, H0, O, en, R, (Out.bind q).good fun d q1 v H1 s1 r1 => ⟨A, H0, O, en, R.to s1, ((Out.bind q1).to s1).good fun d2 q2 v2 H2 s2 r2 => by
    have r1' := Rep.move (Mv.same s2) _ _ r1
    cases e1 : seqOf d with
    | none =>
      unfold ozip at q2
      rw [e1] at q2
      exact q2.elim
    | some p =>
      cases e2 : seqOf d2 with
      | none =>
        unfold ozip at q2
        rw [e1, e2] at q2
        exact q2.elim
      | some p2 =>
        obtain ⟨k1, xs⟩ := p
        obtain ⟨k2, ys⟩ := p2
        unfold ozip at q2
        rw [e1, e2] at q2
        obtain ⟨x, vs, rfl, h, r⟩ := rep_sq e1 r1'
        obtain ⟨y, us, rfl, h', r'⟩ := rep_sq e2 r2
        exact ⟨k1, k2, x, y, vs, us, rfl, h _ _ (Mv.same (Same.refl _)), h' _ _ (Mv.same (Same.refl _)), q2 _ H2 (s1.trans s2) (itm_zipq h h' r r')⟩⟩⟩
end
end Py

/-! Who owns what, statement by statement. -/
namespace Py
open PySem L2
/-- the names that own what they hold -/
def owS : List Nat → Nat → Bool
  | [], _ => false
  | j :: l, i => i == j || owS l i
theorem owS_mem : ∀ {l : List Nat} {i : Nat}, owS l i = true → i ∈ l
  | j :: l, i, h => by
    unfold owS at h
    rw [Bool.or_eq_true] at h
    rcases h with h | h
    · exact List.mem_cons.mpr (.inl (by simpa using h))
    · exact List.mem_cons_of_mem _ (owS_mem h)
theorem owS_le {l l' : List Nat} (h : (l'.all fun i => owS l i) = true) : ∀ i, owS l' i = true → owS l i = true := fun i hi => List.all_eq_true.mp h i (owS_mem hi)
theorem owS_add {l l' : List Nat} {i : Nat} (h : (l'.all fun j => j == i || owS l j) = true ∧ owS l' i = true ∧ (l.all fun j => owS l' j) = true) : ∀ j, owS l' j = (j == i || owS l j) := fun j => by
  obtain ⟨h1, h2, h3⟩ := h
  cases e : owS l' j with
  | true => exact (List.all_eq_true.mp h1 j (owS_mem e)).symm
  | false =>
    cases e2 : (j == i || owS l j) with
    | false => rfl
    | true =>
      rw [Bool.or_eq_true] at e2
      rcases e2 with e2 | e2
      · rw [show j = i by simpa using e2, h2] at e
        cases e
      · rw [List.all_eq_true.mp h3 j (owS_mem e2)] at e
        cases e
section
variable {fr : Bool} {K : Frag} {A : AS} {H0 : Base} {ow o1 oN oB : Nat → Bool} {O : OW} {σ : L2.St} {H H' : Hp} {e : Env}
def cutO (ow o1 : Nat → Bool) (O : OW) : OW := fun i => if ow i = true ∧ o1 i = false then none else O i
theorem cutO_some {i : Nat} {a : Addr} (h : cutO ow o1 O i = some a) : O i = some a := by
  unfold cutO at h
  split at h
  · cases h
  · exact h
theorem cut_less : ∀ a, AO A (cutO ow o1 O) a → AO A O a := fun a h => h.elim .inl fun ⟨i, q⟩ => .inr ⟨i, cutO_some q⟩
/-- some names give up what they own -/
theorem ER.part (R : ER K A H0 ow O σ H e) (h : ∀ i, o1 i = true → ow i = true) (h0 : ow 0 = true → o1 0 = true) : ER K A H0 o1 (cutO ow o1 O) σ H e := by
  have mv : Mv (AO A O) H (AO A (cutO ow o1 O)) H := Mv.less cut_less
  have stay : ∀ i, o1 i = true → cutO ow o1 O i = O i := fun i hi => by
    unfold cutO
    rw [if_neg]
    rintro ⟨_, z⟩
    rw [hi] at z
    cases z
  refine ⟨R.len, R.a0, R.same, fun i d h1 h2 => ?_, fun i d h1 h2 => ?_, fun i a q => R.fresh i a (cutO_some q), fun i j a q q' => R.inj i j a (cutO_some q) (cutO_some q'), fun a q => ?_⟩
  · cases hi : ow i with
    | false =>
      obtain ⟨v, q, r⟩ := R.vals i d h1 hi
      exact ⟨v, q, Rep.move mv _ _ r⟩
    | true =>
      obtain ⟨a, q, q2, r⟩ := R.owns i d h1 hi
      refine ⟨.ref a, q2, ?_⟩
      have na : ¬ AO A (cutO ow o1 O) a := by
        rintro (z | ⟨j, z⟩)
        · exact (R.fresh i a q).2.2 z
        · have e1 := R.inj i j a q (cutO_some z)
          subst e1
          unfold cutO at z
          rw [if_pos ⟨hi, h2⟩] at z
          cases z
      cases d with
      | lst ds =>
        obtain ⟨vs, e1, r1⟩ := r
        simp only [Rep]
        exact ⟨a, vs, rfl, na, .inl e1, RepL.move mv _ _ r1⟩
      | ins c fs =>
        obtain ⟨dx, fvs, e1, r1⟩ := r
        simp only [Rep]
        exact ⟨a, dx, fvs, rfl, na, e1, RepF.move mv _ _ r1⟩
      | _ => exact r.elim
  · obtain ⟨a, q, q2, r⟩ := R.owns i d h1 (h i h2)
    exact ⟨a, (stay i h2).trans q, q2, r.move mv rfl⟩
  · have q0 := R.pin a q
    unfold cutO
    rw [if_neg]
    · exact q0
    · rintro ⟨z1, z2⟩
      rw [h0 z1] at z2
      cases z2
/-- a name is to own what comes next -/
theorem ER.opens (R : ER K A H0 ow O σ H e) {i : Nat} (hi : ow i = false) (hN : ∀ j, oN j = (j == i || ow j)) : ER K A H0 oN O σ H (e.set i none) := by
  have other : ∀ j d, (e.set i none)[j]? = some (some d) → i ≠ j ∧ e[j]? = some (some d) := fun j d h => by
    by_cases hj : i = j
    · subst hj
      have hl : i < e.length := by
        have := (List.getElem?_eq_some_iff.mp h).1
        simpa using this
      rw [List.getElem?_set_self hl] at h
      cases h
    · rw [List.getElem?_set_ne hj] at h
      exact ⟨hj, h⟩
  refine ⟨by simp [R.len], R.a0, R.same, fun j d h1 h2 => ?_, fun j d h1 h2 => ?_, R.fresh, R.inj, R.pin⟩
  · obtain ⟨hj, h3⟩ := other j d h1
    rw [hN, show (j == i) = false by simpa using fun z => hj z.symm, Bool.false_or] at h2
    exact R.vals j d h3 h2
  · obtain ⟨hj, h3⟩ := other j d h1
    rw [hN, show (j == i) = false by simpa using fun z => hj z.symm, Bool.false_or] at h2
    exact R.owns j d h3 h2
theorem EndOk3.le {o1 oB1 : Nat → Bool} {D : Ends} (hN : ∀ i, oN i = true → o1 i = true) (hN0 : o1 0 = true → oN 0 = true) (hB : ∀ i, oB i = true → oB1 i = true) (hB0 : oB1 0 = true → oB 0 = true) : ∀ {f : Fl}, EndOk3 fr K A H0 oN oB O H D f → EndOk3 fr K A H0 o1 oB1 O H D f
  | .next _, h => fun O' σ' H' R n => h _ σ' H' (R.part hN hN0) (n.trans (Mv.less cut_less))
  | .ret _, h => h
  | .brk _, h => fun O' σ' H' R n => h _ σ' H' (R.part hB hB0) (n.trans (Mv.less cut_less))
  | .cnt _, h => fun O' σ' H' R n => h _ σ' H' (R.part hB hB0) (n.trans (Mv.less cut_less))
end
section
variable {fr : Bool} {X : Cx} {W : WX} {ow o1 oN oB : Nat → Bool} {a b c e : Expr} {es : List Expr} {m ma mb mc : EM} {st : Stmt} {rest body orelse : List Stmt} {u v : SM} {t : TM} {pos : Pos} {j : Nat}
/-- a statement that changes no owner -/
theorem s_up (h : PS X st (tS fr X.K W ow u)) (hB : ∀ i, oB i = true → ow i = true) (hB0 : ow 0 = true → oB 0 = true) : PS X st (tS3 fr X.K W ow ow oB u) :=
  PS.of h fun D σ H ⟨A, H0, O, en, R, q⟩ => ⟨A, H0, O, en, R, q.good fun f q1 => q1.le (fun _ z => z) (fun z => z) hB hB0⟩
theorem c_nil : PSs X [] (tS3 fr X.K W ow ow oB skip) := PSs.of pss_nil fun D σ H ⟨A, H0, O, en, R, q⟩ => q O σ H R Mv.refl
theorem c_one (h : PS X st (tS3 fr X.K W ow oN oB u)) : PSs X [st] (tS3 fr X.K W ow oN oB u) := pss_one h
theorem c_cons (h : PS X st (tS3 fr X.K W ow o1 oB u)) (k : PSs X rest (tS3 fr X.K W o1 oN oB v)) : PSs X (st :: rest) (tS3 fr X.K W ow oN oB (seq u v)) :=
  PSs.of (pss_cons h k) fun D σ H ⟨A, H0, O, en, R, q⟩ => ⟨A, H0, O, en, R, (Out.bind q).good fun f q1 => by
    cases f with
    | next e' => exact fun O' σ' H' R' mv => ⟨A, H0, O', e', R', q1.good fun f q2 => q2.to mv⟩
    | ret d => exact q1
    | brk e' => exact q1
    | cnt e' => exact q1⟩
/-- names give up what they own -/
theorem c_cut (h : PSs X rest (tS3 fr X.K W o1 oN oB v)) (h1 : ∀ i, o1 i = true → ow i = true) (h0 : ow 0 = true → o1 0 = true) : PSs X rest (tS3 fr X.K W ow oN oB v) :=
  PSs.of h fun D σ H ⟨A, H0, O, en, R, q⟩ => ⟨A, H0, _, en, R.part h1 h0, q.good fun f q1 => q1.to (Mv.less cut_less)⟩
theorem c_end (h : PS X st (tS3 fr X.K W ow o1 oB u)) (h1 : ∀ i, oN i = true → o1 i = true) (h0 : o1 0 = true → oN 0 = true) : PS X st (tS3 fr X.K W ow oN oB u) :=
  PS.of h fun D σ H ⟨A, H0, O, en, R, q⟩ => ⟨A, H0, O, en, R, q.good fun f q1 => q1.le h1 h0 (fun _ z => z) (fun z => z)⟩
/-- a name gets a new object of its own -/
theorem c_own {i : Nat} (h : PS X st (tAsg (tF X.K W ow m) (gName i))) (hi : ow i = false) (hN : ∀ j, oN j = (j == i || ow j)) (h0 : 0 < i := by decide) : PS X st (tS3 fr X.K W ow oN oB (asg (gnm i) m)) :=
  PS.of h fun D σ H ⟨A, H0, O, en, R, q⟩ => ⟨A, H0, O, en, R, ((Out.bind q).se R).good fun d q1 a H1 n s1 r1 => by
    have hNi : oN i = true := by rw [hN]; simp
    obtain ⟨R2, mv⟩ := (R.opens hi hN).take s1 hNi h0 n r1
    rw [List.set_set] at R2
    exact q1 _ _ H1 R2 mv⟩
theorem c_if (hc : PT X a (tT X.K W ow t)) (hb : PSs X body (tS3 fr X.K W ow oN oB u)) (ho : PSs X orelse (tS3 fr X.K W ow oN oB v)) : PS X (.If a body orelse pos) (tS3 fr X.K W ow oN oB (ite t u v)) :=
  PS.of (ps_if hc hb ho) fun D σ H ⟨A, H0, O, en, R, q⟩ => ⟨A, H0, O, en, R, ((Out.bind q).se R).good fun k q1 H1 s1 => by
    cases k with
    | true =>
      rw [if_pos rfl] at q1 ⊢
      exact ⟨A, H0, O, en, R.to s1, q1.good fun f q2 => q2.to (Mv.same s1)⟩
    | false =>
      rw [if_neg (by decide)] at q1 ⊢
      exact ⟨A, H0, O, en, R.to s1, q1.good fun f q2 => q2.to (Mv.same s1)⟩⟩
theorem s_dead3 : PS X st (tS3 fr X.K W ow oN oB dead) := ⟨fun pins s σ H D I ⟨A, H0, O, en, R, q⟩ => (q : False).elim⟩
end
end Py

/-! Defs that give back a new list: their caller owns it. -/
namespace Py
open PySem L2
section
variable {X : Cx} {W : WX} {ow oN oB : Nat → Bool} {a : Expr} {m : EM} {pos : Pos}
/-- return [..] -/
theorem s_retF (h : PE X a (tF X.K W (fun _ => false) m)) : PS X (.Return (some a) pos) (tS3 true X.K W ow oN oB (ret m)) :=
  PS.of (ps_ret h) fun D σ H ⟨A, H0, O, en, R, q⟩ => ⟨A, _, _, en, R.freeze, ((Out.bind (show Out (ret m en) _ (badS X.K W A ⟨H0.hp, none⟩) from q)).se R.freeze).good fun d q1 b H1 n s1 r1 => by
    refine q1 (.ref b) H1 (R.same.trans s1) ⟨b, rfl, ?_, r1.move (Mv.less fun c hc => hc.elim (fun z => .inl (.inl z)) .inr) rfl⟩
    cases z : H0.hp b with
    | none => rfl
    | some o =>
      rw [R.same b o z] at n
      cases n⟩
/-- return x, x's own list -/
theorem s_retO {i : Nat} (h : PE X a (tVar i)) (hi : ow i = true) : PS X (.Return (some a) pos) (tS3 true X.K W ow oN oB (ret (var i))) :=
  PS.of (ps_ret h) fun D σ H ⟨A, H0, O, en, R, q⟩ => by
    obtain ⟨d, hd, q1⟩ := var_ok (show Out (var i en >>= fun d => Res.ok (Fl.ret d)) _ _ from q)
    obtain ⟨b, p1, p2, p3⟩ := R.owns i d hd hi
    refine ⟨.ref b, p2, ?_⟩
    have q2 : EndOk3 true X.K A H0 oN oB O H D (.ret d) := q1
    refine q2 (.ref b) H R.same ⟨b, rfl, (R.fresh i b p1).1, p3.move (Mv.less fun c hc => hc.elim .inl fun z => .inr ⟨i, by rw [z]; exact p1⟩) rfl⟩
end
def spF (K : Frag) (p : Nat) (m : List D → Res D) : Sp := fun vs H Q E => ∃ A ds, RepL K A H ds vs ∧ ds.length = p ∧ (∀ a, A a → H a ≠ none) ∧
  Out (m ds) (fun d => (d = .non → ∀ H', Same H H' → Q .non H') ∧ ∀ a H', H a = none → Same H H' → OwnAt K (fun b => A b ∨ b = a) H' a d → Q (.ref a) H') (fun c fs => ∀ da H' fvs, Same H H' → H' da = some (.xd fvs) → RepF K A H' fs fvs → E (.ref (ca K c)) (some da) H')
theorem spF_le {K : Frag} {p : Nat} {m : List D → Res D} {vs : List V} {H : Hp} {Q : VK} {E : XK} (h : spM K p m vs H Q E) : spF K p m vs H Q E := by
  obtain ⟨A, ds, r, hl, ha, q⟩ := h
  refine ⟨A, ds, r, hl, ha, q.good fun d k => ⟨fun e H' s => ?_, fun a H' n s o => k (.ref a) H' s ?_⟩⟩
  · subst e
    exact k .non H' s rfl
  · have na : ¬ A a := fun z => ha a z n
    have mv : Mv (fun b => A b ∨ b = a) H' A H' := Mv.less fun b x => .inl x
    cases d with
    | lst ds =>
      obtain ⟨vs, e1, r1⟩ := o
      simp only [Rep]
      exact ⟨a, vs, rfl, na, .inl e1, RepL.move mv _ _ r1⟩
    | ins c fs =>
      obtain ⟨dx, fvs, e1, r1⟩ := o
      simp only [Rep]
      exact ⟨a, dx, fvs, rfl, na, e1, RepF.move mv _ _ r1⟩
    | _ => exact o.elim
section
variable {P : Program} {w : World} {K : Frag} {mg : Str → Option Value} {base : Heap} {name qual : Str} {params : Arguments} {body : List Stmt} {scope : Scope} {dvs : List V} {kws : List (Str × V)} {f : Addr} {fd : FuncData} {N ps : List Str} {k : Nat} {ow oN oB : Nat → Bool} {m : SM}
theorem fn_okF (F : FunD K name qual params body scope dvs kws f fd) (S : FnScope N ps scope) (hp : ∀ i, i < ps.length → ow i = false)
    (hb : ∀ (cdv : Value) (A : Around) (outer : List PySem.Env) (s : Shared) (H : Hp) (E : XK), Ctx (cxOf (L2.CX P w) P w K mg base N qual scope f cdv A outer s H E) (WD E) k →
      PSs (cxOf (L2.CX P w) P w K mg base N qual scope f cdv A outer s H E) body (tS3 true K (WD E) ow oN oB m)) :
    FnOk P w K mg base (L2.CX P w) (k + 1) f fd ps (spF K ps.length (fn ps.length N.length m)) := by
  refine F.ok S (fun vs H Q E ⟨A, ds, r, h, _⟩ => r.length.symm.trans h) (fun cdv A outer s H vs Q E hr h => ?_)
  obtain ⟨AV, ds, r, hl, ha, q⟩ := h
  refine ⟨tS3 true K (WD E) ow oN oB m, hb cdv A outer s H E ⟨rfl, takes_of rfl rfl rfl rfl, passes_of rfl, hr, S.nd⟩, AV, ⟨H, none⟩, fun _ => none, ds.map some ++ List.replicate (N.length - ps.length) none, ?_, ?_⟩
  · have hlv := r.length
    have hN : ps.length ≤ N.length := by
      have := S.pre
      have h2 := congrArg List.length this
      rw [List.length_take] at h2
      omega
    refine ⟨?_, ha, Same.refl H, fun i d h1 h2 => ?_, fun i d h1 h2 => ?_, fun i a h => (nomatch h), fun i j a h => (nomatch h), fun a h => (nomatch h)⟩
    · unfold L2.start
      simp only [List.length_append, List.length_map, List.length_replicate]
      omega
    · by_cases hi : i < ds.length
      · rw [List.getElem?_append_left (by simpa using hi), List.getElem?_map, List.getElem?_eq_getElem hi] at h1
        simp only [Option.map_some, Option.some.injEq] at h1
        subst h1
        obtain ⟨v, hv, rv⟩ := r.get (List.getElem?_eq_getElem hi)
        exact ⟨v, start_get hv, Rep.move (Mv.less fun b hb => hb.elim id fun ⟨_, z⟩ => nomatch z) _ _ rv⟩
      · rw [List.getElem?_append_right (by simpa using hi)] at h1
        rw [List.getElem?_replicate] at h1
        split at h1 <;> cases h1
    · by_cases hi : i < ds.length
      · rw [hp i (by omega)] at h2
        cases h2
      · rw [List.getElem?_append_right (by simpa using hi)] at h1
        rw [List.getElem?_replicate] at h1
        split at h1 <;> cases h1
  · unfold fn at q
    rw [if_pos hl] at q
    cases e : m (ds.map some ++ List.replicate (N.length - ps.length) none) with
    | ok fl =>
      rw [e] at q
      cases fl with
      | next e' => exact fun O' σ' H' R' _ => q.1 rfl H' R'.same
      | ret d =>
        refine fun v H' s' ⟨a, e1, n, r'⟩ => ?_
        rw [e1]
        exact q.2 a H' n s' r'
      | brk e' => exact q.elim
      | cnt e' => exact q.elim
    | exc c fs =>
      rw [e] at q
      exact fun σ' da H' fvs s' q' r' => q da H' fvs s' q' r'
    | stuck =>
      rw [e] at q
      exact q.elim
end
/-- the name x calls a def that gives back a new list -/
def CallF (P : Program) (w : World) (K : Frag) (mg : Str → Option Value) (base : Heap) (k : Nat) (x : Str) (d : He.DefD) (ps : List Str) (n : Nat) (fm : List D → Res D) : Prop := ∃ f fd, mg x = some (.ref f) ∧ PySem.W.keepIn K (.ref f) = true ∧ Binds K fd ps [] ∧ FnOk P w K mg base (L2.CX P w) k f fd ps (spF K n fm) ∧ Ar n fm ∧ FunD K d.name d.qual d.params d.body d.scope [] [] f fd
theorem CallF.le {P : Program} {w : World} {K : Frag} {mg : Str → Option Value} {base : Heap} {k : Nat} {x : Str} {d : He.DefD} {ps : List Str} {n : Nat} {fm : List D → Res D} (C : CallF P w K mg base k x d ps n fm) : CallOk P w K mg base k x d ps n fm := by
  obtain ⟨f, fd, h1, h2, h3, h4, h5⟩ := C
  exact ⟨f, fd, h1, h2, h3, h4.imp fun _ _ _ _ z => spF_le z, h5⟩
section
variable {P : Program} {w : World} {K : Frag} {mg : Str → Option Value} {base : Heap} {k : Nat} {ow oN oB : Nat → Bool} {m : SM} {f : Addr} {N ps : List Str} {p n : Nat}
theorem def_okF {d : He.DefD} (F : ∃ fd, FunD K d.name d.qual d.params d.body d.scope [] [] f fd) (g : mg d.name = some (.ref f)) (S : FnScope N ps d.scope) (hpl : ps.length = p) (hnl : N.length = n) (hp : ∀ i, i < p → ow i = false)
    (hbind : ∀ (kV doc pm : Value) (an : Option Addr) (cdv ct : Value) (us : List Value), us.length = ps.length → bindArgs (PySem.W.fnOf d.name d.qual d.params d.body d.scope .none kV doc pm an cdv ct) ⟨us, []⟩ = pure (ps.zip us))
    (hb : ∀ (cdv : Value) (A : Around) (outer : List PySem.Env) (s : Shared) (H : Hp) (E : XK), Ctx (cxOf (L2.CX P w) P w K mg base N d.qual d.scope f cdv A outer s H E) (WD E) k →
      PSs (cxOf (L2.CX P w) P w K mg base N d.qual d.scope f cdv A outer s H E) d.body (tS3 true K (WD E) ow oN oB m)) : CallF P w K mg base (k + 1) d.name d ps p (fn p n m) := by
  obtain ⟨fd, F⟩ := F
  subst hpl hnl
  exact ⟨f, fd, g, F.kp, FunD.bindsN F hbind, fn_okF F S hp hb, ar_fn, F⟩
end
section
variable {X : Cx} {W : WX} {ow : Nat → Bool} {e : Expr} {es : List Expr} {am : AM} {pos p : Pos} {k j n : Nat} {x : Str} {fm : List D → Res D} {d : He.DefD} {ps : List Str}
/-- f(..), what comes back is new -/
theorem f_own1 (T : Ctx X W j) (C : CallF X.prog X.w X.K X.mg X.base k x d ps n fm) (hk : k ≤ j) (hg : Gl X x) (ha : PA X (e :: es) (aE X.K W ow am)) (hdb : (x == ("__debug__" : Str)) = false := by decide)
    (he : starEach (e :: es) X.env = (false, eval e X.env) :: starEach es X.env := by rfl) (hpl : (backTo pos (starEach es X.env)).any (·.1) = false := by rfl) : PE X (.Call (.Name x p) (e :: es) [] pos) (tF X.K W ow (callF fm am)) := by
  obtain ⟨f, fd, h1, h2, h3, h4, hn, _⟩ := C
  refine PE.of (pe_callSD (E := WE W) h4 (T.hr.mono hk) hg h1 h2 h3 .nil (fun σ => passAt T.tk σ) ha hdb he hpl) fun σ H Q ⟨A, H0, O, en, R, q⟩ => ?_
  refine ⟨A, H0, O, en, R, (Out.bind q).good fun ds q1 vs H1 s1 r1 => ?_⟩
  dsimp only
  rw [List.append_nil]
  refine ⟨AO A O, ds, paired_rep r1, ?_, (R.to s1).there, ?_⟩
  · cases e : fm ds with
    | ok d => exact hn.ok ds d e
    | exc c fs => exact hn.ex ds c fs e
    | stuck =>
      rw [e] at q1
      exact q1.elim
  · cases e : fm ds with
    | ok d =>
      rw [e] at q1
      cases d with
      | non => exact q1.elim
      | _ =>
        refine ⟨fun z => (nomatch z), fun a H2 n s2 r2 => ?_⟩
        exact q1 a H2 (by
          cases z : H a with
          | none => rfl
          | some o =>
            rw [s1 a o z] at n
            cases n) (s1.trans s2) r2
    | exc c fs =>
      rw [e] at q1
      exact fun da H2 fvs s2 q2 r2 => q1 da H2 fvs (s1.trans s2) q2 r2
    | stuck =>
      rw [e] at q1
      exact q1.elim
end
end Py

/-! More expressions. -/
namespace Py
open PySem L2
theorem RepL.flat {K : Frag} {A : AS} {H : Hp} {ds : List D} {vs : List V} (h : RepL K A H ds vs) : ∀ n : Nat, RepL K A H (List.replicate n ds).flatten (List.replicate n vs).flatten
  | 0 => by simp [RepL]
  | n + 1 => by
    rw [List.replicate_succ, List.replicate_succ, List.flatten_cons, List.flatten_cons]
    exact h.append (RepL.flat h n)
section
variable {X : Cx} {W : WX} {ow : Nat → Bool} {a b : Expr} {ma mb : EM} {pos : Pos}
/-- [..] * n -/
theorem f_rep (ha : PE X a (tF X.K W ow ma)) (hb : PE X b (tW X.K W ow mb)) : PE X (.BinOp a .Mult b pos) (tF X.K W ow (bin olrep ma mb)) :=
  PE.of (pe_op op_rep ha hb) fun σ H Q ⟨A, H0, O, en, R, q⟩ => by
    refine ⟨A, H0, O, en, R, (Out.bind q).good fun d1 q1 l H1 n1 s1 r1 => ?_⟩
    refine ⟨A, H0, O, en, R.to s1, ((Out.bind q1).to s1).good fun d2 q2 v2 H2 s2 r2 => ?_⟩
    cases d1 with
    | lst xs =>
      cases d2 with
      | int k =>
        obtain ⟨vs, e1, p1⟩ := r1
        have e2 : v2 = .int k := rep_int r2
        subst e2
        by_cases hc : xs.length ≤ 1000 ∧ k.natAbs ≤ 1000
        · have e3 : olrep (.lst xs) (.int k) = .ok (.lst (List.replicate k.toNat xs).flatten) := if_pos hc
          rw [e3] at q2
          have q3 := q2
          have hl := p1.length
          refine ⟨l, k, vs, rfl, rfl, s2 _ _ e1, by omega, by omega, ?_, fun p hp => ?_⟩
          · have : vs.length * k.toNat ≤ 1000 * 1000 := Nat.mul_le_mul (by omega) (by omega)
            exact Nat.le_trans this (by decide)
          · have s12 := s1.trans s2
            have np1 : H1 p = none := by
              cases z : H1 p with
              | none => rfl
              | some o =>
                rw [s2 p o z] at hp
                cases hp
            have np : H p = none := by
              cases z : H p with
              | none => rfl
              | some o =>
                rw [s12 p o z] at hp
                cases hp
            have s3 : Same H2 (upd H2 p (.lst (List.replicate k.toNat vs).flatten)) := new_same hp
            refine q3 p _ np (s12.trans s3) ⟨_, upd_same, RepL.move ⟨fun b hb => ?_, fun b o e hb => (s2.trans s3) b o e⟩ _ _ (p1.flat k.toNat)⟩
            rcases hb with hb | hb
            · exact .inl (.inl hb)
            · rw [hb]
              exact .inr np1
        · have e3 : olrep (.lst xs) (.int k) = .stuck := if_neg hc
          rw [e3] at q2
          exact q2.elim
      | _ => exact (q2 : False).elim
    | _ => exact (show False from q2).elim
end
end Py

namespace Py

abbrev CS : List String := ["Row", "Machine"]
def tab_SIZES : List (String × Int) := [("zero", 0), ("ones", 0), ("not", 1), ("and", 2), ("or", 2), ("xor", 2), ("shift", 1), ("minus", 1), ("add", 2), ("sub", 2)]
def b_is_integer : SM :=
  (ret (andE (un (oisi CS [.int]) (var 0)) (un onb (un (oisi CS [.bl]) (var 0)))))
def m_is_integer : List D → Res D := fn 1 1 b_is_integer
def b_is_inputs : SM :=
  (ret (andE (call m_is_integer (argC (var 0) argN)) (Py.chain ole ole (cst (.int 1)) (var 0) (cst (.int 3)))))
def m_is_inputs : List D → Res D := fn 1 1 b_is_inputs
def b_as_tuple : SM :=
  (seq (ite (tst (un (oisi CS [.lst, .tup]) (var 0))) (ret (un btuple (var 0))) skip)
  (ret (cst .non)))
def m_as_tuple : List D → Res D := fn 1 1 b_as_tuple
def b_is_below : SM :=
  (ret (andE (call m_is_integer (argC (var 0) argN)) (Py.chain ole olt (cst (.int 0)) (var 0) (var 1))))
def m_is_below : List D → Res D := fn 2 2 b_is_below
def b_is_line : SM :=
  (seq (ite (orT (notT (tst (un (oisi CS [.tup]) (var 0)))) (tst (bin Py.one (un blen (var 0)) (var 1)))) (ret (cst (.bl false))) skip)
  (ret (un ball (lcE (iseq (var 0)) [3] (gnm 3) yes (call m_is_below (argC (var 3) (argC (var 2) argN)))))))
def m_is_line : List D → Res D := fn 3 4 b_is_line
def b_right_nexts : SM :=
  (seq (asg (gnm 2) (call m_as_tuple (argC (var 0) argN)))
  (seq (ite (notT (tst (var 2))) dead skip)
  (seq (for_ (ienum (var 2)) (gtup [(gnm 3), (gnm 4)]) (ite (notT (tst (call m_is_line (argC (var 4) (argC (var 1) (argC (un blen (var 2)) argN)))))) dead skip))
  (ret (var 2)))))
def m_right_nexts : List D → Res D := fn 2 5 b_right_nexts
def b_right_outs : SM :=
  (seq (asg (gnm 3) (call m_as_tuple (argC (var 0) argN)))
  (seq (ite (tst (un oisN (var 3))) dead skip)
  (seq (asg (gnm 4) (bin bmin2 (un blen (var 3)) (var 2)))
  (seq (for_ (irng1 (var 4)) (gnm 5) (ite (notT (tst (call m_is_line (argC (bin oidx (var 3) (var 5)) (argC (var 1) (argC (cst (.int 2)) argN)))))) dead skip))
  (seq (ite (tst (bin Py.one (un blen (var 3)) (var 2))) dead skip)
  (ret (var 3)))))))
def m_right_outs : List D → Res D := fn 3 6 b_right_outs
def b_Machine_init : SM :=
  (seq (ite (notT (tst (call m_is_inputs (argC (var 1) argN)))) dead skip)
  (seq (asg (gnm 4) (bin oshl (cst (.int 1)) (var 1)))
  (seq (setF 0 ["Machine"] "inputs" (var 1))
  (seq (setF 0 ["Machine"] "nexts" (call m_right_nexts (argC (var 2) (argC (var 4) argN))))
  (setF 0 ["Machine"] "outs" (call m_right_outs (argC (var 3) (argC (var 4) (argC (un blen (un (oattr ["Machine"] "nexts") (var 0))) argN)))))))))
def m_Machine : List D → Res D := made 4 5 "Machine" b_Machine_init
def b_is_reading : SM :=
  (seq (ite (notT (tst (un (oisi CS [.tup]) (var 0)))) (ret (cst (.bl false))) skip)
  (ret (un ball (lcE (iseq (var 0)) [2] (gnm 2) yes (call m_is_below (argC (var 2) (argC (bin oshl (cst (.int 1)) (var 1)) argN)))))))
def m_is_reading : List D → Res D := fn 2 3 b_is_reading
def b_Machine_bits_written : SM :=
  (seq (ite (notT (tst (call m_is_reading (argC (var 1) (argC (un (oattr ["Row", "Machine"] "inputs") (var 0)) argN))))) dead skip)
  (seq (asg (gnm 2) (cst (.int 0)))
  (seq (asg (gnm 3) (lstE argN))
  (seq (for_ (iseq (var 1)) (gnm 4) (seq (app 3 (bin oidx (bin oidx (un (oattr ["Machine"] "outs") (var 0)) (var 2)) (var 4)))
  (asg (gnm 2) (bin oidx (bin oidx (un (oattr ["Machine"] "nexts") (var 0)) (var 2)) (var 4)))))
  (ret (un btuple (var 3)))))))
def m_Machine_bits_written : List D → Res D := fn 2 5 b_Machine_bits_written
def b_is_number : SM :=
  (ret (andE (call m_is_integer (argC (var 0) argN)) (bin oge (var 0) (cst (.int 0)))))
def m_is_number : List D → Res D := fn 1 1 b_is_number
def b_is_word : SM :=
  (ret (andE (call m_is_number (argC (var 0) argN)) (bin ole (un bbits (var 0)) (var 1))))
def m_is_word : List D → Res D := fn 2 2 b_is_word
def b_are_words : SM :=
  (seq (asg (gnm 4) (call m_as_tuple (argC (var 0) argN)))
  (seq (ite (orT (tst (un oisN (var 4))) (notT (tst (Py.chain ole ole (var 2) (un blen (var 4)) (var 3))))) (ret (cst (.bl false))) skip)
  (ret (un ball (lcE (iseq (var 4)) [5] (gnm 5) yes (call m_is_word (argC (var 5) (argC (var 1) argN))))))))
def m_are_words : List D → Res D := fn 4 6 b_are_words
def b_letters_of : SM :=
  (seq (asg (gnm 2) (lstE argN))
  (seq (for_ (irng1 (var 0)) (gnm 3) (app 2 (un bsum (lcE (irng1 (un blen (var 1))) [4] (gnm 4) yes (bin oshl (bin oand (bin oshr (bin oidx (var 1) (var 4)) (var 3)) (cst (.int 1))) (var 4))))))
  (ret (un btuple (var 2)))))
def m_letters_of : List D → Res D := fn 2 5 b_letters_of
def b_Machine_write : SM :=
  (seq (ite (notT (tst (call m_is_number (argC (var 1) argN)))) dead skip)
  (seq (ite (notT (tst (call m_are_words (argC (var 2) (argC (var 1) (argC (un (oattr ["Row", "Machine"] "inputs") (var 0)) (argC (un (oattr ["Row", "Machine"] "inputs") (var 0)) argN))))))) dead skip)
  (seq (asg (gnm 3) (callM "Machine" "bits_written" m_Machine_bits_written (var 0) (argC (call m_letters_of (argC (var 1) (argC (var 2) argN))) argN)))
  (ret (un bsum (lcE (ienum (var 3)) [4, 5] (gtup [(gnm 4), (gnm 5)]) yes (bin oshl (var 5) (var 4))))))))
def m_Machine_write : List D → Res D := fn 3 6 b_Machine_write
def b_are_values : SM :=
  (ret (un ball (lcE (iseq (var 0)) [2] (gnm 2) yes (call m_is_below (argC (var 2) (argC (var 1) argN))))))
def m_are_values : List D → Res D := fn 2 3 b_are_values
def b_is_count_deed : SM :=
  (seq (ite (tst (bin Py.one (un blen (var 0)) (cst (.int 4)))) (ret (cst (.bl false))) skip)
  (seq (asg (gtup [(gnm 2), (gnm 3), (gnm 4)]) (slc (var 0) (some (cst (.int 1))) none))
  (seq (ite (orT (notT (tst (call m_is_integer (argC (var 2) argN)))) (orT (tst (bin onotin (var 2) (tupE (argC (cst (.int 2)) (argC (cst (.int 3)) (argC (cst (.int 5)) argN)))))) (notT (tst (call m_is_below (argC (var 3) (argC (var 2) argN))))))) (ret (cst (.bl false))) skip)
  (ret (andE (un (oisi CS [.tup]) (var 4)) (andE (Py.chain ole ole (cst (.int 1)) (un blen (var 4)) (cst (.int 4))) (call m_are_values (argC (var 4) (argC (var 1) argN)))))))))
def m_is_count_deed : List D → Res D := fn 2 5 b_is_count_deed
def b_is_deed : SM :=
  (seq (ite (orT (notT (tst (un (oisi CS [.tup]) (var 0)))) (orT (notT (tst (var 0))) (notT (tst (un (oisi CS [.str]) (bin oidx (var 0) (cst (.int 0)))))))) (ret (cst (.bl false))) skip)
  (seq (ite (tst (bin oeq (bin oidx (var 0) (cst (.int 0))) (cst (.str "count")))) (ret (call m_is_count_deed (argC (var 0) (argC (var 1) argN)))) skip)
  (seq (ite (orT (tst (un (onothas tab_SIZES) (bin oidx (var 0) (cst (.int 0))))) (tst (bin Py.one (un blen (var 0)) (bin oadd (un (olook tab_SIZES) (bin oidx (var 0) (cst (.int 0)))) (cst (.int 1)))))) (ret (cst (.bl false))) skip)
  (ret (call m_are_values (argC (slc (var 0) (some (cst (.int 1))) none) (argC (var 1) argN)))))))
def m_is_deed : List D → Res D := fn 2 2 b_is_deed
def b_Row_init : SM :=
  (seq (ite (notT (tst (call m_is_inputs (argC (var 1) argN)))) dead skip)
  (seq (asg (gnm 4) (call m_as_tuple (argC (var 2) argN)))
  (seq (ite (tst (un oisN (var 4))) dead skip)
  (seq (for_ (ienum (var 4)) (gtup [(gnm 5), (gnm 6)]) (ite (notT (tst (call m_is_deed (argC (var 6) (argC (bin oadd (var 1) (var 5)) argN))))) dead skip))
  (seq (ite (notT (tst (call m_is_below (argC (var 3) (argC (bin oadd (var 1) (un blen (var 4))) argN))))) dead skip)
  (seq (setF 0 ["Row"] "inputs" (var 1))
  (seq (setF 0 ["Row"] "deeds" (var 4))
  (setF 0 ["Row"] "out" (var 3)))))))))
def m_Row : List D → Res D := made 4 7 "Row" b_Row_init
def b_counted_word : SM :=
  (seq (asg (gnm 4) (cst (.int 0)))
  (seq (asg (gnm 5) (cst (.int 0)))
  (seq (for_ (irng1 (var 0)) (gnm 6) (seq (ite (tst (bin oeq (var 5) (var 2))) (aug 4 oior (bin oshl (cst (.int 1)) (var 6))) skip)
  (asg (gnm 5) (bin omod (bin oadd (var 5) (un bsum (lcE (iseq (var 3)) [7] (gnm 7) yes (bin oand (bin oshr (var 7) (var 6)) (cst (.int 1)))))) (var 1)))))
  (ret (var 4)))))
def m_counted_word : List D → Res D := fn 4 8 b_counted_word
def b_deed_word : SM :=
  (seq (asg (gnm 3) (bin oidx (var 0) (cst (.int 0))))
  (seq (asg (gnm 4) (bin osub (bin oshl (cst (.int 1)) (var 1)) (cst (.int 1))))
  (seq (ite (tst (bin oeq (var 3) (cst (.str "count")))) (ret (call m_counted_word (argC (var 1) (argC (bin oidx (var 0) (cst (.int 1))) (argC (bin oidx (var 0) (cst (.int 2))) (argC (lcE (iseq (bin oidx (var 0) (cst (.int 3)))) [7] (gnm 7) yes (bin oidx (var 2) (var 7))) argN)))))) skip)
  (seq (ite (tst (bin oin (var 3) (tupE (argC (cst (.str "zero")) (argC (cst (.str "ones")) argN))))) (ret (ifE (tst (bin oeq (var 3) (cst (.str "ones")))) (var 4) (cst (.int 0)))) skip)
  (seq (asg (gnm 5) (bin oidx (var 2) (bin oidx (var 0) (cst (.int 1)))))
  (seq (asg (gnm 6) (bin oidx (var 2) (bin oidx (var 0) (un oneg (cst (.int 1))))))
  (seq (ite (tst (bin oeq (var 3) (cst (.str "not")))) (ret (bin osub (var 4) (var 5))) skip)
  (seq (ite (tst (bin oeq (var 3) (cst (.str "and")))) (ret (bin oand (var 5) (var 6))) skip)
  (seq (ite (tst (bin oeq (var 3) (cst (.str "or")))) (ret (bin oor (var 5) (var 6))) skip)
  (seq (ite (tst (bin oeq (var 3) (cst (.str "xor")))) (ret (bin oxor (var 5) (var 6))) skip)
  (seq (ite (tst (bin oeq (var 3) (cst (.str "sub")))) (ret (bin oand (bin osub (var 5) (var 6)) (var 4))) skip)
  (seq (ite (tst (bin oeq (var 3) (cst (.str "minus")))) (ret (bin oand (un oneg (var 5)) (var 4))) skip)
  (ret (bin oand (bin oadd (var 5) (var 6)) (var 4)))))))))))))))
def m_deed_word : List D → Res D := fn 3 8 b_deed_word
def b_Row_all_words : SM :=
  (seq (ite (notT (tst (call m_is_number (argC (var 1) argN)))) dead skip)
  (seq (ite (notT (tst (call m_are_words (argC (var 2) (argC (var 1) (argC (un (oattr ["Row", "Machine"] "inputs") (var 0)) (argC (un (oattr ["Row", "Machine"] "inputs") (var 0)) argN))))))) dead skip)
  (seq (asg (gnm 3) (un blist (var 2)))
  (seq (for_ (iseq (un (oattr ["Row"] "deeds") (var 0))) (gnm 4) (app 3 (callI m_deed_word (argC (var 4) (argC (var 1) (argC (var 3) argN))))))
  (ret (un btuple (var 3)))))))
def m_Row_all_words : List D → Res D := fn 3 5 b_Row_all_words
def b_Row_write : SM :=
  (ret (bin oidx (callM "Row" "all_words" m_Row_all_words (var 0) (argC (var 1) (argC (var 2) argN))) (un (oattr ["Row"] "out") (var 0))))
def m_Row_write : List D → Res D := fn 3 3 b_Row_write
def b__law_cell : SM :=
  (seq (ite (tst (bin olt (var 1) (un blen (var 0)))) (ret (bin oidx (var 0) (var 1))) skip)
  (seq (ite (tst (bin ogt (un blen (var 0)) (cst (.int 0)))) (ret (bin oadd (bin omod (un bint (bin oidx (var 0) (bin omod (var 1) (un blen (var 0))))) (cst (.int 100003))) (bin omul (cst (.int 7919)) (var 1)))) skip)
  (ret (bin oadd (bin omul (cst (.int 7919)) (var 1)) (cst (.int 5))))))
def m_law_cell : List D → Res D := fn 2 2 b__law_cell
def b__law_deed : SM :=
  (seq (asg (gnm 2) (lstE (argC (cst (.str "zero")) (argC (cst (.str "ones")) (argC (cst (.str "not")) (argC (cst (.str "and")) (argC (cst (.str "or")) (argC (cst (.str "xor")) (argC (cst (.str "shift")) (argC (cst (.str "minus")) (argC (cst (.str "add")) (argC (cst (.str "sub")) argN))))))))))))
  (seq (asg (gnm 3) (bin omod (bin oidx (var 0) (cst (.int 1))) (var 1)))
  (seq (asg (gnm 4) (bin omod (bin oidx (var 0) (cst (.int 2))) (var 1)))
  (seq (ite (tst (bin oge (bin oidx (var 0) (cst (.int 0))) (cst (.int 10)))) (seq (asg (gnm 5) (bin oidx (lstE (argC (cst (.int 2)) (argC (cst (.int 3)) (argC (cst (.int 5)) argN)))) (bin oidx (var 0) (cst (.int 3)))))
  (seq (asg (gnm 6) (tupE (argC (var 3) (argC (var 4) (argC (bin omod (bin oidx (var 0) (cst (.int 4))) (var 1)) (argC (var 3) argN))))))
  (ret (tupE (argC (cst (.str "count")) (argC (var 5) (argC (bin omod (bin oidx (var 0) (cst (.int 5))) (var 5)) (argC (slc (var 6) none (some (bin oadd (cst (.int 1)) (bin oidx (var 0) (cst (.int 6)))))) argN)))))))) skip)
  (seq (ite (tst (bin olt (bin oidx (var 0) (cst (.int 0))) (cst (.int 2)))) (ret (tupE (argC (bin oidx (var 2) (bin oidx (var 0) (cst (.int 0)))) argN))) skip)
  (seq (ite (tst (bin oin (bin oidx (var 0) (cst (.int 0))) (lstE (argC (cst (.int 2)) (argC (cst (.int 6)) (argC (cst (.int 7)) argN)))))) (ret (tupE (argC (bin oidx (var 2) (bin oidx (var 0) (cst (.int 0)))) (argC (var 3) argN)))) skip)
  (ret (tupE (argC (bin oidx (var 2) (bin oidx (var 0) (cst (.int 0)))) (argC (var 3) (argC (var 4) argN)))))))))))
def m_law_deed : List D → Res D := fn 2 7 b__law_deed
def b__law_mixed : SM :=
  (seq (asg (gnm 2) (bin omod (un bint (bin oadd (bin oadd (bin omul (var 0) (cst (.int 48271))) (bin omul (var 1) (cst (.int 1103515245)))) (cst (.int 12345)))) (cst (.int 2147483647))))
  (seq (asg (gnm 3) (bin omod (un bint (bin oadd (bin omul (var 2) (var 2)) (cst (.int 69621)))) (cst (.int 2147483563))))
  (ret (bin ofdiv (bin omod (un bint (bin omul (var 3) (bin oadd (bin omod (var 3) (cst (.int 65521))) (cst (.int 3))))) (cst (.int 1000000007))) (cst (.int 8))))))
def m_law_mixed : List D → Res D := fn 2 4 b__law_mixed
def b__law_draws : SM :=
  (seq (asg (gnm 2) (lstE argN))
  (seq (asg (gnm 3) (var 0))
  (seq (for_ (irng1 (un blen (var 1))) (gnm 4) (ite (andT (tst (bin oge (var 0) (bin opow (cst (.int 10)) (cst (.int 18))))) (andT (tst (bin olt (var 4) (cst (.int 60)))) (tst (bin ogt (var 3) (cst (.int 0)))))) (seq (app 2 (bin omod (un bint (var 3)) (bin oidx (var 1) (var 4))))
  (asg (gnm 3) (bin ofdiv (var 3) (bin oidx (var 1) (var 4))))) (app 2 (bin omod (call m_law_mixed (argC (var 0) (argC (var 4) argN))) (bin oidx (var 1) (var 4))))))
  (ret (var 2)))))
def m_law_draws : List D → Res D := fn 2 5 b__law_draws
def b__law_integer : SM :=
  (ret (andE (un (oisi CS [.int]) (var 0)) (andE (un onb (un (oisi CS [.bl]) (var 0))) (bin oeq (var 0) (var 1)))))
def m_law_integer : List D → Res D := fn 2 2 b__law_integer
def b__law_low_too : SM :=
  (seq (for_ (irng1 (un blen (var 0))) (gnm 3) (ite (tst (bin Py.one (bin omod (un bint (bin oidx (var 0) (var 3))) (bin oshl (cst (.int 1)) (var 2))) (bin oidx (var 1) (var 3)))) (ret (cst (.bl false))) skip))
  (ret (cst (.bl true))))
def m_law_low_too : List D → Res D := fn 3 4 b__law_low_too
def b__law_number : SM :=
  (seq (asg (gnm 4) (cst (.int 0)))
  (seq (asg (gnm 5) (cst (.int 0)))
  (seq (for_ (irng1 (var 2)) (gnm 6) (seq (asg (gnm 7) (cst (.int 0)))
  (seq (for_ (irng1 (un blen (var 3))) (gnm 8) (asg (gnm 7) (bin oadd (var 7) (bin oshl (bin oand (bin oshr (bin oidx (var 3) (var 8)) (var 6)) (cst (.int 1))) (var 8)))))
  (seq (asg (gnm 4) (bin oadd (var 4) (bin oshl (bin oidx (bin oidx (var 1) (var 5)) (var 7)) (var 6))))
  (asg (gnm 5) (bin oidx (bin oidx (var 0) (var 5)) (var 7)))))))
  (ret (var 4)))))
def m_law_number : List D → Res D := fn 4 9 b__law_number
def b__law_count : SM :=
  (seq (asg (gnm 3) (cst (.int 0)))
  (seq (asg (gnm 4) (cst (.int 0)))
  (seq (for_ (irng1 (var 2)) (gnm 5) (seq (ite (tst (bin oeq (bin omod (un bint (var 4)) (bin oidx (var 0) (cst (.int 1)))) (bin oidx (var 0) (cst (.int 2))))) (asg (gnm 3) (bin oadd (var 3) (bin oshl (cst (.int 1)) (var 5)))) skip)
  (for_ (iseq (bin oidx (var 0) (cst (.int 3)))) (gnm 6) (asg (gnm 4) (bin oadd (var 4) (bin oand (bin oshr (bin oidx (var 1) (var 6)) (var 5)) (cst (.int 1))))))))
  (ret (var 3)))))
def m_law_count : List D → Res D := fn 3 7 b__law_count
def b__law_value : SM :=
  (seq (asg (gnm 3) (bin oshl (cst (.int 1)) (var 2)))
  (seq (ite (tst (bin oeq (bin oidx (var 0) (cst (.int 0))) (cst (.str "count")))) (ret (call m_law_count (argC (var 0) (argC (var 1) (argC (var 2) argN))))) skip)
  (seq (ite (tst (bin oeq (bin oidx (var 0) (cst (.int 0))) (cst (.str "zero")))) (ret (cst (.int 0))) skip)
  (seq (ite (tst (bin oeq (bin oidx (var 0) (cst (.int 0))) (cst (.str "ones")))) (ret (bin osub (var 3) (cst (.int 1)))) skip)
  (seq (asg (gnm 4) (bin oidx (var 1) (bin oidx (var 0) (cst (.int 1)))))
  (seq (ite (tst (bin oeq (bin oidx (var 0) (cst (.int 0))) (cst (.str "not")))) (ret (bin osub (bin osub (var 3) (cst (.int 1))) (var 4))) skip)
  (seq (ite (tst (bin oeq (bin oidx (var 0) (cst (.int 0))) (cst (.str "shift")))) (ret (bin omod (un bint (bin omul (cst (.int 2)) (var 4))) (var 3))) skip)
  (seq (ite (tst (bin oeq (bin oidx (var 0) (cst (.int 0))) (cst (.str "minus")))) (ret (bin omod (un bint (bin osub (var 3) (var 4))) (var 3))) skip)
  (seq (asg (gnm 5) (bin oidx (var 1) (bin oidx (var 0) (cst (.int 2)))))
  (seq (ite (tst (bin oeq (bin oidx (var 0) (cst (.int 0))) (cst (.str "and")))) (ret (bin oand (var 4) (var 5))) skip)
  (seq (ite (tst (bin oeq (bin oidx (var 0) (cst (.int 0))) (cst (.str "or")))) (ret (bin oor (var 4) (var 5))) skip)
  (seq (ite (tst (bin oeq (bin oidx (var 0) (cst (.int 0))) (cst (.str "xor")))) (ret (bin oxor (var 4) (var 5))) skip)
  (seq (ite (tst (bin oeq (bin oidx (var 0) (cst (.int 0))) (cst (.str "add")))) (ret (bin omod (un bint (bin oadd (var 4) (var 5))) (var 3))) skip)
  (ret (bin omod (un bint (bin osub (var 4) (var 5))) (var 3))))))))))))))))
def m_law_value : List D → Res D := fn 3 6 b__law_value
def b__law_numbers : SM :=
  (seq (asg (gnm 3) (un blist (var 2)))
  (seq (for_ (iseq (var 0)) (gnm 4) (app 3 (callI m_law_value (argC (var 4) (argC (var 3) (argC (var 1) argN))))))
  (ret (var 3))))
def m_law_numbers : List D → Res D := fn 3 5 b__law_numbers
def b__law_same : SM :=
  (seq (ite (orT (notT (tst (un (oisi CS [.tup]) (var 0)))) (tst (bin Py.one (un blen (var 0)) (un blen (var 1))))) (ret (cst (.bl false))) skip)
  (seq (for_ (irng1 (un blen (var 1))) (gnm 2) (ite (notT (tst (call m_law_integer (argC (bin oidx (var 0) (var 2)) (argC (bin oidx (var 1) (var 2)) argN))))) (ret (cst (.bl false))) skip))
  (ret (cst (.bl true)))))
def m_law_same : List D → Res D := fn 2 3 b__law_same
def b__law_table : SM :=
  (seq (asg (gnm 4) (call m_law_draws (argC (var 0) (argC (bin olrep (lstE (argC (var 3) argN)) (bin omul (var 1) (var 2))) argN))))
  (ret (lcE (irng1 (var 1)) [5] (gnm 5) yes (un btuple (slc (var 4) (some (bin omul (var 5) (var 2))) (some (bin omul (bin oadd (var 5) (cst (.int 1))) (var 2))))))))
def m_law_table : List D → Res D := fn 4 6 b__law_table
def b__law_word : SM :=
  (seq (ite (tst (bin oge (var 0) (bin opow (cst (.int 10)) (cst (.int 18))))) (ret (bin omod (un bint (var 0)) (bin oshl (cst (.int 1)) (var 1)))) skip)
  (seq (asg (gnm 2) (cst (.int 0)))
  (seq (for_ (irng1 (cst (.int 3))) (gnm 3) (asg (gnm 2) (bin oadd (bin omul (var 2) (cst (.int 67108864))) (bin omod (call m_law_mixed (argC (var 0) (argC (var 3) argN))) (cst (.int 67108864))))))
  (seq (asg (gnm 4) (bin omod (call m_law_mixed (argC (var 0) (argC (cst (.int 3)) argN))) (cst (.int 6))))
  (seq (ite (tst (bin oeq (var 4) (cst (.int 0)))) (asg (gnm 2) (cst (.int 0))) skip)
  (seq (ite (tst (bin oeq (var 4) (cst (.int 1)))) (asg (gnm 2) (bin osub (bin oshl (cst (.int 1)) (cst (.int 64))) (cst (.int 1)))) skip)
  (seq (ite (tst (bin oeq (var 4) (cst (.int 2)))) (asg (gnm 2) (bin oshl (cst (.int 1)) (bin omod (call m_law_mixed (argC (var 0) (argC (cst (.int 4)) argN))) (cst (.int 64))))) skip)
  (ret (bin omod (un bint (var 2)) (bin oshl (cst (.int 1)) (var 1)))))))))))
def m_law_word : List D → Res D := fn 2 5 b__law_word
def b__law_holds : SM :=
  (seq (asg (gnm 1) (call m_law_draws (argC (call m_law_cell (argC (var 0) (argC (cst (.int 0)) argN))) (argC (lstE (argC (cst (.int 3)) (argC (cst (.int 13)) (argC (cst (.int 65)) (argC (cst (.int 65)) (argC (cst (.int 3)) (argC (cst (.int 3)) (argC (cst (.int 15)) (argC (cst (.int 7)) (argC (cst (.int 3)) argN)))))))))) argN))))
  (seq (asg (gnm 2) (bin oadd (cst (.int 1)) (bin oidx (var 1) (cst (.int 0)))))
  (seq (asg (gnm 3) (bin oidx (var 1) (cst (.int 2))))
  (seq (ite (tst (bin oeq (bin oidx (var 1) (cst (.int 4))) (cst (.int 0)))) (asg (gnm 3) (bin oidx (lstE (argC (cst (.int 0)) (argC (cst (.int 1)) (argC (cst (.int 64)) argN)))) (bin oidx (var 1) (cst (.int 5))))) skip)
  (seq (asg (gnm 4) (bin omod (bin oidx (var 1) (cst (.int 3))) (bin oadd (var 3) (cst (.int 1)))))
  (seq (asg (gnm 5) (lstE argN))
  (seq (for_ (irng1 (bin oidx (var 1) (cst (.int 1)))) (gnm 6) (app 5 (call m_law_deed (argC (call m_law_draws (argC (call m_law_cell (argC (var 0) (argC (bin oadd (cst (.int 6)) (var 6)) argN))) (argC (lstE (argC (cst (.int 13)) (argC (cst (.int 15)) (argC (cst (.int 15)) (argC (cst (.int 3)) (argC (cst (.int 15)) (argC (cst (.int 30)) (argC (cst (.int 4)) argN)))))))) argN))) (argC (bin oadd (var 2) (var 6)) argN)))))
  (seq (asg (gnm 7) (bin omod (bin oidx (var 1) (cst (.int 6))) (bin oadd (var 2) (un blen (var 5)))))
  (seq (ite (tst (bin ogt (bin oidx (var 1) (cst (.int 8))) (cst (.int 1)))) (asg (gnm 7) (bin osub (bin oadd (var 2) (un blen (var 5))) (cst (.int 1)))) skip)
  (seq (asg (gnm 8) (bin oadd (cst (.int 1)) (bin oidx (var 1) (cst (.int 7)))))
  (seq (asg (gnm 9) (call m_law_table (argC (call m_law_cell (argC (var 0) (argC (cst (.int 1)) argN))) (argC (var 8) (argC (bin oshl (cst (.int 1)) (var 2)) (argC (var 8) argN))))))
  (seq (asg (gnm 10) (call m_law_table (argC (call m_law_cell (argC (var 0) (argC (cst (.int 2)) argN))) (argC (var 8) (argC (bin oshl (cst (.int 1)) (var 2)) (argC (cst (.int 2)) argN))))))
  (seq (asg (gnm 11) (lcE (irng1 (var 2)) [21] (gnm 21) yes (call m_law_word (argC (call m_law_cell (argC (var 0) (argC (bin oadd (cst (.int 3)) (var 21)) argN))) (argC (var 3) argN)))))
  (seq (asg (gnm 12) (lcE (iseq (var 11)) [22] (gnm 22) yes (bin omod (un bint (var 22)) (bin oshl (cst (.int 1)) (var 4)))))
  (seq (asg (gnm 13) (call m_law_numbers (argC (var 5) (argC (var 3) (argC (var 11) argN)))))
  (seq (asg (gnm 14) (call m_law_numbers (argC (var 5) (argC (var 4) (argC (var 12) argN)))))
  (seq (asg (gnm 15) (call m_law_number (argC (var 9) (argC (var 10) (argC (var 3) (argC (var 11) argN))))))
  (seq (asg (gnm 16) (call m_law_number (argC (var 9) (argC (var 10) (argC (var 4) (argC (var 12) argN))))))
  (seq (ite (notT (tst (call m_law_low_too (argC (bin oadd (var 13) (lstE (argC (var 15) argN))) (argC (bin oadd (var 14) (lstE (argC (var 16) argN))) (argC (var 4) argN)))))) (ret (cst (.bl false))) skip)
  (seq (asg (gnm 17) (call m_Row (argC (var 2) (argC (un blist (var 5)) (argC (var 7) argN)))))
  (seq (asg (gnm 18) (call m_Machine (argC (var 2) (argC (un blist (var 9)) (argC (un blist (var 10)) argN)))))
  (seq (for_ (irng1 (cst (.int 2))) (gnm 19) (seq (ite (notT (tst (call m_law_integer (argC (callM "Row" "write" m_Row_write (var 17) (argC (var 3) (argC (un blist (var 11)) argN))) (argC (bin oidx (var 13) (var 7)) argN))))) (ret (cst (.bl false))) skip)
  (seq (ite (notT (tst (call m_law_integer (argC (callM "Machine" "write" m_Machine_write (var 18) (argC (var 3) (argC (un blist (var 11)) argN))) (argC (var 15) argN))))) (ret (cst (.bl false))) skip)
  (seq (ite (notT (tst (call m_law_integer (argC (callM "Row" "write" m_Row_write (var 17) (argC (var 4) (argC (un blist (var 12)) argN))) (argC (bin oidx (var 14) (var 7)) argN))))) (ret (cst (.bl false))) skip)
  (seq (ite (notT (tst (call m_law_integer (argC (callM "Machine" "write" m_Machine_write (var 18) (argC (var 4) (argC (un blist (var 12)) argN))) (argC (var 16) argN))))) (ret (cst (.bl false))) skip)
  (seq (ite (notT (tst (call m_law_same (argC (callM "Row" "all_words" m_Row_all_words (var 17) (argC (var 4) (argC (un btuple (var 12)) argN))) (argC (var 14) argN))))) (ret (cst (.bl false))) skip)
  (seq (ite (notT (tst (call m_law_same (argC (callM "Row" "all_words" m_Row_all_words (var 17) (argC (var 3) (argC (un btuple (var 11)) argN))) (argC (var 13) argN))))) (ret (cst (.bl false))) skip)
  (seq (ite (orT (notT (tst (call m_law_integer (argC (callM "Row" "write" m_Row_write (var 17) (argC (var 4) (argC (un btuple (var 12)) argN))) (argC (bin oidx (var 14) (var 7)) argN))))) (notT (tst (call m_law_integer (argC (callM "Row" "write" m_Row_write (var 17) (argC (var 3) (argC (un btuple (var 11)) argN))) (argC (bin oidx (var 13) (var 7)) argN)))))) (ret (cst (.bl false))) skip)
  (seq (ite (orT (notT (tst (call m_law_integer (argC (callM "Machine" "write" m_Machine_write (var 18) (argC (var 3) (argC (un btuple (var 11)) argN))) (argC (var 15) argN))))) (notT (tst (call m_law_integer (argC (callM "Machine" "write" m_Machine_write (var 18) (argC (var 4) (argC (un btuple (var 12)) argN))) (argC (var 16) argN)))))) (ret (cst (.bl false))) skip)
  (seq (asg (gnm 20) (un blist (var 11)))
  (seq (ite (orT (notT (tst (call m_law_same (argC (callM "Row" "all_words" m_Row_all_words (var 17) (argC (var 3) (argC (var 20) argN))) (argC (var 13) argN))))) (tst (bin Py.one (var 20) (var 11)))) (ret (cst (.bl false))) skip)
  (seq (ite (orT (notT (tst (call m_law_integer (argC (callM "Row" "write" m_Row_write (var 17) (argC (var 3) (argC (var 20) argN))) (argC (bin oidx (var 13) (var 7)) argN))))) (tst (bin Py.one (var 20) (var 11)))) (ret (cst (.bl false))) skip)
  (ite (orT (notT (tst (call m_law_integer (argC (callM "Machine" "write" m_Machine_write (var 18) (argC (var 3) (argC (var 20) argN))) (argC (var 15) argN))))) (tst (bin Py.one (var 20) (var 11)))) (ret (cst (.bl false))) skip)))))))))))))
  (ret (cst (.bl true)))))))))))))))))))))))))
def m_law_holds : List D → Res D := fn 1 23 b__law_holds
def b_law : SM :=
  (thru (ret (call m_law_holds (argC (var 0) argN))))
def m_law : List D → Res D := fn 1 1 b_law
end Py

/-! How the mirrors are computed: equations, loops, comprehensions. -/
namespace Py.U
open PySem
/-! ### equations -/
theorem var_eq {i : Nat} {e : Env} {d : D} (h : e[i]? = some (some d)) : var i e = .ok d := by
  unfold var
  rw [h]
@[simp] theorem cst_eq (d : D) (e : Env) : cst d e = .ok d := rfl
@[simp] theorem un_eq (f : D → Res D) (a : EM) (e : Env) : un f a e = (a e >>= f) := rfl
@[simp] theorem bin_eq (f : D → D → Res D) (a b : EM) (e : Env) : bin f a b e = (a e >>= fun x => b e >>= fun y => f x y) := rfl
@[simp] theorem argN_eq (e : Env) : argN e = .ok [] := rfl
@[simp] theorem argC_eq (a : EM) (r : AM) (e : Env) : argC a r e = (a e >>= fun x => r e >>= fun xs => .ok (x :: xs)) := rfl
@[simp] theorem call_eq (f : List D → Res D) (a : AM) (e : Env) : call f a e = (a e >>= f) := rfl
@[simp] theorem tst_eq (a : EM) (e : Env) : tst a e = (a e >>= truthy) := rfl
@[simp] theorem andT_eq (a b : TM) (e : Env) : andT a b e = (a e >>= fun x => if x then b e else .ok false) := rfl
@[simp] theorem orT_eq (a b : TM) (e : Env) : orT a b e = (a e >>= fun x => if x then .ok true else b e) := rfl
@[simp] theorem notT_eq (a : TM) (e : Env) : notT a e = (a e >>= fun x => .ok (!x)) := rfl
@[simp] theorem ifE_eq (t : TM) (a b : EM) (e : Env) : ifE t a b e = (t e >>= fun x => if x then a e else b e) := rfl
@[simp] theorem ite_eq (t : TM) (a b : SM) (e : Env) : ite t a b e = (t e >>= fun x => if x then a e else b e) := rfl
@[simp] theorem skip_eq (e : Env) : skip e = .ok (.next e) := rfl
@[simp] theorem ret_eq (m : EM) (e : Env) : ret m e = (m e >>= fun d => .ok (.ret d)) := rfl
@[simp] theorem asg_eq (g : GM) (m : EM) (e : Env) : asg g m e = (m e >>= fun d => lift (g d e) >>= fun e' => .ok (.next e')) := rfl
@[simp] theorem gnm_eq (i : Nat) (d : D) (e : Env) : gnm i d e = some (e.set i (some d)) := rfl
@[simp] theorem seq_eq (a b : SM) (e : Env) : seq a b e = (a e >>= fun f => match f with | .next e' => b e' | r => .ok r) := rfl
@[simp] theorem forB_eq (g : GM) (b : SM) (x : D) (e : Env) : forB g b x e = (lift (g x e) >>= b) := rfl
@[simp] theorem drop_eq (m : EM) (e : Env) : Py.drop m e = (m e >>= fun _ => .ok (.next e)) := rfl
@[simp] theorem tupE_eq (a : AM) (e : Env) : tupE a e = (a e >>= fun xs => chk xs.length (.tup xs)) := rfl
@[simp] theorem lstE_eq (a : AM) (e : Env) : lstE a e = (a e >>= fun xs => chk xs.length (.lst xs)) := rfl
@[simp] theorem andE_eq (a b : EM) (e : Env) : andE a b e = (a e >>= fun x => match x with | .bl true => b e | .bl false => .ok (.bl false) | _ => .stuck) := rfl
@[simp] theorem orE_eq (a b : EM) (e : Env) : orE a b e = (a e >>= fun x => match x with | .bl false => b e | .bl true => .ok (.bl true) | _ => .stuck) := rfl
@[simp] theorem chain_eq (f g : D → D → Res D) (a b c : EM) (e : Env) : chain f g a b c e = (a e >>= fun x => b e >>= fun y => f x y >>= fun z => match z with
  | .bl true => c e >>= fun u => g y u
  | .bl false => .ok (.bl false)
  | _ => .stuck) := rfl
@[simp] theorem iseq_eq (a : EM) (e : Env) : iseq a e = (a e >>= fun x => match x with | .lst xs => .ok xs | .tup xs => .ok xs | _ => .stuck) := rfl
@[simp] theorem for_eq (it : IM) (g : GM) (b : SM) (e : Env) : for_ it g b e = (it e >>= fun xs => forL (forB g b) xs e) := rfl
@[simp] theorem app_eq (i : Nat) (m : EM) (e : Env) : app i m e = (var i e >>= fun l => match l with
  | .lst xs => m e >>= fun d => if xs.length < SZ then .ok (.next (e.set i (some (.lst (xs ++ [d]))))) else .stuck
  | _ => .stuck) := rfl
@[simp] theorem aug_eq (i : Nat) (f : D → D → Res D) (m : EM) (e : Env) : aug i f m e = (var i e >>= fun x => m e >>= fun y => f x y >>= fun z => .ok (.next (e.set i (some z)))) := rfl
@[simp] theorem done_next (e : Env) : done (.ok (.next e)) = .ok .non := rfl
@[simp] theorem done_ret (d : D) : done (.ok (.ret d)) = .ok d := rfl
@[simp] theorem thru_eq (m : SM) (e : Env) : thru m e = noexc (m e) := rfl
@[simp] theorem brk_eq (e : Env) : brk e = .ok (.brk e) := rfl
@[simp] theorem cnt_eq (e : Env) : cnt e = .ok (.cnt e) := rfl
@[simp] theorem retN_eq (e : Env) : retN e = .ok (.ret .non) := rfl
@[simp] theorem chk_0 {d : D} : chk 0 d = .ok d := chk_ok (by decide)
@[simp] theorem chk_1 {d : D} : chk 1 d = .ok d := chk_ok (by decide)
@[simp] theorem chk_2 {d : D} : chk 2 d = .ok d := chk_ok (by decide)
@[simp] theorem chk_3 {d : D} : chk 3 d = .ok d := chk_ok (by decide)
@[simp] theorem chk_4 {d : D} : chk 4 d = .ok d := chk_ok (by decide)
@[simp] theorem chk_5 {d : D} : chk 5 d = .ok d := chk_ok (by decide)
@[simp] theorem chk_6 {d : D} : chk 6 d = .ok d := chk_ok (by decide)
@[simp] theorem chk_7 {d : D} : chk 7 d = .ok d := chk_ok (by decide)
@[simp] theorem chk_8 {d : D} : chk 8 d = .ok d := chk_ok (by decide)
@[simp] theorem chk_9 {d : D} : chk 9 d = .ok d := chk_ok (by decide)
@[simp] theorem chk_10 {d : D} : chk 10 d = .ok d := chk_ok (by decide)
@[simp] theorem chk_11 {d : D} : chk 11 d = .ok d := chk_ok (by decide)
@[simp] theorem chk_12 {d : D} : chk 12 d = .ok d := chk_ok (by decide)
@[simp] theorem chk_13 {d : D} : chk 13 d = .ok d := chk_ok (by decide)
@[simp] theorem chk_14 {d : D} : chk 14 d = .ok d := chk_ok (by decide)
@[simp] theorem chk_15 {d : D} : chk 15 d = .ok d := chk_ok (by decide)
@[simp] theorem chk_16 {d : D} : chk 16 d = .ok d := chk_ok (by decide)
@[simp] theorem chk_17 {d : D} : chk 17 d = .ok d := chk_ok (by decide)
@[simp] theorem chk_18 {d : D} : chk 18 d = .ok d := chk_ok (by decide)
@[simp] theorem chk_19 {d : D} : chk 19 d = .ok d := chk_ok (by decide)
@[simp] theorem chk_20 {d : D} : chk 20 d = .ok d := chk_ok (by decide)
@[simp] theorem chk_21 {d : D} : chk 21 d = .ok d := chk_ok (by decide)
@[simp] theorem chk_22 {d : D} : chk 22 d = .ok d := chk_ok (by decide)
@[simp] theorem chk_23 {d : D} : chk 23 d = .ok d := chk_ok (by decide)
theorem chk_sm {n : Nat} {d : D} (h : n ≤ 1000000) : chk n d = .ok d := chk_ok (Nat.le_trans h (by decide))
/-! ### calls of defs -/
theorem fn_eq {p n : Nat} {b : SM} {ds : List D} (h : ds.length = p) : fn p n b ds = done (b (ds.map some ++ List.replicate (n - p) none)) := if_pos h
theorem fn1 {n : Nat} {b : SM} {x : D} : fn 1 n b [x] = done (b (some x :: List.replicate (n - 1) none)) := if_pos rfl
theorem fn2 {n : Nat} {b : SM} {x y : D} : fn 2 n b [x, y] = done (b (some x :: some y :: List.replicate (n - 2) none)) := if_pos rfl
theorem fn3 {n : Nat} {b : SM} {x y z : D} : fn 3 n b [x, y, z] = done (b (some x :: some y :: some z :: List.replicate (n - 3) none)) := if_pos rfl
theorem fn4 {n : Nat} {b : SM} {x y z u : D} : fn 4 n b [x, y, z, u] = done (b (some x :: some y :: some z :: some u :: List.replicate (n - 4) none)) := if_pos rfl
/-! ### operators on numbers -/
@[simp] theorem oadd_ii (i j : Int) : oadd (.int i) (.int j) = .ok (.int (i + j)) := rfl
@[simp] theorem osub_ii (i j : Int) : osub (.int i) (.int j) = .ok (.int (i - j)) := rfl
theorem omul_ii {i j : Int} (h : i.natAbs < B64 ∨ j.natAbs < B64) : omul (.int i) (.int j) = .ok (.int (i * j)) := if_pos h
theorem omul_l {i j : Int} (h : -18446744073709551616 < i) (h' : i < 18446744073709551616) : omul (.int i) (.int j) = .ok (.int (i * j)) := omul_ii (.inl (by unfold B64; omega))
theorem omul_r {i j : Int} (h : -18446744073709551616 < j) (h' : j < 18446744073709551616) : omul (.int i) (.int j) = .ok (.int (i * j)) := omul_ii (.inr (by unfold B64; omega))
theorem opow18 : opow (.int 10) (.int 18) = .ok (.int 1000000000000000000) := rfl
theorem omod_ii {i j : Int} (h : 0 < j) : omod (.int i) (.int j) = .ok (.int (i % j)) := if_pos h
theorem ofdiv_ii {i j : Int} (h : 0 < j ∧ j < 1073741824) : ofdiv (.int i) (.int j) = .ok (.int (i / j)) := if_pos h
theorem oshl_ii {i j : Int} (h : 0 ≤ j ∧ (Builtin.Int.intBits i : Int) + j ≤ 134217728) : oshl (.int i) (.int j) = .ok (.int (i * 2 ^ j.toNat)) := if_pos h
theorem oshr_ii {i j : Int} (h : 0 ≤ j) : oshr (.int i) (.int j) = .ok (.int (i / 2 ^ j.toNat)) := if_pos h
@[simp] theorem oand_ii (i j : Int) : oand (.int i) (.int j) = .ok (.int (Builtin.bitAnd i j)) := rfl
@[simp] theorem olt_ii (i j : Int) : olt (.int i) (.int j) = .ok (.bl (decide (i < j))) := rfl
@[simp] theorem ole_ii (i j : Int) : ole (.int i) (.int j) = .ok (.bl (decide (i ≤ j))) := rfl
@[simp] theorem ogt_ii (i j : Int) : ogt (.int i) (.int j) = .ok (.bl (decide (j < i))) := rfl
@[simp] theorem oge_ii (i j : Int) : oge (.int i) (.int j) = .ok (.bl (decide (j ≤ i))) := rfl
@[simp] theorem oneg_i (i : Int) : oneg (.int i) = .ok (.int (-i)) := rfl
@[simp] theorem oeq_ii (i j : Int) : oeq (.int i) (.int j) = .ok (.bl (i == j)) := rfl
@[simp] theorem one_ii (i j : Int) : Py.one (.int i) (.int j) = .ok (.bl (!(i == j))) := rfl
@[simp] theorem bint_i (i : Int) : bint (.int i) = .ok (.int i) := rfl
@[simp] theorem bint_b (b : Bool) : bint (.bl b) = .ok (.int (b2i b)) := rfl
@[simp] theorem truthy_b (b : Bool) : truthy (.bl b) = .ok b := rfl
@[simp] theorem truthy_i (i : Int) : truthy (.int i) = .ok (i != 0) := rfl
@[simp] theorem blen_l (xs : List D) : blen (.lst xs) = .ok (.int xs.length) := rfl
@[simp] theorem blen_t (xs : List D) : blen (.tup xs) = .ok (.int xs.length) := rfl
@[simp] theorem btuple_l (xs : List D) : btuple (.lst xs) = .ok (.tup xs) := rfl
@[simp] theorem btuple_t (xs : List D) : btuple (.tup xs) = .ok (.tup xs) := rfl
@[simp] theorem blist_l (xs : List D) : blist (.lst xs) = .ok (.lst xs) := rfl
@[simp] theorem blist_t (xs : List D) : blist (.tup xs) = .ok (.lst xs) := rfl
@[simp] theorem onb_b (b : Bool) : onb (.bl b) = .ok (.bl (!b)) := rfl
/-! ### subscripts -/
theorem ixN_nat {n k : Nat} (h : k < n) : L2.ixN n (k : Int) = some k := by
  unfold L2.ixN
  simp [h]
theorem atI_nat {α : Type} {xs : List α} {k : Nat} (h : k < xs.length) : L2.atI xs (k : Int) = some xs[k] := by
  unfold L2.atI
  rw [ixN_nat h]
  simp [h]
theorem oidx_l {xs : List D} {k : Nat} {d : D} (h : xs[k]? = some d) : oidx (.lst xs) (.int (k : Int)) = .ok d := by
  have hk : k < xs.length := by
    rcases Nat.lt_or_ge k xs.length with h1 | h1
    · exact h1
    · rw [List.getElem?_eq_none h1] at h
      cases h
  unfold oidx
  simp only [atI_nat hk, opt]
  rw [List.getElem?_eq_getElem hk] at h
  rw [Option.some.inj h]
theorem oidx_t {xs : List D} {k : Nat} {d : D} (h : xs[k]? = some d) : oidx (.tup xs) (.int (k : Int)) = .ok d := by
  have q : oidx (.tup xs) (.int (k : Int)) = oidx (.lst xs) (.int (k : Int)) := rfl
  rw [q]
  exact oidx_l h
/-! ### loops -/
theorem rng_map (n : Nat) : rngL 0 (n : Int) = (List.range n).map fun i => D.int ((i : Nat) : Int) := by
  unfold rngL
  rw [Int.sub_zero, Int.toNat_natCast]
  refine List.map_congr_left fun i _ => ?_
  rw [Int.zero_add]
theorem rng_lt {n : Nat} (h : n ≤ 1000) : n < B62 := Nat.lt_of_le_of_lt h (by decide)
theorem irng1_int {a : EM} {e : Env} {i : Int} (h : a e = .ok (.int i)) : irng1 a e = if i.natAbs < B62 then .ok (rngL 0 i) else .stuck := by
  unfold irng1
  simp only [h, bind_ok]
theorem irng1_nat {a : EM} {e : Env} {n : Nat} (h : a e = .ok (.int (n : Int))) (hn : n < B62) : irng1 a e = .ok ((List.range n).map fun i => .int ((i : Nat) : Int)) := by
  rw [← rng_map, irng1_int h]
  exact if_pos hn
theorem forL_inv {b : D → Env → Res Fl} (I : Nat → Env → Prop) : ∀ {xs : List D} {e : Env} (k : Nat), I k e → (∀ i e, (h : i < xs.length) → I (k + i) e → ∃ e', b xs[i] e = .ok (.next e') ∧ I (k + i + 1) e') → ∃ e', forL b xs e = .ok (.next e') ∧ I (k + xs.length) e'
  | [], e, k, h, _ => ⟨e, rfl, h⟩
  | x :: xs, e, k, h, hb => by
    obtain ⟨e1, h1, i1⟩ := hb 0 e (by simp) h
    have h1' : b x e = .ok (.next e1) := h1
    obtain ⟨e2, h2, i2⟩ := forL_inv (xs := xs) I (k + 1) i1 fun i e' hi hI => by
      have hI' : I (k + (i + 1)) e' := by
        rw [show k + (i + 1) = k + 1 + i by omega]
        exact hI
      obtain ⟨e3, h3, i3⟩ := hb (i + 1) e' (by simpa using hi) hI'
      refine ⟨e3, by simpa using h3, ?_⟩
      rw [show k + 1 + i + 1 = k + (i + 1) + 1 by omega]
      exact i3
    refine ⟨e2, ?_, ?_⟩
    · unfold forL
      rw [h1']
      exact h2
    · rw [show k + (x :: xs).length = k + 1 + xs.length by simp; omega]
      exact i2
/-- for each of range(n) -/
theorem forR_inv {b : D → Env → Res Fl} (I : Nat → Env → Prop) {n : Nat} {e : Env} (h0 : I 0 e) (hb : ∀ i e, i < n → I i e → ∃ e', b (.int ((i : Nat) : Int)) e = .ok (.next e') ∧ I (i + 1) e') :
    ∃ e', forL b ((List.range n).map fun i => .int ((i : Nat) : Int)) e = .ok (.next e') ∧ I n e' := by
  have q := forL_inv (b := b) (xs := (List.range n).map fun i => .int ((i : Nat) : Int)) I 0 h0 fun i e' hi hI => by
    have hi' : i < n := by simpa using hi
    have := hb i e' hi' (by simpa using hI)
    simpa using this
  simpa using q
/-- for each: return if it is so -/
theorem forL_find {b : D → Env → Res Fl} {p : D → Bool} {d : D} {i : Nat} : ∀ {xs : List D} {e : Env}, (∀ x ∈ xs, ∀ o, b x (e.set i o) = if p x then .ok (.ret d) else .ok (.next (e.set i (some x)))) → (b' : ∀ x ∈ xs, b x e = if p x then .ok (.ret d) else .ok (.next (e.set i (some x)))) →
    (xs.any p = true → forL b xs e = .ok (.ret d)) ∧ (xs.any p = false → ∃ o, forL b xs e = .ok (.next o) ∧ (o = e ∨ ∃ x, o = e.set i (some x)))
  | [], e, _, _ => ⟨fun h => by simp at h, fun _ => ⟨e, rfl, .inl rfl⟩⟩
  | x :: xs, e, h, h' => by
    have q := h' x List.mem_cons_self
    cases e1 : p x with
    | true =>
      rw [e1] at q
      refine ⟨fun _ => ?_, fun z => by simp [e1] at z⟩
      unfold forL
      rw [q] <;> rfl
    | false =>
      rw [e1] at q
      have ss : ∀ o, (e.set i (some x)).set i o = e.set i o := fun o => by simp [List.set_set]
      obtain ⟨q1, q2⟩ := forL_find (xs := xs) (e := e.set i (some x)) (b := b) (p := p) (d := d) (i := i) (fun y hy o => by
        rw [ss, ss]
        exact h y (List.mem_cons_of_mem _ hy) o) (fun y hy => by
        rw [ss]
        exact h y (List.mem_cons_of_mem _ hy) (some x))
      have e2 : forL b (x :: xs) e = forL b xs (e.set i (some x)) := by
        rw [forL]
        rw [q] <;> rfl
      refine ⟨fun z => ?_, fun z => ?_⟩
      · rw [e2]
        exact q1 (by simpa [e1] using z)
      · rw [e2]
        obtain ⟨o, h1, h2⟩ := q2 (by simpa [e1] using z)
        refine ⟨o, h1, .inr ?_⟩
        rcases h2 with h2 | ⟨y, h2⟩
        · exact ⟨x, h2⟩
        · exact ⟨y, by rw [h2, ss]⟩
/-! ### comprehensions -/
theorem compL_map {f : D → Res (Option D)} {h : D → D} : ∀ {xs : List D}, (∀ x ∈ xs, f x = .ok (some (h x))) → compL f xs = .ok (xs.map h)
  | [], _ => rfl
  | x :: xs, q => by
    unfold compL
    rw [q x List.mem_cons_self, compL_map fun y hy => q y (List.mem_cons_of_mem _ hy)] <;> rfl
/-- [elt for x in xs] -/
theorem lc_map {it : IM} {vs : List Nat} {g : GM} {elt : EM} {e : Env} {xs : List D} {h : D → D} (hi : it e = .ok xs) (hz : xs.length ≤ SZ) (hx : ∀ x ∈ xs, ∃ e1, g x (wipe e vs) = some e1 ∧ elt e1 = .ok (h x)) : lcE it vs g yes elt e = .ok (.lst (xs.map h)) := by
  unfold lcE
  rw [hi]
  have q : compL (compF vs g yes elt e) xs = .ok (xs.map h) := compL_map fun x hm => by
    obtain ⟨e1, h1, h2⟩ := hx x hm
    unfold compF
    rw [h1]
    simp [yes, h2]
  simp only [bind_ok, q, noexc_ok, List.length_map]
  exact chk_ok hz
/-! ### sums, all -/
theorem intsOf_map : ∀ is : List Int, intsOf (is.map .int) = some is
  | [] => rfl
  | i :: is => by
    simp only [List.map_cons, intsOf, intsOf_map is]
    rfl
theorem boolsOf_map : ∀ is : List Bool, boolsOf (is.map .bl) = some is
  | [] => rfl
  | i :: is => by
    simp only [List.map_cons, boolsOf, boolsOf_map is]
    rfl
theorem bsum_ints (is : List Int) : bsum (.lst (is.map .int)) = .ok (.int is.sum) := by
  unfold bsum
  simp only [intsOf_map]
theorem ball_bools (bs : List Bool) : ball (.lst (bs.map .bl)) = .ok (.bl (bs.all id)) := by
  unfold ball
  simp only [boolsOf_map]
/-! ### bits -/
def bitI (c : Int) (p : Nat) : Int := c / 2 ^ p % 2
theorem bitI_01 (c : Int) (p : Nat) : bitI c p = 0 ∨ bitI c p = 1 := by
  unfold bitI
  omega
theorem oand1 (i : Int) : oand (.int i) (.int 1) = .ok (.int (i % 2)) := by rw [oand_ii, PyProof.Rows.bitAnd_m1]
theorem oshr_nat (c : Int) (p : Nat) : oshr (.int c) (.int (p : Int)) = .ok (.int (c / 2 ^ p)) := by
  rw [oshr_ii (Int.natCast_nonneg p), Int.toNat_natCast]
theorem intBits_1 : (Builtin.Int.intBits 1 : Int) = 1 := by decide
theorem intBits_0 : (Builtin.Int.intBits 0 : Int) = 0 := by decide
theorem oshl1 (p : Nat) (h : p ≤ 1000) : oshl (.int 1) (.int (p : Int)) = .ok (.int (2 ^ p)) := by
  rw [oshl_ii ⟨Int.natCast_nonneg p, by rw [intBits_1]; omega⟩, Int.toNat_natCast, Int.one_mul]
theorem oshl_bit {b : Int} (hb : b = 0 ∨ b = 1) (p : Nat) (h : p ≤ 1000) : oshl (.int b) (.int (p : Int)) = .ok (.int (b * 2 ^ p)) := by
  rw [oshl_ii ⟨Int.natCast_nonneg p, by rcases hb with e | e <;> subst e <;> (first | rw [intBits_0] | rw [intBits_1]) <;> omega⟩, Int.toNat_natCast]
theorem bits_sum (c : Int) : ∀ w : Nat, ((List.range w).map fun p => bitI c p * 2 ^ p).sum = c % 2 ^ w
  | 0 => by simp [Int.emod_one]
  | w + 1 => by
    rw [List.range_succ, List.map_append, List.sum_append, bits_sum c w]
    have h : c % 2 ^ (w + 1) = c % 2 ^ w + 2 ^ w * (c / 2 ^ w % 2) := by
      have h2 : (2 : Int) ^ (w + 1) = 2 ^ w * 2 := Int.pow_succ 2 w
      have h3 : (0 : Int) ≤ 2 ^ w := Int.le_of_lt (Int.pow_pos (by decide))
      have e1 := Int.emod_def c (2 ^ w)
      have e2 := Int.emod_def c (2 ^ w * 2)
      have e3 := Int.emod_def (c / 2 ^ w) 2
      have e4 : c / 2 ^ w / 2 = c / (2 ^ w * 2) := Int.ediv_ediv_of_nonneg h3
      rw [h2, e1, e2, e3, ← e4, Int.mul_sub, Int.mul_assoc]
      omega
    rw [h]
    simp [bitI, Int.mul_comm]
end Py.U

/-! More about mirrors: comprehensions over made lists, enumerate, slices, draws. -/
namespace Py.U
open PySem
theorem lst_at (ns : List Int) {k : Nat} (h : k < ns.length) : oidx (.lst (ns.map .int)) (.int (k : Int)) = .ok (.int ns[k]) := oidx_l (by simp [h])
def Drawn : List Int → List Int → Prop
  | [], [] => True
  | d :: ds, s :: ss => (0 ≤ d ∧ d < s) ∧ Drawn ds ss
  | _, _ => False
theorem Drawn.snoc : ∀ {ds ss : List Int} {d s : Int}, Drawn ds ss → 0 ≤ d → d < s → Drawn (ds ++ [d]) (ss ++ [s])
  | [], [], _, _, _, h1, h2 => ⟨⟨h1, h2⟩, trivial⟩
  | d :: ds, s :: ss, _, _, h, h1, h2 => ⟨h.1, Drawn.snoc h.2 h1 h2⟩
  | [], _ :: _, _, _, h, _, _ => h.elim
  | _ :: _, [], _, _, h, _, _ => h.elim
theorem Drawn.length : ∀ {ds ss : List Int}, Drawn ds ss → ds.length = ss.length
  | [], [], _ => rfl
  | d :: ds, s :: ss, h => congrArg (· + 1) (Drawn.length h.2)
  | [], _ :: _, h => h.elim
  | _ :: _, [], h => h.elim
theorem rng3 {e : Env} : irng1 (cst (.int 3)) e = .ok [.int 0, .int 1, .int 2] := by
  rw [irng1_int (i := 3) rfl]
  rfl
theorem pow_nat (w : Nat) : ((2 : Int) ^ w) = ((2 ^ w : Nat) : Int) := by simp
theorem pow_pos2 (w : Nat) : (0 : Int) < 2 ^ w := Int.pow_pos (by decide)
theorem le_sz {n : Nat} (h : n ≤ 1000) : n ≤ SZ := Nat.le_trans h (by decide)
theorem pl_mono : ∀ (n m : Nat) (d : D), pl n d = true → n ≤ m → pl m d = true
  | _, _, .non, _, _ => by simp [pl]
  | _, _, .bl _, _, _ => by simp [pl]
  | _, _, .int _, _, _ => by simp [pl]
  | _, _, .str _, _, _ => by simp [pl]
  | 0, _, .tup _, h, _ => by simp [pl] at h
  | 0, _, .lst _, h, _ => by simp [pl] at h
  | n + 1, 0, .tup _, _, h => by omega
  | n + 1, 0, .lst _, _, h => by omega
  | n + 1, m + 1, .tup xs, h, hl => by
    simp only [pl, List.all_eq_true] at h ⊢
    exact fun x hx => pl_mono n m x (h x hx) (by omega)
  | n + 1, m + 1, .lst xs, h, hl => by
    simp only [pl, List.all_eq_true] at h ⊢
    exact fun x hx => pl_mono n m x (h x hx) (by omega)
  | n, _, .ins _ _, h, _ => by cases n <;> simp [pl] at h
  | n, _, .dic _, h, _ => by cases n <;> simp [pl] at h
mutual
theorem eqv_refl : ∀ (n : Nat) (d : D), pl n d = true → eqv d d = true
  | _, .non, _ => by simp [eqv]
  | _, .bl _, _ => by simp [eqv]
  | _, .int _, _ => by simp [eqv]
  | _, .str _, _ => by simp [eqv]
  | 0, .tup _, h => by simp [pl] at h
  | 0, .lst _, h => by simp [pl] at h
  | n + 1, .tup xs, h => by
    simp only [pl] at h
    unfold eqv
    exact eqv_reflL n xs h
  | n + 1, .lst xs, h => by
    simp only [pl] at h
    unfold eqv
    exact eqv_reflL n xs h
  | n, .ins _ _, h => by cases n <;> simp [pl] at h
  | n, .dic _, h => by cases n <;> simp [pl] at h
theorem eqv_reflL : ∀ (n : Nat) (ds : List D), ds.all (pl n) = true → eqv.eqvL ds ds = true
  | _, [], _ => by simp [eqv.eqvL]
  | n, d :: ds, h => by
    simp only [List.all_cons, Bool.and_eq_true] at h
    simp only [eqv.eqvL, eqv_refl n d h.1, eqv_reflL n ds h.2, Bool.and_self]
end
theorem compL_mapI {α : Type} {f : D → Res (Option D)} {k h : α → D} : ∀ {ys : List α}, (∀ y ∈ ys, f (k y) = .ok (some (h y))) → compL f (ys.map k) = .ok (ys.map h)
  | [], _ => rfl
  | y :: ys, q => by
    rw [List.map_cons, List.map_cons]
    unfold compL
    rw [q y List.mem_cons_self, compL_mapI fun z hz => q z (List.mem_cons_of_mem _ hz)] <;> rfl
theorem lc_mapI {α : Type} {it : IM} {vs : List Nat} {g : GM} {elt : EM} {e : Env} {ys : List α} {k h : α → D} (hi : it e = .ok (ys.map k)) (hz : ys.length ≤ SZ) (hx : ∀ y ∈ ys, ∃ e1, g (k y) (wipe e vs) = some e1 ∧ elt e1 = .ok (h y)) : lcE it vs g yes elt e = .ok (.lst (ys.map h)) := by
  unfold lcE
  rw [hi]
  have q : compL (compF vs g yes elt e) (ys.map k) = .ok (ys.map h) := compL_mapI fun x hm => by
    obtain ⟨e1, h1, h2⟩ := hx x hm
    unfold compF
    rw [h1]
    simp [yes, h2]
  simp only [bind_ok, q, noexc_ok, List.length_map]
  exact chk_ok hz
theorem sum_map {α : Type} (f : α → Int) (ys : List α) : bsum (.lst (ys.map fun y => .int (f y))) = .ok (.int (ys.map f).sum) := by
  have q := bsum_ints (ys.map f)
  rw [List.map_map] at q
  exact q
theorem enumL_snoc : ∀ (xs : List D) (k : Nat) (d : D), enumL k (xs ++ [d]) = enumL k xs ++ [.tup [.int ((k + xs.length : Nat) : Int), d]]
  | [], k, d => by simp [enumL]
  | x :: xs, k, d => by
    simp only [List.cons_append, enumL, enumL_snoc xs (k + 1) d, List.length_cons]
    rw [show k + 1 + xs.length = k + (xs.length + 1) by omega]
theorem enum_rng (f : Nat → D) : ∀ w : Nat, enumL 0 ((List.range w).map f) = (List.range w).map fun p => .tup [.int ((p : Nat) : Int), f p]
  | 0 => rfl
  | w + 1 => by
    rw [List.range_succ, List.map_append, List.map_append, List.map_singleton, List.map_singleton, enumL_snoc, enum_rng f w]
    simp
theorem getD_map (cs : List Int) : (List.range cs.length).map (fun i => cs.getD i 0) = cs := by
  apply List.ext_getElem
  · simp
  · intro i h1 h2
    simp at h1
    simp [h1]
theorem seq_next {a b : SM} {e e' : Env} (h : a e = .ok (.next e')) : seq a b e = b e' := by
  rw [seq_eq, h]
  rfl
theorem oidx_mem {xs : List D} {i : Int} (h0 : 0 ≤ i) (h1 : i < (xs.length : Int)) : ∃ d ∈ xs, oidx (.lst xs) (.int i) = .ok d := by
  obtain ⟨k, rfl⟩ : ∃ k : Nat, i = (k : Int) := ⟨i.toNat, by omega⟩
  have hk : k < xs.length := by omega
  exact ⟨xs[k], List.getElem_mem hk, oidx_l (by simp [hk])⟩
theorem cut_mem {α : Type} {xs : List α} {lo hi : Option Int} {x : α} (h : x ∈ cut xs lo hi) : x ∈ xs := List.mem_of_mem_drop (List.mem_of_mem_take h)
theorem cut_len {α : Type} {xs : List α} {lo hi : Option Int} : (cut xs lo hi).length ≤ xs.length := by
  unfold cut
  rw [List.length_take, List.length_drop]
  omega
theorem ix30 {a b c : D} : oidx (.lst [a, b, c]) (.int 0) = .ok a := rfl
theorem ix31 {a b c : D} : oidx (.lst [a, b, c]) (.int 1) = .ok b := rfl
theorem ix32 {a b c : D} : oidx (.lst [a, b, c]) (.int 2) = .ok c := rfl
theorem ix40 {a b c d : D} : oidx (.lst [a, b, c, d]) (.int 0) = .ok a := rfl
theorem ix41 {a b c d : D} : oidx (.lst [a, b, c, d]) (.int 1) = .ok b := rfl
theorem ix42 {a b c d : D} : oidx (.lst [a, b, c, d]) (.int 2) = .ok c := rfl
theorem ix43 {a b c d : D} : oidx (.lst [a, b, c, d]) (.int 3) = .ok d := rfl
theorem oslc_l (xs : List D) (lo hi : Option Int) : oslc (.lst xs) lo hi = .ok (.lst (cut xs lo hi)) := rfl
theorem oadd_ll {a b : List D} (h : a.length + b.length ≤ SZ) : oadd (.lst a) (.lst b) = .ok (.lst (a ++ b)) := if_pos h
theorem slc_eq (a : EM) (lo hi : Option EM) (e : Env) : slc a lo hi e = (a e >>= fun x => slc.bnd lo e >>= fun i => slc.bnd hi e >>= fun j => oslc x i j) := rfl
theorem bnd_none (e : Env) : slc.bnd none e = .ok none := rfl
theorem bnd_some (m : EM) (e : Env) : slc.bnd (some m) e = (m e >>= fun d => match d with | .int i => .ok (some i) | _ => .stuck) := rfl
end Py.U

/-! Words of numbers, bit by bit. -/
namespace Py.U
def bt (n p : Nat) : Nat := n / 2 ^ p % 2
theorem bt01 (n p : Nat) : bt n p = 0 ∨ bt n p = 1 := by
  unfold bt
  omega
theorem bt_tb (n p : Nat) : bt n p = if n.testBit p then 1 else 0 := by
  rw [Nat.testBit_eq_decide_div_mod_eq]
  unfold bt
  by_cases h : n / 2 ^ p % 2 = 1
  · simp [h]
  · simp [h]
    omega
theorem bt_zero (p : Nat) : bt 0 p = 0 := by
  unfold bt
  rw [Nat.zero_div]
theorem bt_mod {n p w : Nat} (h : p < w) : bt (n % 2 ^ w) p = bt n p := by
  rw [bt_tb, bt_tb, Nat.testBit_mod_two_pow]
  simp [h]
theorem mod_succ2 (n p : Nat) : n % 2 ^ (p + 1) = n % 2 ^ p + 2 ^ p * bt n p := by
  unfold bt
  rw [Nat.pow_succ, Nat.mod_mul]
theorem eq_of_bt {w : Nat} : ∀ {m n : Nat}, m < 2 ^ w → n < 2 ^ w → (∀ p, p < w → bt m p = bt n p) → m = n := fun {m n} hm hn h => by
  apply Nat.eq_of_testBit_eq
  intro i
  by_cases hi : i < w
  · have := h i hi
    rw [bt_tb, bt_tb] at this
    cases e1 : m.testBit i <;> cases e2 : n.testBit i <;> simp_all
  · rw [Nat.testBit_lt_two_pow (Nat.lt_of_lt_of_le hm (Nat.pow_le_pow_right (by decide) (by omega))), Nat.testBit_lt_two_pow (Nat.lt_of_lt_of_le hn (Nat.pow_le_pow_right (by decide) (by omega)))]
theorem bt_ones {w p : Nat} (h : p < w) : bt (2 ^ w - 1) p = 1 := by
  rw [bt_tb, Nat.testBit_two_pow_sub_one]
  simp [h]
theorem bt_inv {w p x : Nat} (h : p < w) (hx : x < 2 ^ w) : bt (2 ^ w - 1 - x) p = 1 - bt x p := by
  rw [show 2 ^ w - 1 - x = 2 ^ w - (x + 1) by omega, bt_tb, bt_tb, Nat.testBit_two_pow_sub_succ hx]
  cases x.testBit p <;> simp [h]
theorem bt_and (x y p : Nat) : bt (x &&& y) p = if bt x p + bt y p = 2 then 1 else 0 := by
  rw [bt_tb, bt_tb, bt_tb, Nat.testBit_and]
  cases x.testBit p <;> cases y.testBit p <;> simp
theorem bt_or (x y p : Nat) : bt (x ||| y) p = if 0 < bt x p + bt y p then 1 else 0 := by
  rw [bt_tb, bt_tb, bt_tb, Nat.testBit_or]
  cases x.testBit p <;> cases y.testBit p <;> simp
theorem bt_xor (x y p : Nat) : bt (x ^^^ y) p = if bt x p = bt y p then 0 else 1 := by
  rw [bt_tb, bt_tb, bt_tb, Nat.testBit_xor]
  cases x.testBit p <;> cases y.testBit p <;> simp
theorem bt_shift0 (x : Nat) {w : Nat} (h : 0 < w) : bt (2 * x % 2 ^ w) 0 = 0 := by
  rw [bt_mod h]
  unfold bt
  simp
theorem bt_shift (x : Nat) {w p : Nat} (h : p + 1 < w) : bt (2 * x % 2 ^ w) (p + 1) = bt x p := by
  rw [bt_mod h]
  unfold bt
  rw [Nat.pow_succ, Nat.mul_comm (2 ^ p) 2, ← Nat.div_div_eq_div_mul, Nat.mul_div_cancel_left x (by decide)]
/-! ### sums -/
def car (x y p : Nat) : Nat := (x % 2 ^ p + y % 2 ^ p) / 2 ^ p
theorem car_lt (x y p : Nat) : car x y p < 2 := by
  have hp : 0 < 2 ^ p := Nat.two_pow_pos p
  have h1 := Nat.mod_lt x hp
  have h2 := Nat.mod_lt y hp
  unfold car
  rw [Nat.div_lt_iff_lt_mul hp]
  omega
theorem car_zero (x y : Nat) : car x y 0 = 0 := by
  unfold car
  simp [Nat.mod_one]
theorem add_div (x y p : Nat) : (x + y) / 2 ^ p = x / 2 ^ p + y / 2 ^ p + car x y p := by
  have hp : 0 < 2 ^ p := Nat.two_pow_pos p
  unfold car
  have e1 := Nat.div_add_mod x (2 ^ p)
  have e2 := Nat.div_add_mod y (2 ^ p)
  have e : x + y = 2 ^ p * (x / 2 ^ p + y / 2 ^ p) + (x % 2 ^ p + y % 2 ^ p) := by
    rw [Nat.mul_add]
    omega
  conv => lhs; rw [e]
  rw [Nat.mul_add_div hp]
theorem bt_add {x y p w : Nat} (h : p < w) : bt ((x + y) % 2 ^ w) p = (bt x p + bt y p + car x y p) % 2 := by
  rw [bt_mod h]
  unfold bt
  rw [add_div]
  omega
theorem car_succ (x y p : Nat) : car x y (p + 1) = if 2 ≤ bt x p + bt y p + car x y p then 1 else 0 := by
  have hp : 0 < 2 ^ p := Nat.two_pow_pos p
  have hc := car_lt x y p
  have hx := bt01 x p
  have hy := bt01 y p
  have e : car x y (p + 1) = (bt x p + bt y p + car x y p) / 2 := by
    unfold car
    rw [mod_succ2, mod_succ2]
    have e1 : x % 2 ^ p + 2 ^ p * bt x p + (y % 2 ^ p + 2 ^ p * bt y p) = 2 ^ p * (bt x p + bt y p) + (x % 2 ^ p + y % 2 ^ p) := by
      rw [Nat.mul_add]
      omega
    rw [e1, Nat.pow_succ, ← Nat.div_div_eq_div_mul, Nat.mul_add_div hp]
  rw [e]
  split <;> omega
/-! ### differences -/
def bor (x y p : Nat) : Nat := if x % 2 ^ p < y % 2 ^ p then 1 else 0
theorem bor_zero (x y : Nat) : bor x y 0 = 0 := by
  unfold bor
  simp [Nat.mod_one]
theorem bor_succ (x y p : Nat) : bor x y (p + 1) = if bt x p < bt y p + bor x y p then 1 else 0 := by
  have hp : 0 < 2 ^ p := Nat.two_pow_pos p
  have h1 := Nat.mod_lt x hp
  have h2 := Nat.mod_lt y hp
  unfold bor
  rw [mod_succ2, mod_succ2]
  generalize x % 2 ^ p = X at *
  generalize y % 2 ^ p = Y at *
  generalize 2 ^ p = P at *
  rcases bt01 x p with e1 | e1 <;> rcases bt01 y p with e2 | e2 <;> rw [e1, e2] <;> by_cases h : X < Y <;> simp [h] <;> omega
theorem bt_sub {x y p w : Nat} (h : p < w) (hy : y < 2 ^ w) : bt ((x + (2 ^ w - y)) % 2 ^ w) p = (bt x p + bt y p + bor x y p) % 2 := by
  have hp : 0 < 2 ^ p := Nat.two_pow_pos p
  rw [bt_mod h]
  obtain ⟨k, rfl⟩ : ∃ k, w = p + (k + 1) := ⟨w - p - 1, by omega⟩
  have hE : 2 ^ (p + (k + 1)) = 2 ^ p * (2 * 2 ^ k) := by rw [Nat.pow_add, Nat.pow_succ, Nat.mul_comm (2 ^ k) 2]
  have hyq : y / 2 ^ p < 2 * 2 ^ k := by
    rw [Nat.div_lt_iff_lt_mul hp, Nat.mul_comm, ← hE]
    exact hy
  have h1 := Nat.mod_lt x hp
  have h2 := Nat.mod_lt y hp
  have e1 := Nat.div_add_mod x (2 ^ p)
  have e2 := Nat.div_add_mod y (2 ^ p)
  unfold bt bor
  rw [hE] at hy ⊢
  generalize 2 ^ k = F at *
  generalize hxq : x / 2 ^ p = xq at *
  generalize hyq' : y / 2 ^ p = yq at *
  generalize x % 2 ^ p = X at *
  generalize y % 2 ^ p = Y at *
  generalize 2 ^ p = P at *
  by_cases c : X < Y
  · rw [if_pos c]
    have e3 : x + (P * (2 * F) - y) = P * (xq + (2 * F - yq - 1)) + (P + X - Y) := by
      have m1 : P * (xq + (2 * F - yq - 1)) = P * xq + (P * (2 * F) - P * yq - P) := by
        rw [Nat.mul_add, Nat.mul_sub, Nat.mul_sub, Nat.mul_one]
      have m2 : P * (yq + 1) ≤ P * (2 * F) := Nat.mul_le_mul_left P (by omega)
      rw [Nat.mul_add, Nat.mul_one] at m2
      rw [m1]
      omega
    rw [e3, Nat.mul_add_div hp, Nat.div_eq_of_lt (show P + X - Y < P by omega)]
    omega
  · rw [if_neg c]
    have e3 : x + (P * (2 * F) - y) = P * (xq + (2 * F - yq)) + (X - Y) := by
      have m1 : P * (xq + (2 * F - yq)) = P * xq + (P * (2 * F) - P * yq) := by rw [Nat.mul_add, Nat.mul_sub]
      have m2 : P * yq ≤ P * (2 * F) := Nat.mul_le_mul_left P (by omega)
      rw [m1]
      omega
    rw [e3, Nat.mul_add_div hp, Nat.div_eq_of_lt (show X - Y < P by omega)]
    omega
end Py.U

namespace Py.U
open PySem
theorem cell_ok (ns : List Int) (k : Nat) : ∃ c : Int, m_law_cell [.lst (ns.map .int), .int (k : Int)] = .ok (.int c) := by
  unfold m_law_cell
  rw [fn2]
  unfold b__law_cell
  by_cases h : k < ns.length
  · have h' : (k : Int) < (ns.length : Int) := by omega
    refine ⟨ns[k], ?_⟩
    simp [var, h', lst_at ns h]
  · have h' : ¬ (k : Int) < (ns.length : Int) := by omega
    by_cases h0 : 0 < ns.length
    · have h0' : (0 : Int) < (ns.length : Int) := by omega
      have hm : k % ns.length < ns.length := Nat.mod_lt _ h0
      have e1 : omod (.int (k : Int)) (.int (ns.length : Int)) = .ok (.int ((k : Int) % (ns.length : Int))) := omod_ii h0'
      have e2 := lst_at ns hm
      rw [Int.natCast_emod] at e2
      refine ⟨ns[k % ns.length] % 100003 + 7919 * k, ?_⟩
      simp [var, h', h0, e1, e2, omod_ii, omul_l, omul_r]
    · refine ⟨7919 * k + 5, ?_⟩
      simp [var, h', h0, omul_l, omul_r]
theorem mixed_ok (c k : Int) : ∃ r : Int, 0 ≤ r ∧ r < 125000001 ∧ m_law_mixed [.int c, .int k] = .ok (.int r) := by
  unfold m_law_mixed
  rw [fn2]
  unfold b__law_mixed
  have a0 := Int.emod_nonneg (c * 48271 + k * 1103515245 + 12345) (b := 2147483647) (by decide)
  have a1 := Int.emod_lt_of_pos (c * 48271 + k * 1103515245 + 12345) (b := 2147483647) (by decide)
  generalize e1 : (c * 48271 + k * 1103515245 + 12345) % 2147483647 = a at a0 a1
  have b0 := Int.emod_nonneg (a * a + 69621) (b := 2147483563) (by decide)
  have b1 := Int.emod_lt_of_pos (a * a + 69621) (b := 2147483563) (by decide)
  generalize e2 : (a * a + 69621) % 2147483563 = b at b0 b1
  have m1 : omul (.int a) (.int a) = .ok (.int (a * a)) := omul_ii (by unfold B64; omega)
  have m2 : omul (.int b) (.int (b % 65521 + 3)) = .ok (.int (b * (b % 65521 + 3))) := omul_ii (by unfold B64; omega)
  have c0 := Int.emod_nonneg (b * (b % 65521 + 3)) (b := 1000000007) (by decide)
  have c1 := Int.emod_lt_of_pos (b * (b % 65521 + 3)) (b := 1000000007) (by decide)
  refine ⟨b * (b % 65521 + 3) % 1000000007 / 8, by omega, by omega, ?_⟩
  simp [var, omod_ii, omul_l, omul_r, ofdiv_ii, e1, e2, m1, m2]
def DI (c : Int) (ss : List Int) (i : Nat) (e : Env) : Prop := ∃ (ds : List Int) (l : Int) (o : Option D), Drawn ds (ss.take i) ∧ e = [some (.int c), some (.lst (ss.map .int)), some (.lst (ds.map .int)), some (.int l), o]
def drawB : SM := Py.ite (andT (tst (bin oge (var 0) (bin opow (cst (.int 10)) (cst (.int 18))))) (andT (tst (bin olt (var 4) (cst (.int 60)))) (tst (bin ogt (var 3) (cst (.int 0)))))) (seq (app 2 (bin omod (un bint (var 3)) (bin oidx (var 1) (var 4))))
  (asg (gnm 3) (bin ofdiv (var 3) (bin oidx (var 1) (var 4))))) (app 2 (bin omod (call m_law_mixed (argC (var 0) (argC (var 4) argN))) (bin oidx (var 1) (var 4))))
theorem draw1 {c l z s r : Int} {ss ds : List Int} {o : Option D} (ix : oidx (.lst (ss.map .int)) (.int z) = .ok (.int s)) (h1 : 0 < s) (h2 : s < 1073741824) (hr : m_law_mixed [.int c, .int z] = .ok (.int r)) (hl : ds.length < SZ) :
    drawB [some (.int c), some (.lst (ss.map .int)), some (.lst (ds.map .int)), some (.int l), some (.int z)] =
      if 1000000000000000000 ≤ c ∧ z < 60 ∧ 0 < l then .ok (.next [some (.int c), some (.lst (ss.map .int)), some (.lst ((ds ++ [l % s]).map .int)), some (.int (l / s)), some (.int z)])
      else .ok (.next [some (.int c), some (.lst (ss.map .int)), some (.lst ((ds ++ [r % s]).map .int)), some (.int l), some (.int z)]) := by
  have hp := opow18
  have hl2 : (ds.map D.int).length < SZ := by rw [List.length_map]; exact hl
  unfold drawB
  by_cases g1 : (1000000000000000000 : Int) ≤ c
  · by_cases g2 : z < 60
    · by_cases g3 : 0 < l
      · simp [var, hp, g1, g2, g3, ix, omod_ii h1, ofdiv_ii ⟨h1, h2⟩, hl]
      · simp [var, hp, g1, g2, g3, ix, omod_ii h1, hr, hl]
    · simp [var, hp, g1, g2, ix, omod_ii h1, hr, hl]
  · simp [var, hp, g1, ix, omod_ii h1, hr, hl]
theorem draw_step {c : Int} {ss : List Int} (hz : ss.length < 1000) (hs : ∀ s ∈ ss, 0 < s ∧ s < 1073741824) : ∀ i e, i < ss.length → DI c ss i e → ∃ e', forB (gnm 4) drawB (.int ((i : Nat) : Int)) e = .ok (.next e') ∧ DI c ss (i + 1) e' := by
    rintro i e hi ⟨ds, l, o, hd, rfl⟩
    have hl := hd.length
    rw [List.length_take] at hl
    have hl2 : ds.length < SZ := by
      have : ds.length < 1000 := by omega
      exact Nat.lt_trans this (by decide)
    obtain ⟨h1, h2⟩ := hs ss[i] (List.getElem_mem hi)
    have ix := lst_at ss hi
    have ht : ss.take (i + 1) = ss.take i ++ [ss[i]] := by rw [List.take_add_one]; simp [hi]
    obtain ⟨r, r0, r1, hr⟩ := mixed_ok c i
    have q := draw1 (l := l) (o := o) ix h1 h2 hr hl2
    rw [forB_eq, gnm_eq, lift_some, bind_ok]
    by_cases g : (1000000000000000000 : Int) ≤ c ∧ (i : Int) < 60 ∧ 0 < l
    · rw [if_pos g] at q
      exact ⟨_, q, ds ++ [l % ss[i]], l / ss[i], _, by rw [ht]; exact hd.snoc (Int.emod_nonneg _ (by omega)) (Int.emod_lt_of_pos _ h1), rfl⟩
    · rw [if_neg g] at q
      exact ⟨_, q, ds ++ [r % ss[i]], l, _, by rw [ht]; exact hd.snoc (Int.emod_nonneg _ (by omega)) (Int.emod_lt_of_pos _ h1), rfl⟩
theorem v1 (c : Int) (ss : List Int) (hz : ss.length < 1000) (hs : ∀ s ∈ ss, 0 < s ∧ s < 1073741824) : ∃ ds : List Int, Drawn ds ss ∧ ∃ l o, forL (forB (gnm 4) drawB) ((List.range ss.length).map fun i => .int ((i : Nat) : Int)) [some (.int c), some (.lst (ss.map .int)), some (.lst []), some (.int c), none] = .ok (.next [some (.int c), some (.lst (ss.map .int)), some (.lst (ds.map .int)), some (.int l), o]) := by
  obtain ⟨e', h1, ds, l, o, hd, rfl⟩ := forR_inv (e := [some (.int c), some (.lst (ss.map .int)), some (.lst []), some (.int c), none]) (DI c ss) ⟨[], c, none, by simp [Drawn], rfl⟩ (draw_step hz hs)
  rw [List.take_length] at hd
  exact ⟨ds, hd, l, o, h1⟩
theorem v2 (c : Int) (ss : List Int) (hz : ss.length < 1000) : irng1 (un blen (var 1)) [some (.int c), some (.lst (ss.map .int)), some (.lst []), some (.int c), none] = .ok ((List.range ss.length).map fun i => .int ((i : Nat) : Int)) := by
  have hn : ss.length < B62 := rng_lt (by omega)
  exact irng1_nat (n := ss.length) (by simp [var]) hn
theorem draws_ok (c : Int) (ss : List Int) (hz : ss.length < 1000) (hs : ∀ s ∈ ss, 0 < s ∧ s < 1073741824) : ∃ ds : List Int, Drawn ds ss ∧ m_law_draws [.int c, .lst (ss.map .int)] = .ok (.lst (ds.map .int)) := by
  obtain ⟨ds, hd, l, o, h1⟩ := v1 c ss hz hs
  have hr := v2 c ss hz
  refine ⟨ds, hd, ?_⟩
  unfold m_law_draws
  rw [fn2]
  unfold b__law_draws
  have hc : chk ([] : List D).length (.lst []) = .ok (.lst []) := rfl
  show done (seq (asg (gnm 2) (lstE argN)) (seq (asg (gnm 3) (var 0)) (seq (for_ (irng1 (un blen (var 1))) (gnm 4) drawB) (ret (var 2)))) [some (.int c), some (.lst (ss.map .int)), none, none, none]) = _
  rw [seq_eq, asg_eq, lstE_eq, argN_eq, bind_ok, hc, bind_ok, gnm_eq, lift_some, bind_ok, bind_ok]
  dsimp only
  rw [seq_eq, asg_eq]
  have e1 : var 0 (List.set [some (D.int c), some (D.lst (ss.map .int)), none, none, none] 2 (some (D.lst []))) = .ok (.int c) := rfl
  rw [e1, bind_ok, gnm_eq, lift_some, bind_ok, bind_ok]
  dsimp only
  rw [seq_eq, for_eq]
  have e2 : irng1 (un blen (var 1)) (List.set (List.set [some (D.int c), some (D.lst (ss.map .int)), none, none, none] 2 (some (D.lst []))) 3 (some (D.int c))) = _ := hr
  rw [e2, bind_ok]
  have e3 : forL (forB (gnm 4) drawB) ((List.range ss.length).map fun i => .int ((i : Nat) : Int)) (List.set (List.set [some (D.int c), some (D.lst (ss.map .int)), none, none, none] 2 (some (D.lst []))) 3 (some (D.int c))) = _ := h1
  rw [e3, bind_ok]
  rfl

end Py.U

namespace Py.U
open PySem
/-! ### deeds -/
inductive Deed where
  | zero | ones | inv (a : Nat) | and (a b : Nat) | or (a b : Nat) | xor (a b : Nat)
  | shift (a : Nat) | minus (a : Nat) | add (a b : Nat) | sub (a b : Nat) | count (p r : Nat) (ps : List Nat)
def nD (n : Nat) : D := .int (n : Int)
def Deed.d : Deed → D
  | .zero => .tup [.str "zero"]
  | .ones => .tup [.str "ones"]
  | .inv a => .tup [.str "not", nD a]
  | .and a b => .tup [.str "and", nD a, nD b]
  | .or a b => .tup [.str "or", nD a, nD b]
  | .xor a b => .tup [.str "xor", nD a, nD b]
  | .shift a => .tup [.str "shift", nD a]
  | .minus a => .tup [.str "minus", nD a]
  | .add a b => .tup [.str "add", nD a, nD b]
  | .sub a b => .tup [.str "sub", nD a, nD b]
  | .count p r ps => .tup [.str "count", nD p, nD r, .tup (ps.map nD)]
/-- its values stand ahead of n -/
def Deed.ok (n : Nat) : Deed → Prop
  | .zero => True
  | .ones => True
  | .inv a => a < n
  | .and a b => a < n ∧ b < n
  | .or a b => a < n ∧ b < n
  | .xor a b => a < n ∧ b < n
  | .shift a => a < n
  | .minus a => a < n
  | .add a b => a < n ∧ b < n
  | .sub a b => a < n ∧ b < n
  | .count p r ps => (p = 2 ∨ p = 3 ∨ p = 5) ∧ r < p ∧ 1 ≤ ps.length ∧ ps.length ≤ 4 ∧ ∀ a ∈ ps, a < n
theorem ix7 {a b c d e f g : D} : oidx (.lst [a, b, c, d, e, f, g]) (.int 0) = .ok a ∧ oidx (.lst [a, b, c, d, e, f, g]) (.int 1) = .ok b ∧ oidx (.lst [a, b, c, d, e, f, g]) (.int 2) = .ok c ∧ oidx (.lst [a, b, c, d, e, f, g]) (.int 3) = .ok d ∧ oidx (.lst [a, b, c, d, e, f, g]) (.int 4) = .ok e ∧ oidx (.lst [a, b, c, d, e, f, g]) (.int 5) = .ok f ∧ oidx (.lst [a, b, c, d, e, f, g]) (.int 6) = .ok g := ⟨rfl, rfl, rfl, rfl, rfl, rfl, rfl⟩
theorem mod_nat (z : Int) {n : Nat} (h : 0 < n) : ∃ a : Nat, a < n ∧ z % (n : Int) = (a : Int) := by
  have h0 : (0 : Int) < (n : Int) := by omega
  have a0 := Int.emod_nonneg z (b := (n : Int)) (by omega)
  have a1 := Int.emod_lt_of_pos z h0
  exact ⟨(z % (n : Int)).toNat, by omega, by omega⟩
def namesD : List D := [.str "zero", .str "ones", .str "not", .str "and", .str "or", .str "xor", .str "shift", .str "minus", .str "add", .str "sub"]
/-! ### what deeds do, bit by bit -/
def at0 (bs : List Nat) (a : Nat) : Nat := bs.getD a 0
def tot (bs : List Nat) (ps : List Nat) : Nat := (ps.map (at0 bs)).sum
def Deed.marked : Deed → Bool
  | .shift _ => true
  | .minus _ => true
  | .add _ _ => true
  | .sub _ _ => true
  | .count _ _ _ => true
  | _ => false
def Deed.top : Deed → Nat
  | .count p _ _ => p
  | _ => 2
/-- the bit of a deed without a mark -/
def Deed.bit0 (bs : List Nat) : Deed → Nat
  | .ones => 1
  | .inv a => 1 - at0 bs a
  | .and a b => if at0 bs a + at0 bs b = 2 then 1 else 0
  | .or a b => if 0 < at0 bs a + at0 bs b then 1 else 0
  | .xor a b => if at0 bs a = at0 bs b then 0 else 1
  | _ => 0
/-- the bit and the next mark of a deed with a mark -/
def Deed.bit1 (bs : List Nat) (m : Nat) : Deed → Nat
  | .shift _ => m
  | .minus a => (at0 bs a + m) % 2
  | .add a b => (at0 bs a + at0 bs b + m) % 2
  | .sub a b => (at0 bs a + at0 bs b + m) % 2
  | .count _ r _ => if m = r then 1 else 0
  | _ => 0
def Deed.next (bs : List Nat) (m : Nat) : Deed → Nat
  | .shift a => at0 bs a
  | .minus a => if 1 ≤ at0 bs a + m then 1 else 0
  | .add a b => if 2 ≤ at0 bs a + at0 bs b + m then 1 else 0
  | .sub a b => if at0 bs a < at0 bs b + m then 1 else 0
  | .count p _ ps => (m + tot bs ps) % p
  | _ => 0
def Bits (bs : List Nat) : Prop := ∀ b ∈ bs, b = 0 ∨ b = 1
theorem at0_01 {bs : List Nat} (h : Bits bs) (a : Nat) : at0 bs a = 0 ∨ at0 bs a = 1 := by
  unfold at0
  by_cases q : a < bs.length
  · simp only [List.getD_eq_getElem?_getD, List.getElem?_eq_getElem q, Option.getD_some]
    exact h _ (List.getElem_mem q)
  · rw [List.getD_eq_getElem?_getD, List.getElem?_eq_none (by omega)]
    exact .inl rfl
theorem bits_at {bs : List Nat} {a : Nat} (h : a < bs.length) : oidx (.lst (bs.map nD)) (nD a) = .ok (nD (at0 bs a)) := by
  refine oidx_l (k := a) ?_
  unfold at0
  simp [h]
theorem nat_eq (a b : Nat) : oeq (nD a) (nD b) = .ok (.bl (decide (a = b))) := by
  unfold nD
  rw [oeq_ii]
  congr 2
  rw [Bool.eq_iff_iff]
  simp only [beq_iff_eq, decide_eq_true_eq]
  exact Int.ofNat_inj
/-! the law's own bit -/
theorem ixt1 {a b : D} {r : List D} : oidx (.tup (a :: b :: r)) (.int 1) = .ok b := oidx_t (k := 1) rfl
theorem ixt0 {a : D} {r : List D} : oidx (.tup (a :: r)) (.int 0) = .ok a := oidx_t (k := 0) rfl
theorem ixt2 {a b c : D} {r : List D} : oidx (.tup (a :: b :: c :: r)) (.int 2) = .ok c := oidx_t (k := 2) rfl
theorem ixt3 {a b c d : D} {r : List D} : oidx (.tup (a :: b :: c :: d :: r)) (.int 3) = .ok d := oidx_t (k := 3) rfl
theorem nD_0 : nD 0 = .int 0 := rfl
theorem nD_1 : nD 1 = .int 1 := rfl
theorem str_eq (a b : String) : oeq (.str a) (.str b) = .ok (.bl (a == b)) := rfl
theorem nadd (a b : Nat) : oadd (nD a) (nD b) = .ok (nD (a + b)) := by
  unfold nD
  rw [oadd_ii]
  rfl
theorem nmod (a : Nat) {p : Nat} (h : 0 < p) : omod (nD a) (nD p) = .ok (nD (a % p)) := by
  unfold nD
  rw [omod_ii (by omega)]
  rfl
theorem bint_n (a : Nat) : bint (nD a) = .ok (nD a) := rfl
theorem bint_p (b : Bool) : bint (.bl b) = .ok (nD (if b then 1 else 0)) := by cases b <;> rfl
theorem tot_snoc (bs : List Nat) (ps : List Nat) (a : Nat) : tot bs (ps ++ [a]) = tot bs ps + at0 bs a := by
  unfold tot
  rw [List.map_append, List.sum_append]
  simp
def tops (xs : List Deed) : List Nat := (xs.filter Deed.marked).map Deed.top
/-- the deeds' values stand ahead -/
def Row (n : Nat) (xs : List Deed) : Prop := ∀ k, (h : k < xs.length) → xs[k].ok (n + k)
def Deed.name : Deed → String
  | .zero => "zero"
  | .ones => "ones"
  | .inv _ => "not"
  | .and _ _ => "and"
  | .or _ _ => "or"
  | .xor _ _ => "xor"
  | .shift _ => "shift"
  | .minus _ => "minus"
  | .add _ _ => "add"
  | .sub _ _ => "sub"
  | .count _ _ _ => "count"
theorem deed_name (x : Deed) : oidx x.d (.int 0) = .ok (.str x.name) := by cases x <;> exact ixt0
theorem marked_in (x : Deed) : oin (.str x.name) (.lst [.str "shift", .str "minus", .str "add", .str "sub", .str "count"]) = .ok (.bl x.marked) := by cases x <;> rfl
theorem callI_ok {f : List D → Res D} {a : AM} {e : Env} {ds : List D} {d : D} (h1 : a e = .ok ds) (h2 : f ds = .ok d) (h3 : imm d = true) : callI f a e = .ok d := by
  unfold callI
  rw [h1, bind_ok, h2]
  simp [h3]
theorem bitN (l k : Nat) : (oshr (nD l) (nD k) >>= fun x => oand x (.int 1)) = .ok (nD (l / 2 ^ k % 2)) := by
  unfold nD
  rw [oshr_nat, bind_ok, oand1]
  simp
theorem bitN1 (l k : Nat) : oshr (nD l) (nD k) = .ok (nD (l / 2 ^ k)) := by
  unfold nD
  rw [oshr_nat]
  simp
theorem bitN2 (l : Nat) : oand (nD l) (.int 1) = .ok (nD (l % 2)) := by
  unfold nD
  rw [oand1]
  rfl
def rowD (n : Nat) (xs : List Deed) (out : Nat) : D := .ins "Row" [("inputs", nD n), ("deeds", .tup (xs.map Deed.d)), ("out", nD out)]
theorem row_inputs (n : Nat) (xs : List Deed) (out : Nat) : oattr ["Row"] "inputs" (rowD n xs out) = .ok (nD n) := rfl
theorem row_deeds (n : Nat) (xs : List Deed) (out : Nat) : oattr ["Row"] "deeds" (rowD n xs out) = .ok (.tup (xs.map Deed.d)) := rfl
theorem enum_at {ds : List D} {k i : Nat} (h : i < (enumL k ds).length) (h2 : i < ds.length) : (enumL k ds)[i] = .tup [.int ((k + i : Nat) : Int), ds[i]] := by
  induction ds generalizing k i with
  | nil => simp at h2
  | cons d ds ih =>
    cases i with
    | zero => rfl
    | succ i =>
      simp only [enumL, List.getElem_cons_succ]
      rw [ih (k := k + 1) _ (by simpa using h2)]
      rw [show k + 1 + i = k + (i + 1) by omega]
theorem enum_len : ∀ (ds : List D) (k : Nat), (enumL k ds).length = ds.length
  | [], _ => rfl
  | d :: ds, k => by
    simp only [enumL, List.length_cons]
    rw [enum_len ds]
theorem isint_ok (n : Nat) : m_is_integer [nD n] = .ok (.bl true) := by
  have h1 : oisi CS [.int] (nD n) = .ok (.bl true) := rfl
  have h2 : oisi CS [.bl] (nD n) = .ok (.bl false) := rfl
  unfold m_is_integer
  rw [fn1]
  unfold b_is_integer
  generalize nD n = N at *
  simp [var, h1, h2]
theorem is_below_ok (a b : Nat) : m_is_below [nD a, nD b] = .ok (.bl (decide (a < b))) := by
  have h := isint_ok a
  have h1 : ole (.int 0) (nD a) = .ok (.bl true) := by
    unfold nD
    rw [ole_ii, decide_eq_true (by omega)]
  have h2 : olt (nD a) (nD b) = .ok (.bl (decide (a < b))) := by
    unfold nD
    rw [olt_ii]
    congr 2
    exact decide_eq_decide.mpr (by omega)
  unfold m_is_below
  rw [fn2]
  unfold b_is_below
  generalize nD a = A at *
  generalize nD b = B at *
  simp [var, h, h1, h2]
theorem shl_nD {n : Nat} (h : n ≤ 1000) : oshl (.int 1) (nD n) = .ok (nD (2 ^ n)) := by
  unfold nD
  rw [oshl1 n h]
  simp
/-! ### the same? -/
theorem nmap (xs : List Nat) : xs.map nD = (xs.map fun (n : Nat) => (n : Int)).map D.int := by
  rw [List.map_map]
  rfl
/-! ### the row is made -/
theorem inputs_ok {n : Nat} (h1 : 1 ≤ n) (h3 : n ≤ 3) : m_is_inputs [nD n] = .ok (.bl true) := by
  have : n = 1 ∨ n = 2 ∨ n = 3 := by omega
  rcases this with rfl | rfl | rfl <;> rfl
theorem are_values_ok {W : D} {ps : List Nat} {k : Nat} (hW : iseq (var 0) [some W, some (nD k), none] = .ok (ps.map nD)) (hp : ∀ a ∈ ps, a < k) (hz : ps.length ≤ 1000) : m_are_values [W, nD k] = .ok (.bl true) := by
  have hc : lcE (iseq (var 0)) [2] (gnm 2) yes (call m_is_below (argC (var 2) (argC (var 1) argN))) [some W, some (nD k), none] = .ok (.lst (ps.map fun _ => .bl true)) := by
    refine lc_mapI (k := nD) hW (le_sz hz) fun a ha => ?_
    have q := is_below_ok a k
    rw [decide_eq_true (hp a ha)] at q
    generalize nD a = A at *
    generalize nD k = N at *
    exact ⟨_, rfl, by simp only [wipe]; simp [var, q]⟩
  have hb : ball (.lst (ps.map fun _ => .bl true)) = .ok (.bl true) := by
    have := ball_bools (ps.map fun _ => true)
    rw [List.map_map] at this
    refine this.trans ?_
    rw [show (ps.map fun _ => true).all id = true by simp]
  unfold m_are_values
  rw [fn2]
  unfold b_are_values
  generalize nD k = N at *
  generalize D.lst (ps.map fun _ => .bl true) = Z at *
  simp [var, hc, hb]
theorem values_t {ps : List Nat} {k : Nat} (hp : ∀ a ∈ ps, a < k) (hz : ps.length ≤ 1000) : m_are_values [.tup (ps.map nD), nD k] = .ok (.bl true) := are_values_ok (by simp [var]) hp hz
theorem count_deed_ok {p r k : Nat} {ps : List Nat} (hp : p = 2 ∨ p = 3 ∨ p = 5) (hr : r < p) (h1 : 1 ≤ ps.length) (h4 : ps.length ≤ 4) (ha : ∀ a ∈ ps, a < k) : m_is_count_deed [(Deed.count p r ps).d, nD k] = .ok (.bl true) := by
  have q1 := isint_ok p
  have q2 := is_below_ok r p
  rw [decide_eq_true hr] at q2
  have q3 := values_t ha (by omega)
  have q4 : onotin (nD p) (.tup [.int 2, .int 3, .int 5]) = .ok (.bl false) := by rcases hp with rfl | rfl | rfl <;> rfl
  have q5 : blen (Deed.count p r ps).d = .ok (.int 4) := rfl
  have q6 : oslc (Deed.count p r ps).d (some 1) none = .ok (.tup [nD p, nD r, .tup (ps.map nD)]) := rfl
  have q7 : oisi CS [.tup] (.tup (ps.map nD)) = .ok (.bl true) := rfl
  have q8 : blen (.tup (ps.map nD)) = .ok (.int ((ps.length : Nat) : Int)) := by simp
  have q9 : ole (.int 1) (.int ((ps.length : Nat) : Int)) = .ok (.bl true) := by rw [ole_ii, decide_eq_true (by omega)]
  have q10 : ole (.int ((ps.length : Nat) : Int)) (.int 4) = .ok (.bl true) := by rw [ole_ii, decide_eq_true (by omega)]
  unfold m_is_count_deed
  rw [fn2]
  unfold b_is_count_deed
  generalize (Deed.count p r ps).d = X at *
  generalize D.tup (ps.map nD) = T at *
  generalize ((ps.length : Nat) : Int) = Z at *
  generalize nD p = P' at *
  generalize nD r = R' at *
  generalize nD k = K' at *
  simp [var, gtup, gtupL, slc_eq, bnd_none, bnd_some, q1, q2, q3, q4, q5, q6, q7, q8, q9, q10]
theorem deed_plain {s : String} {vs : List Nat} {k : Nat} (hs : oeq (.str s) (.str "count") = .ok (.bl false)) (ht : onothas tab_SIZES (.str s) = .ok (.bl false)) (hl : olook tab_SIZES (.str s) = .ok (.int (vs.length : Int))) (ha : ∀ a ∈ vs, a < k) (hz : vs.length ≤ 1000) : m_is_deed [.tup (.str s :: vs.map nD), nD k] = .ok (.bl true) := by
  have q1 : oisi CS [.tup] (.tup (.str s :: vs.map nD)) = .ok (.bl true) := rfl
  have q2 : truthy (.tup (.str s :: vs.map nD)) = .ok true := by simp [truthy]
  have q3 : oidx (.tup (.str s :: vs.map nD)) (.int 0) = .ok (.str s) := oidx_t (k := 0) rfl
  have q4 : oisi CS [.str] (.str s) = .ok (.bl true) := rfl
  have q5 : blen (.tup (.str s :: vs.map nD)) = .ok (.int ((vs.length : Int) + 1)) := by simp
  have q6 : oslc (.tup (.str s :: vs.map nD)) (some 1) none = .ok (.tup (vs.map nD)) := by
    show Res.ok (D.tup (cut (.str s :: vs.map nD) (some 1) none)) = _
    have e : cut (D.str s :: vs.map nD) (some 1) none = vs.map nD := by
      unfold cut
      have e0 : HT.sIx (D.str s :: vs.map nD).length 0 (some 1) = 1 := by
        rw [show (1 : Int) = ((1 : Nat) : Int) from rfl, HT.sIx_nat]
        simp
      have e1 : HT.sIx (D.str s :: vs.map nD).length (D.str s :: vs.map nD).length none = (D.str s :: vs.map nD).length := rfl
      rw [e0, e1]
      have l : (vs.map nD).length = vs.length := List.length_map _
      simp only [List.drop_succ_cons, List.drop_zero, List.length_cons, Nat.add_sub_cancel]
      exact List.take_of_length_le (by omega)
    rw [e]
  have q7 := values_t ha hz
  unfold m_is_deed
  rw [fn2]
  unfold b_is_deed
  generalize D.tup (.str s :: vs.map nD) = X at *
  generalize D.tup (vs.map nD) = T at *
  generalize nD k = K' at *
  simp [var, slc_eq, bnd_none, bnd_some, q1, q2, q3, q4, q5, q6, q7, hs, ht, hl]
theorem deed_count {p r k : Nat} {ps : List Nat} (hp : p = 2 ∨ p = 3 ∨ p = 5) (hr : r < p) (h1 : 1 ≤ ps.length) (h4 : ps.length ≤ 4) (ha : ∀ a ∈ ps, a < k) : m_is_deed [(Deed.count p r ps).d, nD k] = .ok (.bl true) := by
  have q := count_deed_ok hp hr h1 h4 ha
  have q1 : oisi CS [.tup] (Deed.count p r ps).d = .ok (.bl true) := rfl
  have q2 : truthy (Deed.count p r ps).d = .ok true := rfl
  have q3 : oidx (Deed.count p r ps).d (.int 0) = .ok (.str "count") := rfl
  have q4 : oisi CS [.str] (.str "count") = .ok (.bl true) := rfl
  have q5 : oeq (.str "count") (.str "count") = .ok (.bl true) := rfl
  unfold m_is_deed
  rw [fn2]
  unfold b_is_deed
  generalize (Deed.count p r ps).d = X at *
  generalize nD k = K' at *
  simp [var, q, q1, q2, q3, q4, q5]
theorem is_deed_ok {k : Nat} {x : Deed} (h : x.ok k) : m_is_deed [x.d, nD k] = .ok (.bl true) := by
  cases x with
  | zero => exact deed_plain (s := "zero") (vs := []) rfl rfl rfl (by simp) (by simp)
  | ones => exact deed_plain (s := "ones") (vs := []) rfl rfl rfl (by simp) (by simp)
  | inv a => exact deed_plain (s := "not") (vs := [a]) rfl rfl rfl (by simpa [Deed.ok] using h) (by simp)
  | and a b => exact deed_plain (s := "and") (vs := [a, b]) rfl rfl rfl (by simpa [Deed.ok] using h) (by simp)
  | or a b => exact deed_plain (s := "or") (vs := [a, b]) rfl rfl rfl (by simpa [Deed.ok] using h) (by simp)
  | xor a b => exact deed_plain (s := "xor") (vs := [a, b]) rfl rfl rfl (by simpa [Deed.ok] using h) (by simp)
  | shift a => exact deed_plain (s := "shift") (vs := [a]) rfl rfl rfl (by simpa [Deed.ok] using h) (by simp)
  | minus a => exact deed_plain (s := "minus") (vs := [a]) rfl rfl rfl (by simpa [Deed.ok] using h) (by simp)
  | add a b => exact deed_plain (s := "add") (vs := [a, b]) rfl rfl rfl (by simpa [Deed.ok] using h) (by simp)
  | sub a b => exact deed_plain (s := "sub") (vs := [a, b]) rfl rfl rfl (by simpa [Deed.ok] using h) (by simp)
  | count p r ps => exact deed_count h.1 h.2.1 h.2.2.1 h.2.2.2.1 h.2.2.2.2

theorem made_eq {p n : Nat} {cls : String} {body : SM} {ds : List D} {c : String} {fs : List (String × D)} {r : Env} (hl : ds.length + 1 = p) (h : body ((some (.ins cls []) :: ds.map some) ++ List.replicate (n - p) none) = .ok (.next (some (.ins c fs) :: r))) : made p n cls body ds = .ok (.ins c fs) := by
  unfold made
  rw [if_pos hl, h]
theorem drawn7 {ds : List Int} {a b c d e f g : Int} (h : Drawn ds [a, b, c, d, e, f, g]) : ∃ x0 x1 x2 x3 x4 x5 x6, ds = [x0, x1, x2, x3, x4, x5, x6] ∧ (0 ≤ x0 ∧ x0 < a) ∧ (0 ≤ x3 ∧ x3 < d) ∧ 0 ≤ x6 ∧ x6 < g := by
  match ds, h with
  | [x0, x1, x2, x3, x4, x5, x6], ⟨h0, _, _, h3, _, _, h6, _⟩ => exact ⟨x0, x1, x2, x3, x4, x5, x6, rfl, h0, h3, h6⟩
theorem Row.snoc {n : Nat} {xs : List Deed} {x : Deed} (hr : Row n xs) (hx : x.ok (n + xs.length)) : Row n (xs ++ [x]) := fun k hk => by
  by_cases h : k < xs.length
  · rw [List.getElem_append_left h]
    exact hr k h
  · have e : k = xs.length := by
      simp at hk
      omega
    subst e
    simpa using hx
theorem mod_nD (z : Int) {n : Nat} (h : 0 < n) : ∃ a : Nat, a < n ∧ omod (.int z) (nD n) = .ok (nD a) := by
  obtain ⟨a, ha, e⟩ := mod_nat z h
  refine ⟨a, ha, ?_⟩
  unfold nD
  rw [omod_ii (by omega), e]
end Py.U

namespace Py.U
open PySem
/-! ### words of deeds -/
def bts (ns : List Nat) (p : Nat) : List Nat := ns.map fun n => bt n p
theorem bts_bits (ns : List Nat) (p : Nat) : Bits (bts ns p) := fun b hb => by
  obtain ⟨n, _, rfl⟩ := List.mem_map.mp hb
  exact bt01 n p
theorem at0_bts (ns : List Nat) (p a : Nat) : at0 (bts ns p) a = bt (at0 ns a) p := by
  unfold at0 bts
  by_cases h : a < ns.length
  · simp [h]
  · simp [h, bt_zero]
def onesAt (ns ps : List Nat) : Nat → Nat
  | 0 => 0
  | q + 1 => onesAt ns ps q + tot (bts ns q) ps
def cw (ns : List Nat) (p r : Nat) (ps : List Nat) : Nat → Nat
  | 0 => 0
  | q + 1 => cw ns p r ps q + if onesAt ns ps q % p = r then 2 ^ q else 0
def Deed.val (w : Nat) (ns : List Nat) : Deed → Nat
  | .zero => 0
  | .ones => 2 ^ w - 1
  | .inv a => 2 ^ w - 1 - at0 ns a
  | .and a b => at0 ns a &&& at0 ns b
  | .or a b => at0 ns a ||| at0 ns b
  | .xor a b => at0 ns a ^^^ at0 ns b
  | .shift a => 2 * at0 ns a % 2 ^ w
  | .minus a => (0 + (2 ^ w - at0 ns a)) % 2 ^ w
  | .add a b => (at0 ns a + at0 ns b) % 2 ^ w
  | .sub a b => (at0 ns a + (2 ^ w - at0 ns b)) % 2 ^ w
  | .count p r ps => cw ns p r ps w
/-- the mark at a place -/
def Deed.mk (ns : List Nat) (p : Nat) : Deed → Nat
  | .shift a => if p = 0 then 0 else bt (at0 ns a) (p - 1)
  | .minus a => bor 0 (at0 ns a) p
  | .add a b => car (at0 ns a) (at0 ns b) p
  | .sub a b => bor (at0 ns a) (at0 ns b) p
  | .count m _ ps => onesAt ns ps p % m
  | _ => 0
theorem cw_lt (ns : List Nat) (p r : Nat) (ps : List Nat) : ∀ q, cw ns p r ps q < 2 ^ q
  | 0 => by
    show 0 < 1
    decide
  | q + 1 => by
    have h := cw_lt ns p r ps q
    unfold cw
    rw [Nat.pow_succ]
    split <;> omega
theorem bt_cw (ns : List Nat) (m r : Nat) (ps : List Nat) {p : Nat} : ∀ {w : Nat}, p < w → bt (cw ns m r ps w) p = if onesAt ns ps p % m = r then 1 else 0
  | 0, h => by omega
  | w + 1, h => by
    have hl := cw_lt ns m r ps w
    have hp : 0 < 2 ^ w := Nat.two_pow_pos w
    unfold cw
    by_cases e : p < w
    · rw [← bt_cw ns m r ps e]
      split
      · rw [← bt_mod e (n := cw ns m r ps w + 2 ^ w), Nat.add_mod_right, bt_mod e]
      · rfl
    · have e2 : p = w := by omega
      subst e2
      split
      · unfold bt
        rw [Nat.add_div_right _ hp, Nat.div_eq_of_lt hl]
      · unfold bt
        rw [Nat.add_zero, Nat.div_eq_of_lt hl]
/-- words below 2 ^ w -/
def Low (w : Nat) (ns : List Nat) : Prop := ∀ n ∈ ns, n < 2 ^ w
theorem at0_low {w : Nat} {ns : List Nat} (h : Low w ns) (a : Nat) : at0 ns a < 2 ^ w := by
  unfold at0
  by_cases q : a < ns.length
  · simp only [List.getD_eq_getElem?_getD, List.getElem?_eq_getElem q, Option.getD_some]
    exact h _ (List.getElem_mem q)
  · rw [List.getD_eq_getElem?_getD, List.getElem?_eq_none (by omega)]
    exact Nat.two_pow_pos w
theorem val_lt {w : Nat} {ns : List Nat} (h : Low w ns) (x : Deed) : x.val w ns < 2 ^ w := by
  have hp : 0 < 2 ^ w := Nat.two_pow_pos w
  cases x with
  | zero => exact hp
  | ones =>
    show 2 ^ w - 1 < 2 ^ w
    omega
  | inv a =>
    show 2 ^ w - 1 - at0 ns a < 2 ^ w
    omega
  | and a b => exact Nat.and_lt_two_pow _ (at0_low h b)
  | or a b => exact Nat.or_lt_two_pow (at0_low h a) (at0_low h b)
  | xor a b => exact Nat.xor_lt_two_pow (at0_low h a) (at0_low h b)
  | count p r ps => exact cw_lt ns p r ps w
  | _ => exact Nat.mod_lt _ hp
theorem val_bit0 {w p : Nat} {ns : List Nat} (h : Low w ns) (hp : p < w) {x : Deed} (hm : x.marked = false) : bt (x.val w ns) p = x.bit0 (bts ns p) := by
  cases x with
  | zero => exact bt_zero p
  | ones => exact bt_ones hp
  | inv a =>
    show bt (2 ^ w - 1 - at0 ns a) p = 1 - at0 (bts ns p) a
    rw [bt_inv hp (at0_low h a), at0_bts]
  | and a b =>
    show bt (at0 ns a &&& at0 ns b) p = if at0 (bts ns p) a + at0 (bts ns p) b = 2 then 1 else 0
    rw [bt_and, at0_bts, at0_bts]
  | or a b =>
    show bt (at0 ns a ||| at0 ns b) p = if 0 < at0 (bts ns p) a + at0 (bts ns p) b then 1 else 0
    rw [bt_or, at0_bts, at0_bts]
  | xor a b =>
    show bt (at0 ns a ^^^ at0 ns b) p = if at0 (bts ns p) a = at0 (bts ns p) b then 0 else 1
    rw [bt_xor, at0_bts, at0_bts]
  | _ => cases hm
theorem val_bit1 {w p : Nat} {ns : List Nat} (h : Low w ns) (hp : p < w) {x : Deed} (hm : x.marked = true) : bt (x.val w ns) p = x.bit1 (bts ns p) (x.mk ns p) := by
  cases x with
  | shift a =>
    show bt (2 * at0 ns a % 2 ^ w) p = if p = 0 then 0 else bt (at0 ns a) (p - 1)
    cases p with
    | zero => rw [bt_shift0 _ hp, if_pos rfl]
    | succ p => rw [bt_shift _ hp, if_neg (by omega), Nat.add_sub_cancel]
  | minus a =>
    show bt ((0 + (2 ^ w - at0 ns a)) % 2 ^ w) p = (at0 (bts ns p) a + bor 0 (at0 ns a) p) % 2
    rw [bt_sub hp (at0_low h a), at0_bts, bt_zero, Nat.zero_add]
  | add a b =>
    show bt ((at0 ns a + at0 ns b) % 2 ^ w) p = (at0 (bts ns p) a + at0 (bts ns p) b + car (at0 ns a) (at0 ns b) p) % 2
    rw [bt_add hp, at0_bts, at0_bts]
  | sub a b =>
    show bt ((at0 ns a + (2 ^ w - at0 ns b)) % 2 ^ w) p = (at0 (bts ns p) a + at0 (bts ns p) b + bor (at0 ns a) (at0 ns b) p) % 2
    rw [bt_sub hp (at0_low h b), at0_bts, at0_bts]
  | count m r ps => exact bt_cw ns m r ps hp
  | _ => cases hm
theorem mk_next {ns : List Nat} (p : Nat) {x : Deed} (hm : x.marked = true) : x.mk ns (p + 1) = x.next (bts ns p) (x.mk ns p) := by
  cases x with
  | shift a =>
    show (if p + 1 = 0 then 0 else bt (at0 ns a) (p + 1 - 1)) = at0 (bts ns p) a
    rw [if_neg (by omega), Nat.add_sub_cancel, at0_bts]
  | minus a =>
    show bor 0 (at0 ns a) (p + 1) = if 1 ≤ at0 (bts ns p) a + bor 0 (at0 ns a) p then 1 else 0
    rw [bor_succ, bt_zero, at0_bts]
    by_cases c : 0 < bt (at0 ns a) p + bor 0 (at0 ns a) p
    · rw [if_pos c, if_pos (show 1 ≤ bt (at0 ns a) p + bor 0 (at0 ns a) p from c)]
    · rw [if_neg c, if_neg (show ¬ 1 ≤ bt (at0 ns a) p + bor 0 (at0 ns a) p from c)]
  | add a b =>
    show car (at0 ns a) (at0 ns b) (p + 1) = if 2 ≤ at0 (bts ns p) a + at0 (bts ns p) b + car (at0 ns a) (at0 ns b) p then 1 else 0
    rw [car_succ, at0_bts, at0_bts]
  | sub a b =>
    show bor (at0 ns a) (at0 ns b) (p + 1) = if at0 (bts ns p) a < at0 (bts ns p) b + bor (at0 ns a) (at0 ns b) p then 1 else 0
    rw [bor_succ, at0_bts, at0_bts]
  | count m r ps =>
    show (onesAt ns ps p + tot (bts ns p) ps) % m = (onesAt ns ps p % m + tot (bts ns p) ps) % m
    rw [Nat.mod_add_mod]
  | _ => cases hm
theorem bor_lt (x y p : Nat) : bor x y p < 2 := by
  unfold bor
  split <;> omega
/-! ### all values -/
def vals (w : Nat) (bs : List Nat) (xs : List Deed) : List Nat := xs.foldl (fun ns x => ns ++ [x.val w ns]) bs
theorem vals_app (w : Nat) (bs : List Nat) (xs ys : List Deed) : vals w bs (xs ++ ys) = vals w (vals w bs xs) ys := by
  unfold vals
  rw [List.foldl_append]
theorem vals_snoc (w : Nat) (bs : List Nat) (xs : List Deed) (x : Deed) : vals w bs (xs ++ [x]) = vals w bs xs ++ [x.val w (vals w bs xs)] := by
  rw [vals_app]
  rfl
theorem vals_len (w : Nat) (xs : List Deed) : ∀ bs : List Nat, (vals w bs xs).length = bs.length + xs.length := by
  induction xs with
  | nil => intro bs; rfl
  | cons x xs ih =>
    intro bs
    have e : vals w bs (x :: xs) = vals w (bs ++ [x.val w bs]) xs := rfl
    rw [e, ih]
    simp
    omega
theorem vals_low {w : Nat} (xs : List Deed) : ∀ {bs : List Nat}, Low w bs → Low w (vals w bs xs) := by
  induction xs with
  | nil => intro bs h; exact h
  | cons x xs ih =>
    intro bs h
    refine ih (bs := bs ++ [x.val w bs]) fun n hn => ?_
    rcases List.mem_append.mp hn with q | q
    · exact h n q
    · rw [List.mem_singleton.mp q]
      exact val_lt h x
theorem at0_app {ns ms : List Nat} {a : Nat} (h : a < ns.length) : at0 (ns ++ ms) a = at0 ns a := by
  unfold at0
  simp [List.getElem?_append_left h, List.getD_eq_getElem?_getD]
theorem vals_at {w : Nat} (xs : List Deed) : ∀ {bs : List Nat} {a : Nat}, a < bs.length → at0 (vals w bs xs) a = at0 bs a := by
  induction xs with
  | nil => intro bs a h; rfl
  | cons x xs ih =>
    intro bs a h
    have e : vals w bs (x :: xs) = vals w (bs ++ [x.val w bs]) xs := rfl
    rw [e, ih (by simp; omega), at0_app h]
theorem tot_congr {bs cs ps : List Nat} (h : ∀ a ∈ ps, at0 bs a = at0 cs a) : tot bs ps = tot cs ps := by
  unfold tot
  congr 1
  exact List.map_congr_left h
theorem ones_congr {ns ms ps : List Nat} (h : ∀ a ∈ ps, at0 ns a = at0 ms a) : ∀ q, onesAt ns ps q = onesAt ms ps q
  | 0 => rfl
  | q + 1 => by
    unfold onesAt
    rw [ones_congr h q, tot_congr (bs := bts ns q) (cs := bts ms q) fun a ha => by rw [at0_bts, at0_bts, h a ha]]
theorem mk_congr {ns ms : List Nat} {m p : Nat} {x : Deed} (hx : x.ok m) (h : ∀ a, a < m → at0 ns a = at0 ms a) : x.mk ns p = x.mk ms p := by
  cases x with
  | shift a => show (if p = 0 then 0 else _) = (if p = 0 then 0 else _); rw [h a hx]
  | minus a => show bor _ _ _ = bor _ _ _; rw [h a hx]
  | add a b => show car _ _ _ = car _ _ _; rw [h a hx.1, h b hx.2]
  | sub a b => show bor _ _ _ = bor _ _ _; rw [h a hx.1, h b hx.2]
  | count q r ps =>
    show onesAt _ _ _ % q = onesAt _ _ _ % q
    rw [ones_congr fun a ha => h a (hx.2.2.2.2 a ha)]
  | _ => rfl
end Py.U

namespace Py.U
open PySem
/-! ### numbers from nought -/
theorem nsub {a b : Nat} (h : b ≤ a) : osub (nD a) (nD b) = .ok (nD (a - b)) := by
  unfold nD
  rw [osub_ii]
  congr 2
  omega
theorem bnot_nat (a : Nat) : Builtin.bitNot (Builtin.bitNot (a : Int)) = (a : Int) := by
  show -(-(a : Int) - 1) - 1 = (a : Int)
  omega
theorem nand (a b : Nat) : oand (nD a) (nD b) = .ok (nD (a &&& b)) := by
  unfold nD
  rw [oand_ii]
  rfl
theorem bor_nat (a b : Nat) : Builtin.bitOr (a : Int) (b : Int) = ((a ||| b : Nat) : Int) := by
  have h1 : Builtin.bitNot (a : Int) = Int.negSucc a := by
    show -(a : Int) - 1 = Int.negSucc a
    rw [Int.negSucc_eq]
    omega
  have h2 : Builtin.bitNot (b : Int) = Int.negSucc b := by
    show -(b : Int) - 1 = Int.negSucc b
    rw [Int.negSucc_eq]
    omega
  show Builtin.bitNot (Builtin.bitAnd (Builtin.bitNot (a : Int)) (Builtin.bitNot (b : Int))) = _
  rw [h1, h2]
  have e : Builtin.bitAnd (Int.negSucc a) (Int.negSucc b) = Builtin.bitNot ((a ||| b : Nat) : Int) := by
    show Builtin.bitNot (((Builtin.bitNot (Int.negSucc a)).toNat ||| (Builtin.bitNot (Int.negSucc b)).toNat : Nat) : Int) = _
    have e1 : (Builtin.bitNot (Int.negSucc a)).toNat = a := by
      rw [← h1, bnot_nat, Int.toNat_natCast]
    have e2 : (Builtin.bitNot (Int.negSucc b)).toNat = b := by
      rw [← h2, bnot_nat, Int.toNat_natCast]
    rw [e1, e2]
  rw [e, bnot_nat]
theorem or_split : ∀ (n a b : Nat), a < 2 ^ n → b < 2 ^ n → (a ||| b) = (a ^^^ b) + (a &&& b)
  | 0, a, b, ha, hb => by
    have e1 : a = 0 := by
      simp at ha
      exact ha
    have e2 : b = 0 := by
      simp at hb
      exact hb
    subst e1 e2
    rfl
  | n + 1, a, b, ha, hb => by
    have hp := Nat.pow_succ 2 n
    have ih := or_split n (a / 2) (b / 2) (by omega) (by omega)
    have d1 := Nat.or_div_two (a := a) (b := b)
    have d2 := Nat.xor_div_two (a := a) (b := b)
    have d3 := Nat.and_div_two (a := a) (b := b)
    have b0 : ∀ n : Nat, bt n 0 = n % 2 := fun n => by
      unfold bt
      simp
    have t1 := bt_or a b 0
    have t2 := bt_xor a b 0
    have t3 := bt_and a b 0
    rw [b0, b0, b0] at t1 t2 t3
    have m1 : (a ||| b) % 2 = (a ^^^ b) % 2 + (a &&& b) % 2 := by
      rcases Nat.mod_two_eq_zero_or_one a with h1 | h1 <;> rcases Nat.mod_two_eq_zero_or_one b with h2 | h2 <;> rw [h1, h2] at t1 t2 t3 <;> split at t1 <;> split at t2 <;> split at t3 <;> omega
    omega
theorem nor (a b : Nat) : oor (nD a) (nD b) = .ok (nD (a ||| b)) := by
  unfold nD
  show Res.ok (D.int (Builtin.bitOr _ _)) = _
  rw [bor_nat]
theorem bxor_nat (a b : Nat) : Builtin.bitXor (a : Int) (b : Int) = ((a ^^^ b : Nat) : Int) := by
  show Builtin.bitOr (a : Int) (b : Int) - Builtin.bitAnd (a : Int) (b : Int) = _
  rw [bor_nat]
  have e : Builtin.bitAnd (a : Int) (b : Int) = ((a &&& b : Nat) : Int) := rfl
  rw [e]
  have h := or_split (a + b) a b (Nat.lt_of_lt_of_le Nat.lt_two_pow_self (Nat.pow_le_pow_right (by decide) (by omega))) (Nat.lt_of_lt_of_le Nat.lt_two_pow_self (Nat.pow_le_pow_right (by decide) (by omega)))
  omega
theorem nxor (a b : Nat) : oxor (nD a) (nD b) = .ok (nD (a ^^^ b)) := by
  unfold nD
  show Res.ok (D.int (Builtin.bitXor _ _)) = _
  rw [bxor_nat]
theorem ior_pow {a k : Nat} (h : a < 2 ^ k) : oior (nD a) (nD (2 ^ k)) = .ok (nD (a + 2 ^ k)) := by
  unfold nD
  show Res.ok (D.int (Builtin.bitOr _ _)) = _
  rw [bor_nat]
  have e := Nat.two_pow_add_eq_or_of_lt h 1
  rw [Nat.mul_one] at e
  rw [Nat.or_comm, ← e, Nat.add_comm]
theorem n_mask {w : Nat} (z : Int) : oand (.int z) (nD (2 ^ w - 1)) = .ok (.int (z % 2 ^ w)) := by
  have e : ((2 ^ w - 1 : Nat) : Int) = 2 ^ w - 1 := by
    have h : 1 ≤ 2 ^ w := Nat.two_pow_pos w
    rw [Int.natCast_sub h]
    simp
  unfold nD
  rw [oand_ii, e, PySem.W.kbt_mask]
theorem nmod_int {z : Int} {m a : Nat} (hm : 0 < m) (h : z % (m : Int) = (a : Int)) : omod (.int z) (nD m) = .ok (nD a) := by
  unfold nD
  rw [omod_ii (by omega), h]
theorem sub_mod {x y w : Nat} (hy : y < 2 ^ w) : ((x : Int) - (y : Int)) % ((2 ^ w : Nat) : Int) = (((x + (2 ^ w - y)) % 2 ^ w : Nat) : Int) := by
  rw [Int.natCast_emod]
  have e : ((x + (2 ^ w - y) : Nat) : Int) = (x : Int) - (y : Int) + ((2 ^ w : Nat) : Int) := by omega
  rw [e, Int.add_emod_right]
/-! ### the law's own values -/
theorem sum_loop {ns ps : List Nat} {q : Nat} (h : ∀ a ∈ ps, a < ns.length) {x0 x2 x3 : D} {m : Nat} (o6 : Option D) :
    ∃ o, forL (forB (gnm 6) (asg (gnm 4) (bin oadd (var 4) (bin oand (bin oshr (bin oidx (var 1) (var 6)) (var 5)) (cst (.int 1)))))) (ps.map nD) [some x0, some (.lst (ns.map nD)), some x2, some x3, some (nD m), some (nD q), o6] = .ok (.next [some x0, some (.lst (ns.map nD)), some x2, some x3, some (nD (m + tot (bts ns q) ps)), some (nD q), o]) := by
  induction ps generalizing m o6 with
  | nil => exact ⟨o6, rfl⟩
  | cons a ps ih =>
    have h1 := bits_at (bs := ns) (h a List.mem_cons_self)
    have h2 := bitN1 (at0 ns a) q
    have h3 := bitN2 (at0 ns a / 2 ^ q)
    have h4 := nadd m (at0 ns a / 2 ^ q % 2)
    obtain ⟨o, h5⟩ := ih (m := m + at0 ns a / 2 ^ q % 2) (fun b hb => h b (List.mem_cons_of_mem _ hb)) (some (nD a))
    refine ⟨o, ?_⟩
    have e : m + tot (bts ns q) (a :: ps) = m + at0 ns a / 2 ^ q % 2 + tot (bts ns q) ps := by
      have e1 : tot (bts ns q) (a :: ps) = at0 (bts ns q) a + tot (bts ns q) ps := rfl
      rw [e1, at0_bts]
      unfold bt
      omega
    rw [e, List.map_cons]
    have hb : forB (gnm 6) (asg (gnm 4) (bin oadd (var 4) (bin oand (bin oshr (bin oidx (var 1) (var 6)) (var 5)) (cst (.int 1))))) (nD a) [some x0, some (.lst (ns.map nD)), some x2, some x3, some (nD m), some (nD q), o6] = .ok (.next [some x0, some (.lst (ns.map nD)), some x2, some x3, some (nD (m + at0 ns a / 2 ^ q % 2)), some (nD q), some (nD a)]) := by
      generalize nD (m + at0 ns a / 2 ^ q % 2) = z at *
      generalize nD (at0 ns a / 2 ^ q % 2) = y at *
      generalize nD (at0 ns a / 2 ^ q) = y2 at *
      generalize nD (at0 ns a) = y3 at *
      generalize nD m = mm at *
      generalize nD q = qq at *
      generalize nD a = aa at *
      generalize ns.map nD = NS at *
      simp [var, h1, h2, h3, h4]
    unfold forL
    rw [hb]
    exact h5
def lcB : SM := (seq (Py.ite (tst (bin oeq (bin omod (un bint (var 4)) (bin oidx (var 0) (cst (.int 1)))) (bin oidx (var 0) (cst (.int 2))))) (asg (gnm 3) (bin oadd (var 3) (bin oshl (cst (.int 1)) (var 5)))) skip)
  (for_ (iseq (bin oidx (var 0) (cst (.int 3)))) (gnm 6) (asg (gnm 4) (bin oadd (var 4) (bin oand (bin oshr (bin oidx (var 1) (var 6)) (var 5)) (cst (.int 1)))))))
theorem law_count_ok {w : Nat} (hw : w ≤ 1000) {ns : List Nat} {p r : Nat} {ps : List Nat} (hp : 0 < p) (h : ∀ a ∈ ps, a < ns.length) : m_law_count [(Deed.count p r ps).d, .lst (ns.map nD), nD w] = .ok (nD (cw ns p r ps w)) := by
  have i1 : oidx (Deed.count p r ps).d (.int 1) = .ok (nD p) := ixt1
  have i2 : oidx (Deed.count p r ps).d (.int 2) = .ok (nD r) := ixt2
  have i3 : oidx (Deed.count p r ps).d (.int 3) = .ok (.tup (ps.map nD)) := ixt3
  obtain ⟨e', h1, o5, o6, rfl⟩ := forR_inv (b := forB (gnm 5) lcB) (n := w) (e := [some (Deed.count p r ps).d, some (.lst (ns.map nD)), some (nD w), some (nD 0), some (nD 0), none, none])
    (fun k e => ∃ o5 o6, e = [some (Deed.count p r ps).d, some (.lst (ns.map nD)), some (nD w), some (nD (cw ns p r ps k)), some (nD (onesAt ns ps k)), o5, o6]) ⟨none, none, rfl⟩ (by
      rintro k e hk ⟨o5, o6, rfl⟩
      have q1 := nmod (onesAt ns ps k) (p := p) (by omega)
      have q2 := nat_eq (onesAt ns ps k % p) r
      have q3 := shl_nD (n := k) (by omega)
      have q4 := nadd (cw ns p r ps k) (2 ^ k)
      have q5 : bint (nD (onesAt ns ps k)) = .ok (nD (onesAt ns ps k)) := rfl
      have e1 : onesAt ns ps (k + 1) = onesAt ns ps k + tot (bts ns k) ps := rfl
      rw [forB_eq, gnm_eq, lift_some, bind_ok]
      show ∃ e', lcB [some (Deed.count p r ps).d, some (.lst (ns.map nD)), some (nD w), some (nD (cw ns p r ps k)), some (nD (onesAt ns ps k)), some (nD k), o6] = _ ∧ _
      rw [e1]
      by_cases c : onesAt ns ps k % p = r
      · obtain ⟨o, h5⟩ := sum_loop (ns := ns) (ps := ps) (q := k) h (x0 := (Deed.count p r ps).d) (x2 := nD w) (x3 := nD (cw ns p r ps k + 2 ^ k)) (m := onesAt ns ps k) o6
        have e2 : cw ns p r ps (k + 1) = cw ns p r ps k + 2 ^ k := by
          show cw ns p r ps k + (if onesAt ns ps k % p = r then 2 ^ k else 0) = _
          rw [if_pos c]
        rw [e2]
        rw [decide_eq_true c] at q2
        refine ⟨_, ?_, some (nD k), o, rfl⟩
        generalize nD (onesAt ns ps k + tot (bts ns k) ps) = t1 at *
        generalize nD (cw ns p r ps k + 2 ^ k) = t2 at *
        generalize nD (onesAt ns ps k % p) = t3 at *
        generalize nD (onesAt ns ps k) = t4 at *
        generalize nD (cw ns p r ps k) = t5 at *
        generalize nD (2 ^ k) = t6 at *
        generalize nD k = t7 at *
        generalize nD p = t8 at *
        generalize nD r = t9 at *
        generalize nD w = t10 at *
        generalize hT : ps.map nD = t11 at *
        generalize (Deed.count p r ps).d = X at *
        generalize ns.map nD = NS at *
        simp [lcB, var, i1, i2, i3, q1, q2, q3, q4, q5, h5]
      · obtain ⟨o, h5⟩ := sum_loop (ns := ns) (ps := ps) (q := k) h (x0 := (Deed.count p r ps).d) (x2 := nD w) (x3 := nD (cw ns p r ps k)) (m := onesAt ns ps k) o6
        have e2 : cw ns p r ps (k + 1) = cw ns p r ps k := by
          show cw ns p r ps k + (if onesAt ns ps k % p = r then 2 ^ k else 0) = _
          rw [if_neg c, Nat.add_zero]
        rw [e2]
        rw [decide_eq_false c] at q2
        refine ⟨_, ?_, some (nD k), o, rfl⟩
        generalize nD (onesAt ns ps k + tot (bts ns k) ps) = t1 at *
        generalize nD (onesAt ns ps k % p) = t3 at *
        generalize nD (onesAt ns ps k) = t4 at *
        generalize nD (cw ns p r ps k) = t5 at *
        generalize nD (2 ^ k) = t6 at *
        generalize nD k = t7 at *
        generalize nD p = t8 at *
        generalize nD r = t9 at *
        generalize nD w = t10 at *
        generalize hT : ps.map nD = t11 at *
        generalize (Deed.count p r ps).d = X at *
        generalize ns.map nD = NS at *
        simp [lcB, var, i1, i2, i3, q1, q2, q5, h5])
  have hr : ∀ a b c d : Option D, irng1 (var 2) [a, b, some (nD w), c, d, none, none] = .ok ((List.range w).map fun i => .int ((i : Nat) : Int)) := fun a b c d => irng1_nat (by simp [var, nD]) (rng_lt hw)
  unfold m_law_count
  rw [fn3]
  show done (seq (asg (gnm 3) (cst (.int 0))) (seq (asg (gnm 4) (cst (.int 0))) (seq (for_ (irng1 (var 2)) (gnm 5) lcB) (ret (var 3)))) [some (Deed.count p r ps).d, some (.lst (ns.map nD)), some (nD w), none, none, none, none]) = _
  change forL _ _ [_, _, _, some (.int 0), some (.int 0), none, none] = _ at h1
  generalize nD (cw ns p r ps w) = t1 at *
  generalize nD (onesAt ns ps w) = t2 at *
  generalize (Deed.count p r ps).d = X at *
  generalize ns.map nD = NS at *
  generalize nD w = ww at *
  simp [var, hr, h1]
theorem law_value_ok {w : Nat} (hw : w ≤ 1000) {ns : List Nat} (hL : Low w ns) {x : Deed} (hx : x.ok ns.length) : m_law_value [x.d, .lst (ns.map nD), nD w] = .ok (nD (x.val w ns)) := by
  have hp : 0 < 2 ^ w := Nat.two_pow_pos w
  have h3 := shl_nD (n := w) hw
  have h4 : osub (nD (2 ^ w)) (.int 1) = .ok (nD (2 ^ w - 1)) := nsub (b := 1) (by omega)
  have hb : ∀ a, bint (nD a) = .ok (nD a) := fun _ => rfl
  unfold m_law_value
  rw [fn3]
  unfold b__law_value
  cases x with
  | zero => simp [var, Deed.d, ixt0, str_eq, h3, Deed.val, nD_0]
  | ones => simp [var, Deed.d, ixt0, str_eq, h3, h4, Deed.val]
  | inv a =>
    have q1 := bits_at (bs := ns) hx
    have l1 := at0_low hL a
    have q2 := nsub (a := 2 ^ w - 1) (b := at0 ns a) (by omega)
    simp [var, Deed.d, ixt0, ixt1, str_eq, h3, h4, Deed.val, q1, q2]
  | and a b =>
    have q1 := bits_at (bs := ns) hx.1
    have q2 := bits_at (bs := ns) hx.2
    simp [var, Deed.d, ixt0, ixt1, ixt2, str_eq, h3, Deed.val, q1, q2, nand]
  | or a b =>
    have q1 := bits_at (bs := ns) hx.1
    have q2 := bits_at (bs := ns) hx.2
    simp [var, Deed.d, ixt0, ixt1, ixt2, str_eq, h3, Deed.val, q1, q2, nor]
  | xor a b =>
    have q1 := bits_at (bs := ns) hx.1
    have q2 := bits_at (bs := ns) hx.2
    simp [var, Deed.d, ixt0, ixt1, ixt2, str_eq, h3, Deed.val, q1, q2, nxor]
  | shift a =>
    have q1 := bits_at (bs := ns) hx
    have q2 : omul (.int 2) (nD (at0 ns a)) = .ok (nD (2 * at0 ns a)) := by
      unfold nD
      rw [omul_l (by decide) (by decide)]
      simp
    have q3 := nmod (2 * at0 ns a) (p := 2 ^ w) hp
    simp [var, Deed.d, ixt0, ixt1, str_eq, h3, Deed.val, q1, q2, q3, hb]
  | minus a =>
    have q1 := bits_at (bs := ns) hx
    have l1 := at0_low hL a
    have q2 := nsub (a := 2 ^ w) (b := at0 ns a) (by omega)
    have q3 := nmod (2 ^ w - at0 ns a) (p := 2 ^ w) hp
    simp [var, Deed.d, ixt0, ixt1, str_eq, h3, Deed.val, q1, q2, q3, hb]
  | add a b =>
    have q1 := bits_at (bs := ns) hx.1
    have q2 := bits_at (bs := ns) hx.2
    have q3 := nadd (at0 ns a) (at0 ns b)
    have q4 := nmod (at0 ns a + at0 ns b) (p := 2 ^ w) hp
    simp [var, Deed.d, ixt0, ixt1, ixt2, str_eq, h3, Deed.val, q1, q2, q3, q4, hb]
  | sub a b =>
    have q1 := bits_at (bs := ns) hx.1
    have q2 := bits_at (bs := ns) hx.2
    have q3 : osub (nD (at0 ns a)) (nD (at0 ns b)) = .ok (.int ((at0 ns a : Int) - (at0 ns b : Int))) := rfl
    have q4 := nmod_int hp (sub_mod (x := at0 ns a) (at0_low hL b))
    simp [var, Deed.d, ixt0, ixt1, ixt2, str_eq, h3, Deed.val, q1, q2, q3, q4]
  | count p r ps =>
    have q := law_count_ok (r := r) hw (p := p) (by
      have := hx.1
      omega) hx.2.2.2.2
    have q0 : oidx (Deed.count p r ps).d (.int 0) = .ok (.str "count") := ixt0
    have q1 : Deed.val w ns (.count p r ps) = cw ns p r ps w := rfl
    rw [q1]
    generalize (Deed.count p r ps).d = X at *
    simp [var, q0, str_eq, h3, q]

end Py.U

namespace Py.U
open PySem
/-! ### the program's words -/
def cwB : SM := (seq (Py.ite (tst (bin oeq (var 5) (var 2))) (aug 4 oior (bin oshl (cst (.int 1)) (var 6))) skip)
  (asg (gnm 5) (bin omod (bin oadd (var 5) (un bsum (lcE (iseq (var 3)) [7] (gnm 7) yes (bin oand (bin oshr (var 7) (var 6)) (cst (.int 1)))))) (var 1))))
theorem part_sum {ns ps : List Nat} {k : Nat} (hz : ps.length ≤ 1000) (a b c d e f : Option D) : lcE (iseq (var 3)) [7] (gnm 7) yes (bin oand (bin oshr (var 7) (var 6)) (cst (.int 1))) [a, b, c, some (.lst (ps.map fun a => nD (at0 ns a))), d, e, some (nD k), f] = .ok (.lst (ps.map fun a => nD (at0 (bts ns k) a))) := by
  refine lc_mapI (k := fun a => nD (at0 ns a)) (by simp [var]) (le_sz hz) fun y _ => ?_
  have b1 := bitN1 (at0 ns y) k
  have b2 := bitN2 (at0 ns y / 2 ^ k)
  rw [at0_bts]
  show ∃ e1, _ ∧ _ = Res.ok (nD (at0 ns y / 2 ^ k % 2))
  generalize nD (at0 ns y / 2 ^ k % 2) = u at *
  generalize nD (at0 ns y / 2 ^ k) = v at *
  generalize nD (at0 ns y) = z at *
  generalize nD k = q at *
  exact ⟨_, rfl, by simp only [wipe]; simp [var, b1, b2]⟩
theorem sum_nD (f : Nat → Nat) (ps : List Nat) : bsum (.lst (ps.map fun a => nD (f a))) = .ok (nD ((ps.map f).sum)) := by
  have h := sum_map (fun a => ((f a : Nat) : Int)) ps
  have e : ∀ l : List Nat, (l.map fun a => ((f a : Nat) : Int)).sum = (((l.map f).sum : Nat) : Int) := fun l => by
    induction l with
    | nil => rfl
    | cons a l ih => simp [ih]
  rw [e] at h
  exact h
theorem counted_ok {w : Nat} (hw : w ≤ 1000) {ns : List Nat} {p r : Nat} {ps : List Nat} (hp : 0 < p) (hz : ps.length ≤ 1000) : m_counted_word [nD w, nD p, nD r, .lst (ps.map fun a => nD (at0 ns a))] = .ok (nD (cw ns p r ps w)) := by
  obtain ⟨e', h1, o6, rfl⟩ := forR_inv (b := forB (gnm 6) cwB) (n := w) (e := [some (nD w), some (nD p), some (nD r), some (.lst (ps.map fun a => nD (at0 ns a))), some (nD 0), some (nD 0), none, none])
    (fun k e => ∃ o6, e = [some (nD w), some (nD p), some (nD r), some (.lst (ps.map fun a => nD (at0 ns a))), some (nD (cw ns p r ps k)), some (nD (onesAt ns ps k % p)), o6, none]) ⟨none, by simp [cw, onesAt]⟩ (by
      rintro k e hk ⟨o6, rfl⟩
      have q1 := nat_eq (onesAt ns ps k % p) r
      have q2 := shl_nD (n := k) (by omega)
      have q3 := ior_pow (cw_lt ns p r ps k)
      have q4 := fun a b c d e f => part_sum (ns := ns) (ps := ps) (k := k) hz a b c d e f
      have q5 : bsum (.lst (ps.map fun a => nD (at0 (bts ns k) a))) = .ok (nD (tot (bts ns k) ps)) := sum_nD (at0 (bts ns k)) ps
      have q6 := nadd (onesAt ns ps k % p) (tot (bts ns k) ps)
      have q7 := nmod (onesAt ns ps k % p + tot (bts ns k) ps) (p := p) (by omega)
      have e1 : onesAt ns ps (k + 1) % p = (onesAt ns ps k % p + tot (bts ns k) ps) % p := by
        rw [Nat.mod_add_mod]
        rfl
      rw [forB_eq, gnm_eq, lift_some, bind_ok, e1]
      show ∃ e', cwB [some (nD w), some (nD p), some (nD r), some (.lst (ps.map fun a => nD (at0 ns a))), some (nD (cw ns p r ps k)), some (nD (onesAt ns ps k % p)), some (nD k), none] = _ ∧ _
      by_cases c : onesAt ns ps k % p = r
      · have e2 : cw ns p r ps (k + 1) = cw ns p r ps k + 2 ^ k := by
          show cw ns p r ps k + (if onesAt ns ps k % p = r then 2 ^ k else 0) = _
          rw [if_pos c]
        rw [e2]
        rw [decide_eq_true c] at q1
        refine ⟨_, ?_, some (nD k), rfl⟩
        generalize nD ((onesAt ns ps k % p + tot (bts ns k) ps) % p) = t1 at *
        generalize nD (onesAt ns ps k % p + tot (bts ns k) ps) = t2 at *
        generalize nD (tot (bts ns k) ps) = t3 at *
        generalize nD (onesAt ns ps k % p) = t4 at *
        generalize nD (cw ns p r ps k + 2 ^ k) = t5 at *
        generalize nD (cw ns p r ps k) = t6 at *
        generalize nD (2 ^ k) = t7 at *
        generalize nD k = t8 at *
        generalize hA : (ps.map fun a => nD (at0 ns a)) = t9 at *
        generalize hB : (ps.map fun a => nD (at0 (bts ns k) a)) = t10 at *
        generalize nD p = t11 at *
        generalize nD r = t12 at *
        generalize nD w = t13 at *
        simp [cwB, var, q1, q2, q3, q4, q5, q6, q7]
      · have e2 : cw ns p r ps (k + 1) = cw ns p r ps k := by
          show cw ns p r ps k + (if onesAt ns ps k % p = r then 2 ^ k else 0) = _
          rw [if_neg c, Nat.add_zero]
        rw [e2]
        rw [decide_eq_false c] at q1
        refine ⟨_, ?_, some (nD k), rfl⟩
        generalize nD ((onesAt ns ps k % p + tot (bts ns k) ps) % p) = t1 at *
        generalize nD (onesAt ns ps k % p + tot (bts ns k) ps) = t2 at *
        generalize nD (tot (bts ns k) ps) = t3 at *
        generalize nD (onesAt ns ps k % p) = t4 at *
        generalize nD (cw ns p r ps k) = t6 at *
        generalize nD k = t8 at *
        generalize hA : (ps.map fun a => nD (at0 ns a)) = t9 at *
        generalize hB : (ps.map fun a => nD (at0 (bts ns k) a)) = t10 at *
        generalize nD p = t11 at *
        generalize nD r = t12 at *
        generalize nD w = t13 at *
        simp [cwB, var, q1, q4, q5, q6, q7])
  have hr : ∀ a b c d e f g : Option D, irng1 (var 0) [some (nD w), a, b, c, d, e, f, g] = .ok ((List.range w).map fun i => .int ((i : Nat) : Int)) := fun a b c d e f g => irng1_nat (by simp [var, nD]) (rng_lt hw)
  unfold m_counted_word
  rw [fn4]
  show done (seq (asg (gnm 4) (cst (.int 0))) (seq (asg (gnm 5) (cst (.int 0))) (seq (for_ (irng1 (var 0)) (gnm 6) cwB) (ret (var 4)))) [some (nD w), some (nD p), some (nD r), some (.lst (ps.map fun a => nD (at0 ns a))), none, none, none, none]) = _
  change forL _ _ [_, _, _, _, some (.int 0), some (.int 0), none, none] = _ at h1
  generalize nD (cw ns p r ps w) = t1 at *
  generalize nD (onesAt ns ps w % p) = t2 at *
  generalize hA : (ps.map fun a => nD (at0 ns a)) = t9 at *
  generalize nD p = t11 at *
  generalize nD r = t12 at *
  generalize nD w = ww at *
  simp [var, hr, h1]
theorem ixl2 {a b : D} : oidx (.tup [a, b]) (.int (-1)) = .ok b := rfl
theorem ixl3 {a b c : D} : oidx (.tup [a, b, c]) (.int (-1)) = .ok c := rfl
theorem deed_word_ok {w : Nat} (hw : w ≤ 1000) {ns : List Nat} (hL : Low w ns) {x : Deed} (hx : x.ok ns.length) : m_deed_word [x.d, nD w, .lst (ns.map nD)] = .ok (nD (x.val w ns)) := by
  have hp : 0 < 2 ^ w := Nat.two_pow_pos w
  have h3 := shl_nD (n := w) hw
  have h4 : osub (nD (2 ^ w)) (.int 1) = .ok (nD (2 ^ w - 1)) := nsub (b := 1) (by omega)
  have hE : ((2 ^ w : Nat) : Int) = 2 ^ w := by simp
  unfold m_deed_word
  rw [fn3]
  unfold b_deed_word
  cases x with
  | zero =>
    have z : oin (.str "zero") (.tup [.str "zero", .str "ones"]) = .ok (.bl true) := rfl
    simp [var, Deed.d, ixt0, str_eq, h3, h4, Deed.val, nD_0, z]
  | ones =>
    have z : oin (.str "ones") (.tup [.str "zero", .str "ones"]) = .ok (.bl true) := rfl
    simp [var, Deed.d, ixt0, str_eq, h3, h4, Deed.val, z]
  | inv a =>
    have z : oin (.str "not") (.tup [.str "zero", .str "ones"]) = .ok (.bl false) := rfl
    have q1 := bits_at (bs := ns) hx
    have l1 := at0_low hL a
    have q2 := nsub (a := 2 ^ w - 1) (b := at0 ns a) (by omega)
    simp [var, Deed.d, ixt0, ixt1, ixl2, str_eq, h3, h4, Deed.val, q1, q2, z]
  | and a b =>
    have z : oin (.str "and") (.tup [.str "zero", .str "ones"]) = .ok (.bl false) := rfl
    have q1 := bits_at (bs := ns) hx.1
    have q2 := bits_at (bs := ns) hx.2
    simp [var, Deed.d, ixt0, ixt1, ixl3, str_eq, h3, h4, Deed.val, q1, q2, nand, z]
  | or a b =>
    have z : oin (.str "or") (.tup [.str "zero", .str "ones"]) = .ok (.bl false) := rfl
    have q1 := bits_at (bs := ns) hx.1
    have q2 := bits_at (bs := ns) hx.2
    simp [var, Deed.d, ixt0, ixt1, ixl3, str_eq, h3, h4, Deed.val, q1, q2, nor, z]
  | xor a b =>
    have z : oin (.str "xor") (.tup [.str "zero", .str "ones"]) = .ok (.bl false) := rfl
    have q1 := bits_at (bs := ns) hx.1
    have q2 := bits_at (bs := ns) hx.2
    simp [var, Deed.d, ixt0, ixt1, ixl3, str_eq, h3, h4, Deed.val, q1, q2, nxor, z]
  | shift a =>
    have z : oin (.str "shift") (.tup [.str "zero", .str "ones"]) = .ok (.bl false) := rfl
    have q1 := bits_at (bs := ns) hx
    have q2 : oadd (nD (at0 ns a)) (nD (at0 ns a)) = .ok (.int ((2 * at0 ns a : Nat) : Int)) := by
      rw [nadd, ← Nat.two_mul]
      rfl
    have q3 : oand (.int ((2 * at0 ns a : Nat) : Int)) (nD (2 ^ w - 1)) = .ok (nD (2 * at0 ns a % 2 ^ w)) := by
      rw [n_mask, ← hE, ← Int.natCast_emod]
      rfl
    generalize ((2 * at0 ns a : Nat) : Int) = v at *
    simp [var, Deed.d, ixt0, ixt1, ixl2, str_eq, h3, h4, Deed.val, q1, q2, q3, z]
  | minus a =>
    have z : oin (.str "minus") (.tup [.str "zero", .str "ones"]) = .ok (.bl false) := rfl
    have q1 := bits_at (bs := ns) hx
    have q2 : oneg (nD (at0 ns a)) = .ok (.int ((0 : Nat) - (at0 ns a : Int))) := by
      unfold nD
      rw [oneg_i]
      congr 2
      omega
    have q3 : oand (.int ((0 : Nat) - (at0 ns a : Int))) (nD (2 ^ w - 1)) = .ok (nD ((0 + (2 ^ w - at0 ns a)) % 2 ^ w)) := by
      rw [n_mask, ← hE, sub_mod (at0_low hL a)]
      rfl
    generalize (((0 : Nat) : Int) - (at0 ns a : Int)) = v at *
    show _ = Res.ok (nD ((0 + (2 ^ w - at0 ns a)) % 2 ^ w))
    generalize nD ((0 + (2 ^ w - at0 ns a)) % 2 ^ w) = t at *
    simp [var, Deed.d, ixt0, ixt1, ixl2, str_eq, h3, h4, q1, q2, q3, z]
  | add a b =>
    have z : oin (.str "add") (.tup [.str "zero", .str "ones"]) = .ok (.bl false) := rfl
    have q1 := bits_at (bs := ns) hx.1
    have q2 := bits_at (bs := ns) hx.2
    have q3 : oadd (nD (at0 ns a)) (nD (at0 ns b)) = .ok (.int ((at0 ns a + at0 ns b : Nat) : Int)) := nadd _ _
    have q4 : oand (.int ((at0 ns a + at0 ns b : Nat) : Int)) (nD (2 ^ w - 1)) = .ok (nD ((at0 ns a + at0 ns b) % 2 ^ w)) := by
      rw [n_mask, ← hE, ← Int.natCast_emod]
      rfl
    generalize ((at0 ns a + at0 ns b : Nat) : Int) = v at *
    simp [var, Deed.d, ixt0, ixt1, ixl3, str_eq, h3, h4, Deed.val, q1, q2, q3, q4, z]
  | sub a b =>
    have z : oin (.str "sub") (.tup [.str "zero", .str "ones"]) = .ok (.bl false) := rfl
    have q1 := bits_at (bs := ns) hx.1
    have q2 := bits_at (bs := ns) hx.2
    have q3 : osub (nD (at0 ns a)) (nD (at0 ns b)) = .ok (.int ((at0 ns a : Int) - (at0 ns b : Int))) := rfl
    have q4 : oand (.int ((at0 ns a : Int) - (at0 ns b : Int))) (nD (2 ^ w - 1)) = .ok (nD ((at0 ns a + (2 ^ w - at0 ns b)) % 2 ^ w)) := by
      rw [n_mask, ← hE, sub_mod (at0_low hL b)]
      rfl
    generalize ((at0 ns a : Int) - (at0 ns b : Int)) = v at *
    simp [var, Deed.d, ixt0, ixt1, ixl3, str_eq, h3, h4, Deed.val, q1, q2, q3, q4, z]
  | count p r ps =>
    have hz : ps.length ≤ 1000 := by
      have := hx.2.2.2.1
      omega
    have q := counted_ok (ns := ns) (r := r) hw (p := p) (by
      have := hx.1
      omega) hz
    have q0 : oidx (Deed.count p r ps).d (.int 0) = .ok (.str "count") := ixt0
    have i1 : oidx (Deed.count p r ps).d (.int 1) = .ok (nD p) := ixt1
    have i2 : oidx (Deed.count p r ps).d (.int 2) = .ok (nD r) := ixt2
    have i3 : oidx (Deed.count p r ps).d (.int 3) = .ok (.tup (ps.map nD)) := ixt3
    have hc : ∀ a b c d e, lcE (iseq (bin oidx (var 0) (cst (.int 3)))) [7] (gnm 7) yes (bin oidx (var 2) (var 7)) [some (Deed.count p r ps).d, a, some (.lst (ns.map nD)), b, c, d, e, none] = .ok (.lst (ps.map fun a => nD (at0 ns a))) := fun a b c d e => by
      refine lc_mapI (k := nD) (by simp [var, i3]) (le_sz hz) fun y hy => ?_
      have h := bits_at (bs := ns) (hx.2.2.2.2 y hy)
      generalize nD (at0 ns y) = t at *
      generalize nD y = u at *
      generalize ns.map nD = NS at *
      generalize (Deed.count p r ps).d = X at *
      exact ⟨_, rfl, by simp only [wipe]; simp [var, h]⟩
    show _ = Res.ok (nD (cw ns p r ps w))
    generalize hA : (ps.map fun a => nD (at0 ns a)) = t9 at *
    generalize hT : ps.map nD = t10 at *
    generalize nD (cw ns p r ps w) = t at *
    generalize (Deed.count p r ps).d = X at *
    generalize ns.map nD = NS at *
    simp [var, q0, i1, i2, str_eq, h3, h4, q, hc]

end Py.U

namespace Py.U
open PySem
theorem number_ok (n : Nat) : m_is_number [nD n] = .ok (.bl true) := by
  have h := isint_ok n
  have h2 : oge (nD n) (.int 0) = .ok (.bl true) := by
    unfold nD
    rw [oge_ii, decide_eq_true (by omega)]
  unfold m_is_number
  rw [fn1]
  unfold b_is_number
  generalize nD n = N at *
  simp [var, h, h2]
theorem word_is {n w : Nat} (h : n < 2 ^ w) : m_is_word [nD n, nD w] = .ok (.bl true) := by
  have hb : Builtin.Int.intBits (n : Int) ≤ w := PySem.intBits_le_iff.mpr (by simpa using h)
  have h1 : bbits (nD n) = .ok (.int ((Builtin.Int.intBits (n : Int) : Nat) : Int)) := rfl
  have h2 : ole (.int ((Builtin.Int.intBits (n : Int) : Nat) : Int)) (nD w) = .ok (.bl true) := by
    unfold nD
    rw [ole_ii, decide_eq_true (by omega)]
  have h3 := number_ok n
  unfold m_is_word
  rw [fn2]
  unfold b_is_word
  generalize ((Builtin.Int.intBits (n : Int) : Nat) : Int) = q at *
  generalize nD n = N at *
  generalize nD w = M at *
  simp [var, h1, h2, h3]
def SeqN (W : D) (ns : List Nat) : Prop := W = .lst (ns.map nD) ∨ W = .tup (ns.map nD)
theorem SeqN.tuple {W : D} {ns : List Nat} (h : SeqN W ns) : m_as_tuple [W] = .ok (.tup (ns.map nD)) := by
  unfold m_as_tuple
  rw [fn1]
  unfold b_as_tuple
  rcases h with rfl | rfl
  · have q : oisi CS [.lst, .tup] (.lst (ns.map nD)) = .ok (.bl true) := rfl
    simp [var, q]
  · have q : oisi CS [.lst, .tup] (.tup (ns.map nD)) = .ok (.bl true) := rfl
    simp [var, q]
theorem SeqN.list {W : D} {ns : List Nat} (h : SeqN W ns) : blist W = .ok (.lst (ns.map nD)) := by
  rcases h with rfl | rfl <;> simp
theorem words_ok {W : D} {ns : List Nat} {w : Nat} (h : SeqN W ns) (hL : Low w ns) (hz : ns.length ≤ 1000) : m_are_words [W, nD w, nD ns.length, nD ns.length] = .ok (.bl true) := by
  have ht := h.tuple
  have hl : ∀ a b c o, lcE (iseq (var 4)) [5] (gnm 5) yes (call m_is_word (argC (var 5) (argC (var 1) argN))) [a, some (nD w), b, c, some (.tup (ns.map nD)), o] = .ok (.lst (ns.map fun _ => .bl true)) := fun a b c o => by
    refine lc_mapI (k := nD) (by simp [var]) (le_sz hz) fun n hn => ?_
    have q := word_is (hL n hn)
    generalize nD n = N at *
    generalize nD w = M at *
    exact ⟨_, rfl, by simp only [wipe]; simp [var, q]⟩
  have hb : ball (.lst (ns.map fun _ => .bl true)) = .ok (.bl true) := by
    have := ball_bools (ns.map fun _ => true)
    rw [List.map_map] at this
    refine this.trans ?_
    rw [show (ns.map fun _ => true).all id = true by simp]
  have hN : oisN (.tup (ns.map nD)) = .ok (.bl false) := rfl
  have h1 : blen (.tup (ns.map nD)) = .ok (nD ns.length) := by
    rw [blen_t, List.length_map]
    rfl
  have h2 : ole (nD ns.length) (nD ns.length) = .ok (.bl true) := by
    unfold nD
    rw [ole_ii, decide_eq_true (by omega)]
  unfold m_are_words
  rw [fn4]
  unfold b_are_words
  generalize D.lst (ns.map fun _ => .bl true) = Z at *
  generalize hT : D.tup (ns.map nD) = T at *
  generalize nD ns.length = M at *
  generalize nD w = N at *
  simp [var, ht, hN, h1, h2, hl, hb]
def awB : SM := app 3 (callI m_deed_word (argC (var 4) (argC (var 1) (argC (var 3) argN))))
theorem all_loop {w n : Nat} (hw : w ≤ 1000) {bs : List Nat} {xs : List Deed} (hb : Low w bs) (hl : bs.length = n) (hr : Row n xs) (hz : n + xs.length ≤ 1000) {R W0 : D} :
    ∃ o, forL (forB (gnm 4) awB) (xs.map Deed.d) [some R, some (nD w), some W0, some (.lst (bs.map nD)), none] = .ok (.next [some R, some (nD w), some W0, some (.lst ((vals w bs xs).map nD)), o]) := by
  have q := forL_inv (b := forB (gnm 4) awB) (xs := xs.map Deed.d) (e := [some R, some (nD w), some W0, some (.lst (bs.map nD)), none])
    (fun k e => ∃ o, e = [some R, some (nD w), some W0, some (.lst ((vals w bs (xs.take k)).map nD)), o]) 0 ⟨none, rfl⟩ (by
      rintro k e hk ⟨o, rfl⟩
      have hk' : k < xs.length := by simpa using hk
      have ht : xs.take (k + 1) = xs.take k ++ [xs[k]] := by
        rw [List.take_add_one]
        simp [hk']
      have hlen : (vals w bs (xs.take k)).length = n + k := by
        rw [vals_len, List.length_take, hl]
        omega
      have hx := hr k hk'
      rw [← hlen] at hx
      have q1 := deed_word_ok hw (vals_low (xs.take k) hb) hx
      rw [Nat.zero_add, ht, vals_snoc, List.getElem_map, List.map_append, List.map_singleton]
      have z : ((vals w bs (xs.take k)).map nD).length < SZ := by
        rw [List.length_map, hlen]
        exact Nat.lt_trans (show n + k < 1001 by omega) (by decide)
      have him : imm (nD (xs[k].val w (vals w bs (xs.take k)))) = true := rfl
      refine ⟨[some R, some (nD w), some W0, some (.lst ((vals w bs (xs.take k)).map nD ++ [nD (xs[k].val w (vals w bs (xs.take k)))])), some xs[k].d], ?_, _, rfl⟩
      generalize nD (xs[k].val w (vals w bs (xs.take k))) = v at *
      generalize (vals w bs (xs.take k)).map nD = V at *
      generalize hX : xs[k].d = X at *
      generalize nD w = N at *
      simp [awB, var, callI, q1, him, z])
  obtain ⟨e', h1, o, rfl⟩ := q
  rw [List.length_map, Nat.zero_add, List.take_length] at h1
  exact ⟨o, h1⟩
theorem all_words_ok {w n out : Nat} (hw : w ≤ 1000) {bs : List Nat} {xs : List Deed} {W : D} (hW : SeqN W bs) (hb : Low w bs) (hl : bs.length = n) (hr : Row n xs) (hz : n + xs.length ≤ 1000) : m_Row_all_words [rowD n xs out, nD w, W] = .ok (.tup ((vals w bs xs).map nD)) := by
  have h1 := number_ok w
  have h2 := words_ok hW hb (by omega)
  rw [hl] at h2
  have h3 := row_inputs n xs out
  have h4 := row_deeds n xs out
  have h5 := hW.list
  obtain ⟨o, h6⟩ := all_loop hw hb hl hr hz (R := rowD n xs out) (W0 := W)
  unfold m_Row_all_words
  rw [fn3]
  show done (seq (Py.ite (notT (tst (call m_is_number (argC (var 1) argN)))) dead skip) (seq (Py.ite (notT (tst (call m_are_words (argC (var 2) (argC (var 1) (argC (un (oattr ["Row"] "inputs") (var 0)) (argC (un (oattr ["Row"] "inputs") (var 0)) argN))))))) dead skip)
    (seq (asg (gnm 3) (un blist (var 2))) (seq (for_ (iseq (un (oattr ["Row"] "deeds") (var 0))) (gnm 4) awB) (ret (un btuple (var 3)))))) [some (rowD n xs out), some (nD w), some W, none, none]) = _
  generalize rowD n xs out = R at *
  generalize (vals w bs xs).map nD = V at *
  generalize bs.map nD = B at *
  generalize nD w = N at *
  generalize nD n = M at *
  simp [var, h1, h2, h3, h4, h5, h6]
theorem callM_row {n out : Nat} {xs : List Deed} {m : String} {f : List D → Res D} {a : EM} {am : AM} {e : Env} (h : a e = .ok (rowD n xs out)) (hm : m ≠ "inputs" ∧ m ≠ "deeds" ∧ m ≠ "out" := by decide) : callM "Row" m f a am e = (am e >>= fun ds => f (rowD n xs out :: ds)) := by
  unfold callM
  rw [h, bind_ok]
  unfold rowD
  dsimp only
  rw [if_pos]
  refine ⟨rfl, ?_⟩
  obtain ⟨h1, h2, h3⟩ := hm
  have e1 : (m == "inputs") = false := by simpa using h1
  have e2 : (m == "deeds") = false := by simpa using h2
  have e3 : (m == "out") = false := by simpa using h3
  simp [List.lookup, e1, e2, e3]

theorem row_loop2 {n : Nat} {xs : List Deed} (hr : Row n xs) {S I O T T2 : D} (hI : I = nD n) : ∃ e', forL (forB (gtup [(gnm 5), (gnm 6)]) (Py.ite (notT (tst (call m_is_deed (argC (var 6) (argC (bin oadd (var 1) (var 5)) argN))))) dead skip)) (enumL 0 (xs.map Deed.d)) [some S, some I, some T2, some O, some T, none, none] = .ok (.next e') ∧
    ∃ o5 o6, e' = [some S, some I, some T2, some O, some T, o5, o6] := by
  refine forL_inv (fun k e => ∃ o5 o6, e = [some S, some I, some T2, some O, some T, o5, o6]) 0 ⟨none, none, rfl⟩ ?_
  rintro k e hk ⟨o5, o6, rfl⟩
  have hk2 : k < xs.length := by
    rw [enum_len, List.length_map] at hk
    exact hk
  have q := is_deed_ok (hr k hk2)
  have q2 : oadd I (.int (k : Int)) = .ok (nD (n + k)) := by
    rw [hI]
    exact nadd n k
  rw [enum_at hk (by simpa using hk2), List.getElem_map, Nat.zero_add]
  generalize nD (n + k) = Z at *
  generalize hX : xs[k].d = X at *
  generalize (k : Int) = z at *
  exact ⟨[some S, some I, some T2, some O, some T, some (.int z), some X], by simp [var, gtup, gtupL, q, q2], _, _, rfl⟩
theorem row_made2 {n out : Nat} {xs : List Deed} (h1 : 1 ≤ n) (h3 : n ≤ 3) (hr : Row n xs) (hz : xs.length ≤ 1000) (ho : out < n + xs.length) : m_Row [nD n, .lst (xs.map Deed.d), nD out] = .ok (rowD n xs out) := by
  have q1 := inputs_ok h1 h3
  have q2 : m_as_tuple [.lst (xs.map Deed.d)] = .ok (.tup (xs.map Deed.d)) := by
    have h : oisi CS [.lst, .tup] (.lst (xs.map Deed.d)) = .ok (.bl true) := rfl
    unfold m_as_tuple
    rw [fn1]
    unfold b_as_tuple
    generalize xs.map Deed.d = Z at *
    simp [var, h]
  have q3 : oisN (.tup (xs.map Deed.d)) = .ok (.bl false) := rfl
  obtain ⟨e', q4, o5, o6, rfl⟩ := row_loop2 (S := .ins "Row" []) (O := nD out) (T := .tup (xs.map Deed.d)) (T2 := .lst (xs.map Deed.d)) hr (I := nD n) rfl
  have q5 := is_below_ok out (n + xs.length)
  rw [decide_eq_true ho] at q5
  have q6 : oadd (nD n) (.int ((xs.map Deed.d).length : Int)) = .ok (nD (n + xs.length)) := by
    rw [List.length_map]
    exact nadd n xs.length
  have q7 : ienum (var 4) [some (.ins "Row" []), some (nD n), some (.lst (xs.map Deed.d)), some (nD out), some (.tup (xs.map Deed.d)), none, none] = .ok (enumL 0 (xs.map Deed.d)) := rfl
  have key : b_Row_init [some (.ins "Row" []), some (nD n), some (.lst (xs.map Deed.d)), some (nD out), none, none, none] = .ok (.next [some (rowD n xs out), some (nD n), some (.lst (xs.map Deed.d)), some (nD out), some (.tup (xs.map Deed.d)), o5, o6]) := by
    unfold b_Row_init rowD
    generalize xs.map Deed.d = Z at *
    generalize nD (n + xs.length) = M at *
    generalize nD n = N at *
    generalize nD out = U at *
    simp [var, q1, q2, q3, q4, q5, q6, q7, setF, putF]
  exact made_eq rfl key
theorem cut_take {α : Type} (xs : List α) {k : Nat} (h : k ≤ xs.length) : cut xs none (some (k : Int)) = xs.take k := by
  unfold cut
  have e0 : HT.sIx xs.length 0 none = 0 := rfl
  have e1 : HT.sIx xs.length xs.length (some (k : Int)) = k := by rw [HT.sIx_nat, Nat.min_eq_left h]
  rw [e0, e1, List.drop_zero, Nat.sub_zero]
theorem vals_pre (w : Nat) (xs : List Deed) : ∀ bs : List Nat, ∃ t, vals w bs xs = bs ++ t := by
  induction xs with
  | nil => intro bs; exact ⟨[], by simp [vals]⟩
  | cons x xs ih =>
    intro bs
    obtain ⟨t, h⟩ := ih (bs ++ [x.val w bs])
    refine ⟨[x.val w bs] ++ t, ?_⟩
    have e : vals w bs (x :: xs) = vals w (bs ++ [x.val w bs]) xs := rfl
    rw [e, h, List.append_assoc]
theorem vals_take {w n : Nat} {bs : List Nat} (xs : List Deed) (hl : bs.length = n) : oslc (.lst ((vals w bs xs).map nD)) none (some (n : Int)) = .ok (.lst (bs.map nD)) := by
  obtain ⟨t, h⟩ := vals_pre w xs bs
  rw [oslc_l, h, cut_take _ (by simp [hl]), ← List.map_take, ← hl, List.take_left]
theorem take_slc {ls : List Nat} {k : Nat} (h : k ≤ ls.length) : oslc (.lst (ls.map nD)) none (some (k : Int)) = .ok (.lst ((ls.take k).map nD)) := by
  rw [oslc_l, cut_take _ (by simpa using h), ← List.map_take]
/-! ### letters drawn -/
theorem rep_one (w : Int) (k : Nat) (h : k ≤ 1000) : olrep (.lst [.int w]) (.int (k : Int)) = .ok (.lst ((List.replicate k w).map D.int)) := by
  have e0 : olrep (.lst [.int w]) (.int (k : Int)) = .ok (.lst (List.replicate (k : Int).toNat [.int w]).flatten) := if_pos ⟨by simp, by simpa using h⟩
  rw [e0, Int.toNat_natCast]
  have e : ∀ n : Nat, (List.replicate n [D.int w]).flatten = (List.replicate n w).map D.int := fun n => by
    induction n with
    | zero => rfl
    | succ n ih => simp [List.replicate_succ, ih]
  rw [e]
theorem drawn_low : ∀ {ds : List Int} {w k : Nat}, Drawn ds (List.replicate k (w : Int)) → ∃ ls : List Nat, ds.map D.int = ls.map nD ∧ ls.length = k ∧ ∀ l ∈ ls, l < w
  | [], w, 0, _ => ⟨[], rfl, rfl, by simp⟩
  | d :: ds, w, k + 1, h => by
    obtain ⟨⟨h1, h2⟩, h3⟩ := (h : (0 ≤ d ∧ d < (w : Int)) ∧ Drawn ds (List.replicate k (w : Int)))
    obtain ⟨ls, e1, e2, e3⟩ := drawn_low h3
    refine ⟨d.toNat :: ls, ?_, by simp [e2], fun l hl => ?_⟩
    · rw [List.map_cons, List.map_cons, e1]
      unfold nD
      rw [Int.toNat_of_nonneg h1]
    · rcases List.mem_cons.mp hl with rfl | hl
      · omega
      · exact e3 l hl
  | [], w, k + 1, h => h.elim
  | d :: ds, w, 0, h => h.elim
theorem low_draws (c : Int) {w k : Nat} (hw : 0 < w ∧ w < 1000000) (hk : k < 1000) : ∃ ls : List Nat, m_law_draws [.int c, .lst ((List.replicate k (w : Int)).map D.int)] = .ok (.lst (ls.map nD)) ∧ ls.length = k ∧ ∀ l ∈ ls, l < w := by
  obtain ⟨ds, hd, q⟩ := draws_ok c (List.replicate k (w : Int)) (by simpa using hk) (fun s hs => by
    have e := List.eq_of_mem_replicate hs
    rw [e]
    omega)
  obtain ⟨ls, e1, e2, e3⟩ := drawn_low hd
  rw [e1] at q
  exact ⟨ls, q, e2, e3⟩
theorem shl_bit {b : Nat} (hb : b = 0 ∨ b = 1) {p : Nat} (h : p ≤ 1000) : oshl (nD b) (nD p) = .ok (nD (b * 2 ^ p)) := by
  unfold nD
  rw [oshl_bit (by omega) p h]
  simp
end Py.U

namespace Py.U
open PySem
/-! ### the low bits -/
def low (l : Nat) (ns : List Nat) : List Nat := ns.map fun n => n % 2 ^ l
theorem low_len (l : Nat) (ns : List Nat) : (low l ns).length = ns.length := by simp [low]
theorem at0_lw (l : Nat) (ns : List Nat) (a : Nat) : at0 (low l ns) a = at0 ns a % 2 ^ l := by
  unfold at0 low
  by_cases h : a < ns.length
  · simp [h]
  · simp [h]
theorem bts_lw {l p : Nat} (h : p < l) (ns : List Nat) : bts (low l ns) p = bts ns p := by
  unfold bts low
  rw [List.map_map]
  exact List.map_congr_left fun n _ => bt_mod h
theorem low_Low (l : Nat) (ns : List Nat) : Low l (low l ns) := fun n hn => by
  obtain ⟨m, _, rfl⟩ := List.mem_map.mp hn
  exact Nat.mod_lt _ (Nat.two_pow_pos l)
theorem mod_mod_pow {l p : Nat} (h : p ≤ l) (n : Nat) : n % 2 ^ l % 2 ^ p = n % 2 ^ p := Nat.mod_mod_of_dvd n (Nat.pow_dvd_pow 2 h)
theorem ones_lw {l : Nat} (ns ps : List Nat) : ∀ q, q ≤ l → onesAt (low l ns) ps q = onesAt ns ps q
  | 0, _ => rfl
  | q + 1, h => by
    unfold onesAt
    rw [ones_lw ns ps q (by omega), bts_lw (by omega)]
theorem mk_lw {l p : Nat} (h : p ≤ l) (ns : List Nat) (x : Deed) : x.mk (low l ns) p = x.mk ns p := by
  cases x with
  | shift a =>
    show (if p = 0 then 0 else bt (at0 (low l ns) a) (p - 1)) = if p = 0 then 0 else bt (at0 ns a) (p - 1)
    by_cases e : p = 0
    · rw [if_pos e, if_pos e]
    · rw [if_neg e, if_neg e, at0_lw, bt_mod (by omega)]
  | minus a =>
    show bor 0 (at0 (low l ns) a) p = bor 0 (at0 ns a) p
    unfold bor
    rw [at0_lw, mod_mod_pow h]
  | add a b =>
    show car (at0 (low l ns) a) (at0 (low l ns) b) p = car (at0 ns a) (at0 ns b) p
    unfold car
    rw [at0_lw, at0_lw, mod_mod_pow h, mod_mod_pow h]
  | sub a b =>
    show bor (at0 (low l ns) a) (at0 (low l ns) b) p = bor (at0 ns a) (at0 ns b) p
    unfold bor
    rw [at0_lw, at0_lw, mod_mod_pow h, mod_mod_pow h]
  | count m r ps =>
    show onesAt (low l ns) ps p % m = onesAt ns ps p % m
    rw [ones_lw ns ps p h]
  | _ => rfl
theorem val_lw {w l : Nat} (h : l ≤ w) {ns : List Nat} (hL : Low w ns) (x : Deed) : x.val w ns % 2 ^ l = x.val l (low l ns) := by
  refine eq_of_bt (Nat.mod_lt _ (Nat.two_pow_pos l)) (val_lt (low_Low l ns) x) fun p hp => ?_
  rw [bt_mod hp]
  cases hm : x.marked with
  | true => rw [val_bit1 hL (by omega) hm, val_bit1 (low_Low l ns) hp hm, bts_lw hp, mk_lw (by omega)]
  | false => rw [val_bit0 hL (by omega) hm, val_bit0 (low_Low l ns) hp hm, bts_lw hp]
theorem vals_lw {w l : Nat} (h : l ≤ w) (xs : List Deed) : ∀ {bs : List Nat}, Low w bs → low l (vals w bs xs) = vals l (low l bs) xs := by
  induction xs with
  | nil => intro bs _; rfl
  | cons x xs ih =>
    intro bs hL
    have e : vals w bs (x :: xs) = vals w (bs ++ [x.val w bs]) xs := rfl
    have e2 : vals l (low l bs) (x :: xs) = vals l (low l bs ++ [x.val l (low l bs)]) xs := rfl
    have hL2 : Low w (bs ++ [x.val w bs]) := fun n hn => by
      rcases List.mem_append.mp hn with q | q
      · exact hL n q
      · rw [List.mem_singleton.mp q]
        exact val_lt hL x
    rw [e, e2, ih hL2]
    congr 1
    unfold low
    rw [List.map_append, List.map_singleton]
    congr 1
    rw [val_lw h hL x]
    rfl
/-! ### a machine's walk -/
def pk (ls : List Nat) (k : Nat) : Nat → Nat
  | 0 => 0
  | q + 1 => pk ls k q + bt (at0 ls q) k * 2 ^ q
theorem pk_lt (ls : List Nat) (k : Nat) : ∀ q, pk ls k q < 2 ^ q
  | 0 => by
    show 0 < 1
    decide
  | q + 1 => by
    have h := pk_lt ls k q
    unfold pk
    rw [Nat.pow_succ]
    rcases bt01 (at0 ls q) k with e | e <;> rw [e] <;> omega
theorem pk_lw {l k : Nat} (h : k < l) (ls : List Nat) : ∀ q, pk (low l ls) k q = pk ls k q
  | 0 => rfl
  | q + 1 => by
    unfold pk
    rw [pk_lw h ls q, at0_lw, bt_mod h]
def row2 (t : List (List Nat)) (i j : Nat) : Nat := at0 (t.getD i []) j
def sts (nx : List (List Nat)) (cs : List Nat) : Nat → Nat
  | 0 => 0
  | k + 1 => row2 nx (sts nx cs k) (pk cs k cs.length)
def num (nx os : List (List Nat)) (cs : List Nat) : Nat → Nat
  | 0 => 0
  | k + 1 => num nx os cs k + row2 os (sts nx cs k) (pk cs k cs.length) * 2 ^ k
structure Tab (S L B : Nat) (t : List (List Nat)) : Prop where
  len : t.length = S
  row : ∀ r ∈ t, r.length = L ∧ ∀ x ∈ r, x < B
theorem Tab.get {S L B : Nat} {t : List (List Nat)} (h : Tab S L B t) {i : Nat} (hi : i < S) : ∃ r, t[i]? = some r ∧ t.getD i [] = r ∧ r.length = L ∧ ∀ x ∈ r, x < B := by
  have hl : i < t.length := by rw [h.len]; exact hi
  obtain ⟨h1, h2⟩ := h.row t[i] (List.getElem_mem hl)
  exact ⟨t[i], by simp [hl], by simp [hl], h1, h2⟩
theorem row2_lt {S L B : Nat} {t : List (List Nat)} (h : Tab S L B t) {i j : Nat} (hi : i < S) (hj : j < L) : row2 t i j < B := by
  obtain ⟨r, _, e, l, hb⟩ := h.get hi
  unfold row2 at0
  rw [e]
  have hj2 : j < r.length := by omega
  simp only [List.getD_eq_getElem?_getD, List.getElem?_eq_getElem hj2, Option.getD_some]
  exact hb _ (List.getElem_mem hj2)
theorem sts_lt {S : Nat} {nx : List (List Nat)} {cs : List Nat} (h : Tab S (2 ^ cs.length) S nx) (hS : 0 < S) : ∀ k, sts nx cs k < S
  | 0 => hS
  | k + 1 => row2_lt h (sts_lt h hS k) (pk_lt cs k _)
theorem num_lt {S : Nat} {nx os : List (List Nat)} {cs : List Nat} (h : Tab S (2 ^ cs.length) S nx) (h2 : Tab S (2 ^ cs.length) 2 os) (hS : 0 < S) : ∀ k, num nx os cs k < 2 ^ k
  | 0 => by
    show 0 < 1
    decide
  | k + 1 => by
    have ih := num_lt h h2 hS k
    have hb := row2_lt h2 (sts_lt h hS k) (pk_lt cs k _)
    unfold num
    rw [Nat.pow_succ]
    have : row2 os (sts nx cs k) (pk cs k cs.length) = 0 ∨ row2 os (sts nx cs k) (pk cs k cs.length) = 1 := by omega
    rcases this with e | e <;> rw [e] <;> omega
theorem sts_lw {l : Nat} (nx : List (List Nat)) (cs : List Nat) : ∀ k, k ≤ l → sts nx (low l cs) k = sts nx cs k
  | 0, _ => rfl
  | k + 1, h => by
    unfold sts
    rw [sts_lw nx cs k (by omega), pk_lw (by omega), low_len]
theorem num_lw {l : Nat} (nx os : List (List Nat)) (cs : List Nat) : ∀ k, k ≤ l → num nx os (low l cs) k = num nx os cs k
  | 0, _ => rfl
  | k + 1, h => by
    unfold num
    rw [num_lw nx os cs k (by omega), sts_lw nx cs k (by omega), pk_lw (by omega), low_len]
theorem num_mod {S : Nat} {nx os : List (List Nat)} {cs : List Nat} (h : Tab S (2 ^ cs.length) S nx) (h2 : Tab S (2 ^ cs.length) 2 os) (hS : 0 < S) (l : Nat) : ∀ j, num nx os cs (l + j) % 2 ^ l = num nx os cs l
  | 0 => Nat.mod_eq_of_lt (num_lt h h2 hS l)
  | j + 1 => by
    have ih := num_mod h h2 hS l j
    have e : num nx os cs (l + (j + 1)) = num nx os cs (l + j) + row2 os (sts nx cs (l + j)) (pk cs (l + j) cs.length) * 2 ^ (l + j) := rfl
    have e2 : row2 os (sts nx cs (l + j)) (pk cs (l + j) cs.length) * 2 ^ (l + j) = 2 ^ l * (row2 os (sts nx cs (l + j)) (pk cs (l + j) cs.length) * 2 ^ j) := by
      rw [Nat.pow_add, Nat.mul_left_comm]
    rw [e, e2, Nat.add_mul_mod_self_left, ih]
theorem num_low {S w l : Nat} {nx os : List (List Nat)} {cs : List Nat} (h : Tab S (2 ^ cs.length) S nx) (h2 : Tab S (2 ^ cs.length) 2 os) (hS : 0 < S) (hl : l ≤ w) : num nx os cs w % 2 ^ l = num nx os (low l cs) l := by
  obtain ⟨j, rfl⟩ : ∃ j, w = l + j := ⟨w - l, by omega⟩
  rw [num_mod h h2 hS, num_lw nx os cs l (Nat.le_refl _)]
end Py.U

namespace Py.U
open PySem
theorem oshl1_64 : oshl (.int 1) (.int 64) = .ok (.int 18446744073709551616) := oshl1 64 (by decide)
theorem word_ok (c : Int) (w : Nat) (hw : w ≤ 64) : ∃ v : Int, 0 ≤ v ∧ v < 2 ^ w ∧ m_law_word [.int c, .int (w : Int)] = .ok (.int v) := by
  have hs : oshl (.int 1) (.int (w : Int)) = .ok (.int (2 ^ w)) := oshl1 w (by omega)
  have hp := pow_pos2 w
  generalize (2 : Int) ^ w = P at hs hp ⊢
  generalize (w : Int) = W at hs ⊢
  obtain ⟨r0, _, _, h0⟩ := mixed_ok c 0
  obtain ⟨r1, _, _, h1⟩ := mixed_ok c 1
  obtain ⟨r2, _, _, h2⟩ := mixed_ok c 2
  obtain ⟨r3, _, _, h3⟩ := mixed_ok c 3
  obtain ⟨r4, a4, b4, h4⟩ := mixed_ok c 4
  obtain ⟨j, hj⟩ : ∃ j : Nat, r4 % 64 = (j : Int) := ⟨(r4 % 64).toNat, by omega⟩
  have h6 : oshl (.int 1) (.int (r4 % 64)) = .ok (.int (2 ^ j)) := by
    rw [hj]
    exact oshl1 j (by omega)
  have hq := opow18
  have hm := @Int.emod_nonneg
  unfold m_law_word
  rw [fn2]
  unfold b__law_word
  by_cases g : (1000000000000000000 : Int) ≤ c
  · refine ⟨c % P, Int.emod_nonneg _ (by omega), Int.emod_lt_of_pos _ hp, ?_⟩
    simp [var, hq, g, hs, omod_ii hp]
  · by_cases g2 : r3 % 6 = 2
    · refine ⟨2 ^ j % P, Int.emod_nonneg _ (by omega), Int.emod_lt_of_pos _ hp, ?_⟩
      simp [var, hq, g, hs, omod_ii, hp, rng3, forL, h0, h1, h2, h3, h4, omul_l, omul_r, oshl1_64, g2, h6]
    · by_cases g1 : r3 % 6 = 1
      · refine ⟨18446744073709551615 % P, Int.emod_nonneg _ (by omega), Int.emod_lt_of_pos _ hp, ?_⟩
        simp [var, hq, g, hs, omod_ii, hp, rng3, forL, h0, h1, h2, h3, h4, omul_l, omul_r, oshl1_64, g2, g1]
      · by_cases g0 : r3 % 6 = 0
        · refine ⟨0 % P, Int.emod_nonneg _ (by omega), Int.emod_lt_of_pos _ hp, ?_⟩
          simp [var, hq, g, hs, omod_ii, hp, rng3, forL, h0, h1, h2, h3, h4, omul_l, omul_r, oshl1_64, g2, g1, g0]
        · refine ⟨((r0 % 67108864 * 67108864 + r1 % 67108864) * 67108864 + r2 % 67108864) % P, Int.emod_nonneg _ (by omega), Int.emod_lt_of_pos _ hp, ?_⟩
          simp [var, hq, g, hs, omod_ii, hp, rng3, forL, h0, h1, h2, h3, h4, omul_l, omul_r, oshl1_64, g2, g1, g0]
/-! ### deeds drawn -/
theorem ix7' {a b c d e f g : D} : oidx (.lst [a, b, c, d, e, f, g]) (.int 0) = .ok a ∧ oidx (.lst [a, b, c, d, e, f, g]) (.int 1) = .ok b ∧ oidx (.lst [a, b, c, d, e, f, g]) (.int 2) = .ok c ∧ oidx (.lst [a, b, c, d, e, f, g]) (.int 3) = .ok d ∧ oidx (.lst [a, b, c, d, e, f, g]) (.int 4) = .ok e ∧ oidx (.lst [a, b, c, d, e, f, g]) (.int 5) = .ok f ∧ oidx (.lst [a, b, c, d, e, f, g]) (.int 6) = .ok g := ⟨rfl, rfl, rfl, rfl, rfl, rfl, rfl⟩
theorem deed_ok {n : Nat} (hn : 0 < n) (d0 d1 d2 d3 d4 d5 d6 : Int) (h0 : 0 ≤ d0 ∧ d0 < 14) (h3 : 0 ≤ d3 ∧ d3 < 3) (h6 : 0 ≤ d6 ∧ d6 < 4) :
    ∃ x : Deed, x.ok n ∧ m_law_deed [.lst [.int d0, .int d1, .int d2, .int d3, .int d4, .int d5, .int d6], .int (n : Int)] = .ok x.d := by
  obtain ⟨a, ha, ea⟩ := mod_nat d1 hn
  obtain ⟨b, hb, eb⟩ := mod_nat d2 hn
  obtain ⟨c, hc, ec⟩ := mod_nat d4 hn
  have hn0 : (0 : Int) < (n : Int) := by omega
  have m1 : omod (.int d1) (.int (n : Int)) = .ok (nD a) := by rw [omod_ii hn0, ea]; rfl
  have m2 : omod (.int d2) (.int (n : Int)) = .ok (nD b) := by rw [omod_ii hn0, eb]; rfl
  have m4 : omod (.int d4) (.int (n : Int)) = .ok (nD c) := by rw [omod_ii hn0, ec]; rfl
  obtain ⟨i0, i1, i2, i3, i4, i5, i6⟩ := @ix7' (.int d0) (.int d1) (.int d2) (.int d3) (.int d4) (.int d5) (.int d6)
  generalize hL : D.lst [.int d0, .int d1, .int d2, .int d3, .int d4, .int d5, .int d6] = L at *
  generalize (n : Int) = N at *
  unfold m_law_deed
  rw [fn2]
  unfold b__law_deed
  by_cases g : 10 ≤ d0
  · have q3 : d3 = 0 ∨ d3 = 1 ∨ d3 = 2 := by omega
    have q6 : d6 = 0 ∨ d6 = 1 ∨ d6 = 2 ∨ d6 = 3 := by omega
    have key : ∀ p : Nat, (p = 2 ∨ p = 3 ∨ p = 5) → oidx (.lst [.int 2, .int 3, .int 5]) (.int d3) = .ok (nD p) → ∃ x : Deed, x.ok n ∧ done (b__law_deed [some L, some (.int N), none, none, none, none, none]) = .ok x.d := fun p hp hi => by
      obtain ⟨r, hr, er⟩ := mod_nat d5 (n := p) (by omega)
      have m5 : omod (.int d5) (nD p) = .ok (nD r) := by
        unfold nD
        rw [omod_ii (by omega), er]
      have fin : ∀ ps : List Nat, oslc (.tup [nD a, nD b, nD c, nD a]) none (some (1 + d6)) = .ok (.tup (ps.map nD)) → 1 ≤ ps.length → ps.length ≤ 4 → (∀ a ∈ ps, a < n) → ∃ x : Deed, x.ok n ∧ done (b__law_deed [some L, some (.int N), none, none, none, none, none]) = .ok x.d := fun ps hs l1 l4 hm => by
        refine ⟨.count p r ps, ⟨hp, hr, l1, l4, hm⟩, ?_⟩
        unfold b__law_deed
        simp [var, i0, i1, i2, i3, i4, i5, i6, m1, m2, m4, m5, g, hi, slc_eq, bnd_none, bnd_some, hs, Deed.d]
      rcases q6 with rfl | rfl | rfl | rfl
      · exact fin [a] rfl (by simp) (by simp) (by simp [ha])
      · exact fin [a, b] rfl (by simp) (by simp) (by simp [ha, hb])
      · exact fin [a, b, c] rfl (by simp) (by simp) (by simp [ha, hb, hc])
      · exact fin [a, b, c, a] rfl (by simp) (by simp) (by simp [ha, hb, hc])
    rcases q3 with rfl | rfl | rfl
    · exact key 2 (by simp) rfl
    · exact key 3 (by simp) rfl
    · exact key 5 (by simp) rfl
  · have key : ∀ (s : String) (t : Bool), oidx (.lst [.str "zero", .str "ones", .str "not", .str "and", .str "or", .str "xor", .str "shift", .str "minus", .str "add", .str "sub"]) (.int d0) = .ok (.str s) →
        oin (.int d0) (.lst [.int 2, .int 6, .int 7]) = .ok (.bl t) → done (b__law_deed [some L, some (.int N), none, none, none, none, none]) = .ok (if d0 < 2 then .tup [.str s] else if t then .tup [.str s, nD a] else .tup [.str s, nD a, nD b]) := fun s t k2 k3 => by
      unfold b__law_deed
      by_cases w : d0 < 2
      · simp [var, i0, i1, i2, m1, m2, g, k2, w]
      · cases t <;> simp [var, i0, i1, i2, m1, m2, g, k2, k3, w]
    have q0 : d0 = 0 ∨ d0 = 1 ∨ d0 = 2 ∨ d0 = 3 ∨ d0 = 4 ∨ d0 = 5 ∨ d0 = 6 ∨ d0 = 7 ∨ d0 = 8 ∨ d0 = 9 := by omega
    clear hL
    rcases q0 with rfl | rfl | rfl | rfl | rfl | rfl | rfl | rfl | rfl | rfl
    · exact ⟨.zero, trivial, key "zero" false rfl rfl⟩
    · exact ⟨.ones, trivial, key "ones" false rfl rfl⟩
    · exact ⟨.inv a, ha, key "not" true rfl rfl⟩
    · exact ⟨.and a b, ⟨ha, hb⟩, key "and" false rfl rfl⟩
    · exact ⟨.or a b, ⟨ha, hb⟩, key "or" false rfl rfl⟩
    · exact ⟨.xor a b, ⟨ha, hb⟩, key "xor" false rfl rfl⟩
    · exact ⟨.shift a, ha, key "shift" true rfl rfl⟩
    · exact ⟨.minus a, ha, key "minus" true rfl rfl⟩
    · exact ⟨.add a b, ⟨ha, hb⟩, key "add" false rfl rfl⟩
    · exact ⟨.sub a b, ⟨ha, hb⟩, key "sub" false rfl rfl⟩
theorem drawn_deed (c : Int) {n : Nat} (hn : 0 < n) : ∃ x : Deed, x.ok n ∧ ∃ L, m_law_draws [.int c, .lst [.int 13, .int 15, .int 15, .int 3, .int 15, .int 30, .int 4]] = .ok L ∧ m_law_deed [L, nD n] = .ok x.d := by
  obtain ⟨ds, hd, q⟩ := draws_ok c [13, 15, 15, 3, 15, 30, 4] (by simp) (by simp)
  obtain ⟨x0, x1, x2, x3, x4, x5, x6, rfl, b0, b3, b6⟩ := drawn7 hd
  obtain ⟨x, h1, h2⟩ := deed_ok hn x0 x1 x2 x3 x4 x5 x6 (by omega) b3 b6
  exact ⟨x, h1, _, q, h2⟩
/-! ### the same? -/
theorem integer_ok (a : Nat) : m_law_integer [nD a, nD a] = .ok (.bl true) := by
  have h1 : oisi CS [.int] (nD a) = .ok (.bl true) := rfl
  have h2 : oisi CS [.bl] (nD a) = .ok (.bl false) := rfl
  have h3 := nat_eq a a
  rw [decide_eq_true rfl] at h3
  unfold m_law_integer
  rw [fn2]
  unfold b__law_integer
  generalize nD a = A at *
  simp [var, h1, h2, h3]
theorem same_ok (xs : List Nat) (hz : xs.length ≤ 1000) : m_law_same [.tup (xs.map nD), .lst (xs.map nD)] = .ok (.bl true) := by
  obtain ⟨e', h1, o, rfl⟩ := forR_inv (b := forB (gnm 2) (Py.ite (notT (tst (call m_law_integer (argC (bin oidx (var 0) (var 2)) (argC (bin oidx (var 1) (var 2)) argN))))) (ret (cst (.bl false))) skip)) (n := xs.length) (e := [some (.tup (xs.map nD)), some (.lst (xs.map nD)), none])
    (fun i e => ∃ o, e = [some (.tup (xs.map nD)), some (.lst (xs.map nD)), o]) ⟨none, rfl⟩ (by
      rintro i e hi ⟨o, rfl⟩
      have h1 := bits_at (bs := xs) hi
      have h2 : oidx (.tup (xs.map nD)) (nD i) = .ok (nD (at0 xs i)) := h1
      have h3 := integer_ok (at0 xs i)
      rw [forB_eq, gnm_eq, lift_some, bind_ok]
      change oidx _ (.int (i : Int)) = _ at h1 h2
      generalize (i : Int) = z at *
      generalize nD (at0 xs i) = t at *
      generalize xs.map nD = XS at *
      exact ⟨[some (.tup XS), some (.lst XS), some (.int z)], by simp [var, h1, h2, h3], _, rfl⟩)
  have hr : irng1 (un blen (var 1)) [some (.tup (xs.map nD)), some (.lst (xs.map nD)), none] = .ok ((List.range xs.length).map fun i => .int ((i : Nat) : Int)) := irng1_nat (by simp [var]) (rng_lt hz)
  have h3 : ∀ x, oisi CS [.tup] (.tup x) = .ok (.bl true) := fun _ => rfl
  unfold m_law_same
  rw [fn2]
  unfold b__law_same
  generalize hX : xs.map nD = XS at *
  simp [var, h3, hr, h1]
theorem low_too_ok {l : Nat} (hl : l ≤ 1000) (xs : List Nat) (hz : xs.length ≤ 1000) : m_law_low_too [.lst (xs.map nD), .lst ((low l xs).map nD), nD l] = .ok (.bl true) := by
  obtain ⟨e', h1, o, rfl⟩ := forR_inv (b := forB (gnm 3) (Py.ite (tst (bin Py.one (bin omod (un bint (bin oidx (var 0) (var 3))) (bin oshl (cst (.int 1)) (var 2))) (bin oidx (var 1) (var 3)))) (ret (cst (.bl false))) skip)) (n := xs.length) (e := [some (.lst (xs.map nD)), some (.lst ((low l xs).map nD)), some (nD l), none])
    (fun i e => ∃ o, e = [some (.lst (xs.map nD)), some (.lst ((low l xs).map nD)), some (nD l), o]) ⟨none, rfl⟩ (by
      rintro i e hi ⟨o, rfl⟩
      have h1 := bits_at (bs := xs) hi
      have h2 := bits_at (bs := low l xs) (a := i) (by rw [low_len]; exact hi)
      rw [at0_lw] at h2
      have h3 := shl_nD (n := l) hl
      have h4 := nmod (at0 xs i) (p := 2 ^ l) (Nat.two_pow_pos l)
      have h5 : bint (nD (at0 xs i)) = .ok (nD (at0 xs i)) := rfl
      have h6 : Py.one (nD (at0 xs i % 2 ^ l)) (nD (at0 xs i % 2 ^ l)) = .ok (.bl false) := by
        unfold nD
        rw [one_ii]
        simp
      rw [forB_eq, gnm_eq, lift_some, bind_ok]
      change oidx _ (.int (i : Int)) = _ at h1 h2
      generalize (i : Int) = z at *
      generalize nD (at0 xs i % 2 ^ l) = t at *
      generalize nD (at0 xs i) = t2 at *
      generalize nD (2 ^ l) = t3 at *
      generalize nD l = t4 at *
      generalize (low l xs).map nD = YS at *
      generalize xs.map nD = XS at *
      exact ⟨[some (.lst XS), some (.lst YS), some t4, some (.int z)], by simp [var, h1, h2, h3, h4, h5, h6], _, rfl⟩)
  have hr : ∀ a b c, irng1 (un blen (var 0)) [some (.lst (xs.map nD)), a, b, c] = .ok ((List.range xs.length).map fun i => .int ((i : Nat) : Int)) := fun a b c => irng1_nat (by simp [var]) (rng_lt hz)
  unfold m_law_low_too
  rw [fn3]
  unfold b__law_low_too
  generalize hY : (low l xs).map nD = YS at *
  generalize hX : xs.map nD = XS at *
  generalize nD l = t4 at *
  simp [var, hr, h1]
def nvB : SM := (app 3 (callI m_law_value (argC (var 4) (argC (var 3) (argC (var 1) argN)))))
theorem numbers_ok {w n : Nat} (hw : w ≤ 1000) {bs : List Nat} {xs : List Deed} (hb : Low w bs) (hl : bs.length = n) (hr : Row n xs) (hz : n + xs.length ≤ 1000) : m_law_numbers [.lst (xs.map Deed.d), nD w, .lst (bs.map nD)] = .ok (.lst ((vals w bs xs).map nD)) := by
  have q := forL_inv (b := forB (gnm 4) nvB) (xs := xs.map Deed.d) (e := [some (.lst (xs.map Deed.d)), some (nD w), some (.lst (bs.map nD)), some (.lst (bs.map nD)), none])
    (fun k E => ∃ o, E = [some (.lst (xs.map Deed.d)), some (nD w), some (.lst (bs.map nD)), some (.lst ((vals w bs (xs.take k)).map nD)), o]) 0 ⟨none, rfl⟩ (by
      rintro k E hk ⟨o, rfl⟩
      have hk' : k < xs.length := by simpa using hk
      have ht : xs.take (k + 1) = xs.take k ++ [xs[k]] := by
        rw [List.take_add_one]
        simp [hk']
      have hlen : (vals w bs (xs.take k)).length = n + k := by
        rw [vals_len, List.length_take, hl]
        omega
      have hx := hr k hk'
      rw [← hlen] at hx
      have q1 := law_value_ok hw (vals_low (xs.take k) hb) hx
      rw [Nat.zero_add, ht, vals_snoc, List.getElem_map, List.map_append, List.map_singleton]
      have z : ((vals w bs (xs.take k)).map nD).length < SZ := by
        rw [List.length_map, hlen]
        exact Nat.lt_trans (show n + k < 1001 by omega) (by decide)
      have him : imm (nD (xs[k].val w (vals w bs (xs.take k)))) = true := rfl
      refine ⟨[some (.lst (xs.map Deed.d)), some (nD w), some (.lst (bs.map nD)), some (.lst ((vals w bs (xs.take k)).map nD ++ [nD (xs[k].val w (vals w bs (xs.take k)))])), some xs[k].d], ?_, _, rfl⟩
      generalize nD (xs[k].val w (vals w bs (xs.take k))) = v at *
      generalize (vals w bs (xs.take k)).map nD = V at *
      generalize bs.map nD = B at *
      generalize hX : xs[k].d = X at *
      generalize D.lst (xs.map Deed.d) = DS at *
      generalize nD w = N at *
      simp [nvB, var, callI, q1, him, z])
  obtain ⟨e', h1, o, rfl⟩ := q
  rw [List.length_map, Nat.zero_add, List.take_length] at h1
  unfold m_law_numbers
  rw [fn3]
  show done (seq (asg (gnm 3) (un blist (var 2))) (seq (for_ (iseq (var 0)) (gnm 4) nvB) (ret (var 3))) [some (.lst (xs.map Deed.d)), some (nD w), some (.lst (bs.map nD)), none, none]) = _
  generalize (vals w bs xs).map nD = V at *
  generalize bs.map nD = B at *
  generalize xs.map Deed.d = DS at *
  generalize nD w = N at *
  simp [var, h1]
/-! ### tables -/
def rD (r : List Nat) : D := .tup (r.map nD)
theorem cut_two {α : Type} (xs : List α) {i j : Nat} (h : i ≤ j) (h2 : j ≤ xs.length) : cut xs (some (i : Int)) (some (j : Int)) = (xs.drop i).take (j - i) := by
  unfold cut
  have e0 : HT.sIx xs.length 0 (some (i : Int)) = i := by rw [HT.sIx_nat, Nat.min_eq_left (by omega)]
  have e1 : HT.sIx xs.length xs.length (some (j : Int)) = j := by rw [HT.sIx_nat, Nat.min_eq_left h2]
  rw [e0, e1]
theorem nmul {a b : Nat} (h : a ≤ 1000) : omul (nD a) (nD b) = .ok (nD (a * b)) := by
  unfold nD
  rw [omul_l (by omega) (by omega)]
  simp
theorem table_ok (c : Int) {S L B : Nat} (hS : S ≤ 30) (hL : L ≤ 30) (hB : 0 < B ∧ B < 1000000) : ∃ t, Tab S L B t ∧ m_law_table [.int c, nD S, nD L, nD B] = .ok (.lst (t.map rD)) := by
  have hSL : S * L ≤ 900 := Nat.mul_le_mul hS hL
  obtain ⟨ls, h1, h2, h3⟩ := low_draws c hB (k := S * L) (by omega)
  have hle : ∀ s, s < S → s * L + L ≤ ls.length := fun s hs => by
    rw [h2]
    have := Nat.mul_le_mul_right L hs
    rw [Nat.succ_mul] at this
    exact this
  refine ⟨(List.range S).map fun s => (ls.drop (s * L)).take L, ⟨by simp, fun r hr => ?_⟩, ?_⟩
  · obtain ⟨s, hs, rfl⟩ := List.mem_map.mp hr
    have hs2 : s < S := by simpa using hs
    have := hle s hs2
    refine ⟨?_, fun x hx => h3 x (List.mem_of_mem_drop (List.mem_of_mem_take hx))⟩
    rw [List.length_take, List.length_drop]
    omega
  · have r1 := rep_one (B : Int) (S * L) (by omega)
    have m1 := nmul (a := S) (b := L) (by omega)
    have hc : ∀ a b, lcE (irng1 (var 1)) [5] (gnm 5) yes (un btuple (slc (var 4) (some (bin omul (var 5) (var 2))) (some (bin omul (bin oadd (var 5) (cst (.int 1))) (var 2))))) [some (.int c), some (nD S), some (nD L), a, some (.lst (ls.map nD)), b] = .ok (.lst (((List.range S).map fun s => (ls.drop (s * L)).take L).map rD)) := fun a b => by
      rw [List.map_map]
      refine lc_mapI (k := fun i => .int ((i : Nat) : Int)) (irng1_nat (by simp [var, nD]) (rng_lt (by omega))) (by rw [List.length_range]; exact le_sz (by omega)) fun s hs => ?_
      have hs2 : s < S := by simpa using hs
      have e1 : omul (.int (s : Int)) (nD L) = .ok (nD (s * L)) := nmul (a := s) (by omega)
      have e2 : oadd (.int (s : Int)) (.int 1) = .ok (nD (s + 1)) := nadd s 1
      have e3 : omul (nD (s + 1)) (nD L) = .ok (nD ((s + 1) * L)) := nmul (by omega)
      have e4 : oslc (.lst (ls.map nD)) (some ((s * L : Nat) : Int)) (some (((s + 1) * L : Nat) : Int)) = .ok (.lst (((ls.drop (s * L)).take L).map nD)) := by
        have := hle s hs2
        rw [oslc_l, cut_two _ (by rw [Nat.succ_mul]; omega) (by rw [List.length_map, Nat.succ_mul]; exact this), Nat.succ_mul, Nat.add_sub_cancel_left, List.map_take, List.map_drop]
      show ∃ e1, _ ∧ _ = Res.ok (D.tup (((ls.drop (s * L)).take L).map nD))
      change omul _ _ = .ok (.int ((s * L : Nat) : Int)) at e1
      change omul _ _ = .ok (.int (((s + 1) * L : Nat) : Int)) at e3
      generalize ((s * L : Nat) : Int) = i1 at *
      generalize (((s + 1) * L : Nat) : Int) = i2 at *
      generalize nD (s + 1) = i3 at *
      generalize ((ls.drop (s * L)).take L).map nD = T at *
      generalize (s : Int) = z at *
      generalize ls.map nD = LS at *
      generalize nD L = l at *
      exact ⟨_, rfl, by simp only [wipe]; simp [var, slc_eq, bnd_some, e1, e2, e3, e4]⟩
    unfold m_law_table
    rw [fn4]
    unfold b__law_table
    change omul _ _ = .ok (.int ((S * L : Nat) : Int)) at m1
    change olrep (.lst [nD B]) _ = _ at r1
    generalize ((S * L : Nat) : Int) = z at *
    generalize ((List.range S).map fun s => (ls.drop (s * L)).take L).map rD = T at *
    generalize (List.replicate (S * L) (B : Int)).map D.int = RS at *
    generalize ls.map nD = LS at *
    generalize nD S = s at *
    generalize nD L = l at *
    generalize nD B = b at *
    simp [var, r1, m1, h1, hc]
/-! ### the law's own walk -/
theorem tab_at {S L B : Nat} {t : List (List Nat)} (h : Tab S L B t) {i j : Nat} (hi : i < S) (hj : j < L) : ∃ r, oidx (.lst (t.map rD)) (nD i) = .ok (rD r) ∧ oidx (.tup (t.map rD)) (nD i) = .ok (rD r) ∧ oidx (rD r) (nD j) = .ok (nD (row2 t i j)) := by
  obtain ⟨r, e1, e2, e3, e4⟩ := h.get hi
  have h1 : oidx (.lst (t.map rD)) (nD i) = .ok (rD r) := oidx_l (k := i) (by rw [List.getElem?_map, e1]; rfl)
  refine ⟨r, h1, h1, ?_⟩
  unfold row2
  rw [e2]
  exact bits_at (bs := r) (by omega)
def lnB : SM := (asg (gnm 7) (bin oadd (var 7) (bin oshl (bin oand (bin oshr (bin oidx (var 3) (var 8)) (var 6)) (cst (.int 1))) (var 8))))
theorem ln_loop {cs : List Nat} (hz : cs.length ≤ 1000) (p : Nat) (a b c d e : Option D) (o0 : Option D) : ∃ o, forL (forB (gnm 8) lnB) ((List.range cs.length).map fun i => .int ((i : Nat) : Int)) [a, b, c, some (.lst (cs.map nD)), d, e, some (nD p), some (nD 0), o0] = .ok (.next [a, b, c, some (.lst (cs.map nD)), d, e, some (nD p), some (nD (pk cs p cs.length)), o]) := by
  obtain ⟨e', h1, o, rfl⟩ := forR_inv (b := forB (gnm 8) lnB) (n := cs.length) (e := [a, b, c, some (.lst (cs.map nD)), d, e, some (nD p), some (nD 0), o0])
    (fun q E => ∃ o, E = [a, b, c, some (.lst (cs.map nD)), d, e, some (nD p), some (nD (pk cs p q)), o]) ⟨o0, rfl⟩ (by
      rintro q E hq ⟨o, rfl⟩
      have h1 := bits_at (bs := cs) hq
      have h2 := bitN1 (at0 cs q) p
      have h3 := bitN2 (at0 cs q / 2 ^ p)
      have h4 := shl_bit (bt01 (at0 cs q) p) (p := q) (by omega)
      have h5 := nadd (pk cs p q) (bt (at0 cs q) p * 2 ^ q)
      change oshl (nD (at0 cs q / 2 ^ p % 2)) _ = _ at h4
      rw [forB_eq, gnm_eq, lift_some, bind_ok]
      show ∃ e', lnB [a, b, c, some (.lst (cs.map nD)), d, e, some (nD p), some (nD (pk cs p q)), some (nD q)] = _ ∧ _
      refine ⟨[a, b, c, some (.lst (cs.map nD)), d, e, some (nD p), some (nD (pk cs p (q + 1))), some (nD q)], ?_, _, rfl⟩
      show _ = Res.ok (Fl.next [_, _, _, _, _, _, _, some (nD (pk cs p q + bt (at0 cs q) p * 2 ^ q)), _])
      generalize nD (pk cs p q + bt (at0 cs q) p * 2 ^ q) = t1 at *
      generalize nD (bt (at0 cs q) p * 2 ^ q) = t2 at *
      generalize nD (at0 cs q / 2 ^ p % 2) = t3 at *
      generalize nD (at0 cs q / 2 ^ p) = t4 at *
      generalize nD (at0 cs q) = t5 at *
      generalize nD (pk cs p q) = t6 at *
      generalize nD q = t7 at *
      generalize nD p = t8 at *
      generalize cs.map nD = LS at *
      simp [lnB, var, h1, h2, h3, h4, h5])
  exact ⟨o, h1⟩
def lnO : SM := (seq (asg (gnm 7) (cst (.int 0)))
  (seq (for_ (irng1 (un blen (var 3))) (gnm 8) lnB)
  (seq (asg (gnm 4) (bin oadd (var 4) (bin oshl (bin oidx (bin oidx (var 1) (var 5)) (var 7)) (var 6))))
  (asg (gnm 5) (bin oidx (bin oidx (var 0) (var 5)) (var 7))))))
theorem law_number_ok {S w : Nat} {nx os : List (List Nat)} {cs : List Nat} (h : Tab S (2 ^ cs.length) S nx) (h2 : Tab S (2 ^ cs.length) 2 os) (hS : 0 < S) (hw : w ≤ 1000) (hz : cs.length ≤ 1000) : m_law_number [.lst (nx.map rD), .lst (os.map rD), nD w, .lst (cs.map nD)] = .ok (nD (num nx os cs w)) := by
  obtain ⟨e', h1, o6, o7, o8, rfl⟩ := forR_inv (b := forB (gnm 6) lnO) (n := w) (e := [some (.lst (nx.map rD)), some (.lst (os.map rD)), some (nD w), some (.lst (cs.map nD)), some (nD 0), some (nD 0), none, none, none])
    (fun k e => ∃ o6 o7 o8, e = [some (.lst (nx.map rD)), some (.lst (os.map rD)), some (nD w), some (.lst (cs.map nD)), some (nD (num nx os cs k)), some (nD (sts nx cs k)), o6, o7, o8]) ⟨none, none, none, rfl⟩ (by
      rintro k e hk ⟨o6, o7, o8, rfl⟩
      have st := sts_lt h hS k
      obtain ⟨r1, q1, _, q2⟩ := tab_at h st (pk_lt cs k cs.length)
      obtain ⟨r2, q3, _, q4⟩ := tab_at h2 st (pk_lt cs k cs.length)
      have hb := row2_lt h2 st (pk_lt cs k cs.length)
      have q5 := shl_bit (b := row2 os (sts nx cs k) (pk cs k cs.length)) (by omega) (p := k) (by omega)
      have q6 := nadd (num nx os cs k) (row2 os (sts nx cs k) (pk cs k cs.length) * 2 ^ k)
      obtain ⟨o, hl⟩ := ln_loop hz k (some (.lst (nx.map rD))) (some (.lst (os.map rD))) (some (nD w)) (some (nD (num nx os cs k))) (some (nD (sts nx cs k))) o8
      have hr : ∀ a b c d e f g i, irng1 (un blen (var 3)) [a, b, c, some (.lst (cs.map nD)), d, e, f, g, i] = .ok ((List.range cs.length).map fun i => .int ((i : Nat) : Int)) := fun a b c d e f g i => irng1_nat (by simp [var]) (rng_lt hz)
      rw [forB_eq, gnm_eq, lift_some, bind_ok]
      show ∃ e', lnO [some (.lst (nx.map rD)), some (.lst (os.map rD)), some (nD w), some (.lst (cs.map nD)), some (nD (num nx os cs k)), some (nD (sts nx cs k)), some (nD k), o7, o8] = _ ∧ _
      refine ⟨[some (.lst (nx.map rD)), some (.lst (os.map rD)), some (nD w), some (.lst (cs.map nD)), some (nD (num nx os cs (k + 1))), some (nD (sts nx cs (k + 1))), some (nD k), some (nD (pk cs k cs.length)), o], ?_, _, _, _, rfl⟩
      show _ = Res.ok (Fl.next [_, _, _, _, some (nD (num nx os cs k + row2 os (sts nx cs k) (pk cs k cs.length) * 2 ^ k)), some (nD (row2 nx (sts nx cs k) (pk cs k cs.length))), _, _, _])
      change forL _ _ [_, _, _, _, _, _, _, some (.int 0), _] = _ at hl
      generalize nD (num nx os cs k + row2 os (sts nx cs k) (pk cs k cs.length) * 2 ^ k) = t1 at *
      generalize nD (row2 os (sts nx cs k) (pk cs k cs.length) * 2 ^ k) = t2 at *
      generalize nD (row2 os (sts nx cs k) (pk cs k cs.length)) = t3 at *
      generalize nD (row2 nx (sts nx cs k) (pk cs k cs.length)) = t4 at *
      generalize nD (pk cs k cs.length) = t5 at *
      generalize nD (num nx os cs k) = t6 at *
      generalize nD (sts nx cs k) = t7 at *
      generalize nD k = t8 at *
      generalize nD w = t9 at *
      generalize cs.map nD = CS' at *
      generalize nx.map rD = NX at *
      generalize os.map rD = OS at *
      generalize rD r1 = R1 at *
      generalize rD r2 = R2 at *
      simp [lnO, var, hr, hl, q1, q2, q3, q4, q5, q6])
  have hr : ∀ a b c d e f g i, irng1 (var 2) [a, b, some (nD w), c, d, e, f, g, i] = .ok ((List.range w).map fun i => .int ((i : Nat) : Int)) := fun a b c d e f g i => irng1_nat (by simp [var, nD]) (rng_lt hw)
  unfold m_law_number
  rw [fn4]
  show done (seq (asg (gnm 4) (cst (.int 0))) (seq (asg (gnm 5) (cst (.int 0))) (seq (for_ (irng1 (var 2)) (gnm 6) lnO) (ret (var 4)))) [some (.lst (nx.map rD)), some (.lst (os.map rD)), some (nD w), some (.lst (cs.map nD)), none, none, none, none, none]) = _
  change forL _ _ [_, _, _, _, some (.int 0), some (.int 0), _, _, _] = _ at h1
  generalize nD (num nx os cs w) = t1 at *
  generalize nD (sts nx cs w) = t2 at *
  generalize cs.map nD = CS' at *
  generalize nx.map rD = NX at *
  generalize os.map rD = OS at *
  generalize nD w = t9 at *
  simp [var, hr, h1]
end Py.U

namespace Py.U
open PySem
/-! ### the machine -/
def machD (n : Nat) (nx os : List (List Nat)) : D := .ins "Machine" [("inputs", nD n), ("nexts", .tup (nx.map rD)), ("outs", .tup (os.map rD))]
theorem mach_in (n : Nat) (nx os : List (List Nat)) : oattr ["Row", "Machine"] "inputs" (machD n nx os) = .ok (nD n) := rfl
theorem mach_nx (n : Nat) (nx os : List (List Nat)) : oattr ["Machine"] "nexts" (machD n nx os) = .ok (.tup (nx.map rD)) := rfl
theorem mach_os (n : Nat) (nx os : List (List Nat)) : oattr ["Machine"] "outs" (machD n nx os) = .ok (.tup (os.map rD)) := rfl
theorem line_ok {r : List Nat} {L B : Nat} (hl : r.length = L) (hb : ∀ x ∈ r, x < B) (hz : L ≤ 1000) : m_is_line [rD r, nD L, nD B] = .ok (.bl true) := by
  have h1 : oisi CS [.tup] (rD r) = .ok (.bl true) := rfl
  have h2 : blen (rD r) = .ok (nD L) := by
    unfold rD
    rw [blen_t, List.length_map, hl]
    rfl
  have h3 : Py.one (nD L) (nD L) = .ok (.bl false) := by
    unfold nD
    rw [one_ii]
    simp
  have hc : lcE (iseq (var 0)) [3] (gnm 3) yes (call m_is_below (argC (var 3) (argC (var 2) argN))) [some (rD r), some (nD L), some (nD B), none] = .ok (.lst (r.map fun _ => .bl true)) := by
    refine lc_mapI (k := nD) (by simp [var, rD]) (by rw [hl]; exact le_sz hz) fun a ha => ?_
    have q := is_below_ok a B
    rw [decide_eq_true (hb a ha)] at q
    generalize nD a = A at *
    generalize nD B = N at *
    exact ⟨_, rfl, by simp only [wipe]; simp [var, q]⟩
  have hb2 : ball (.lst (r.map fun _ => .bl true)) = .ok (.bl true) := by
    have := ball_bools (r.map fun _ => true)
    rw [List.map_map] at this
    refine this.trans ?_
    rw [show (r.map fun _ => true).all id = true by simp]
  unfold m_is_line
  rw [fn3]
  unfold b_is_line
  generalize D.lst (r.map fun _ => .bl true) = Z at *
  generalize rD r = R at *
  generalize nD L = l at *
  generalize nD B = b at *
  simp [var, h1, h2, h3, hc, hb2]
theorem as_tup (ds : List D) : m_as_tuple [.lst ds] = .ok (.tup ds) := by
  have h : oisi CS [.lst, .tup] (.lst ds) = .ok (.bl true) := rfl
  unfold m_as_tuple
  rw [fn1]
  unfold b_as_tuple
  simp [var, h]
theorem nexts_ok {S L : Nat} {nx : List (List Nat)} (h : Tab S L S nx) (hS : 0 < S) (hz : S ≤ 1000) (hL : L ≤ 1000) : m_right_nexts [.lst (nx.map rD), nD L] = .ok (.tup (nx.map rD)) := by
  have q1 := as_tup (nx.map rD)
  have q2 : truthy (.tup (nx.map rD)) = .ok true := by
    cases hx : nx with
    | nil =>
      have := h.len
      rw [hx] at this
      simp at this
      omega
    | cons a b => simp [truthy]
  have q3 : blen (.tup (nx.map rD)) = .ok (nD S) := by
    rw [blen_t, List.length_map, h.len]
    rfl
  have loop : ∃ e', forL (forB (gtup [(gnm 3), (gnm 4)]) (Py.ite (notT (tst (call m_is_line (argC (var 4) (argC (var 1) (argC (un blen (var 2)) argN)))))) dead skip)) (enumL 0 (nx.map rD)) [some (.lst (nx.map rD)), some (nD L), some (.tup (nx.map rD)), none, none] = .ok (.next e') ∧ ∃ o3 o4, e' = [some (.lst (nx.map rD)), some (nD L), some (.tup (nx.map rD)), o3, o4] := by
    refine forL_inv (fun k e => ∃ o3 o4, e = [some (.lst (nx.map rD)), some (nD L), some (.tup (nx.map rD)), o3, o4]) 0 ⟨none, none, rfl⟩ ?_
    rintro k e hk ⟨o3, o4, rfl⟩
    have hk2 : k < nx.length := by
      rw [enum_len, List.length_map] at hk
      exact hk
    obtain ⟨h1, h2⟩ := h.row nx[k] (List.getElem_mem hk2)
    have q := line_ok h1 h2 hL
    rw [enum_at hk (by simpa using hk2), List.getElem_map, Nat.zero_add]
    generalize (k : Int) = z at *
    generalize rD nx[k] = R at *
    generalize nx.map rD = NX at *
    generalize nD L = l at *
    generalize nD S = s at *
    exact ⟨[some (.lst NX), some l, some (.tup NX), some (.int z), some R], by simp [var, gtup, gtupL, q, q3], _, _, rfl⟩
  obtain ⟨e', q4, o3, o4, rfl⟩ := loop
  have q5 : ienum (var 2) [some (.lst (nx.map rD)), some (nD L), some (.tup (nx.map rD)), none, none] = .ok (enumL 0 (nx.map rD)) := rfl
  unfold m_right_nexts
  rw [fn2]
  unfold b_right_nexts
  generalize hNX : nx.map rD = NX at *
  generalize nD L = l at *
  generalize enumL 0 NX = E at *
  simp [var, q1, q2, q4, q5]
theorem outs_ok {S L : Nat} {os : List (List Nat)} (h : Tab S L 2 os) (hz : S ≤ 1000) (hL : L ≤ 1000) : m_right_outs [.lst (os.map rD), nD L, nD S] = .ok (.tup (os.map rD)) := by
  have q1 := as_tup (os.map rD)
  have q2 : oisN (.tup (os.map rD)) = .ok (.bl false) := rfl
  have q3 : blen (.tup (os.map rD)) = .ok (nD S) := by
    rw [blen_t, List.length_map, h.len]
    rfl
  have q4 : bmin2 (nD S) (nD S) = .ok (nD S) := by
    unfold nD bmin2
    simp
  have q5 : Py.one (nD S) (nD S) = .ok (.bl false) := by
    unfold nD
    rw [one_ii]
    simp
  have loop : ∃ e', forL (forB (gnm 5) (Py.ite (notT (tst (call m_is_line (argC (bin oidx (var 3) (var 5)) (argC (var 1) (argC (cst (.int 2)) argN)))))) dead skip)) ((List.range S).map fun i => .int ((i : Nat) : Int)) [some (.lst (os.map rD)), some (nD L), some (nD S), some (.tup (os.map rD)), some (nD S), none] = .ok (.next e') ∧ ∃ o5, e' = [some (.lst (os.map rD)), some (nD L), some (nD S), some (.tup (os.map rD)), some (nD S), o5] := by
    refine forR_inv (fun k e => ∃ o5, e = [some (.lst (os.map rD)), some (nD L), some (nD S), some (.tup (os.map rD)), some (nD S), o5]) ⟨none, rfl⟩ ?_
    rintro k e hk ⟨o5, rfl⟩
    have hk2 : k < os.length := by rw [h.len]; exact hk
    obtain ⟨h1, h2⟩ := h.row os[k] (List.getElem_mem hk2)
    have q := line_ok h1 h2 hL
    have q0 : oidx (.tup (os.map rD)) (.int (k : Int)) = .ok (rD os[k]) := oidx_t (k := k) (by simp [hk2])
    change m_is_line [_, _, .int 2] = _ at q
    generalize (k : Int) = z at *
    generalize rD os[k] = R at *
    generalize os.map rD = OS at *
    generalize nD L = l at *
    generalize nD S = s at *
    exact ⟨[some (.lst OS), some l, some s, some (.tup OS), some s, some (.int z)], by simp [var, q, q0], _, rfl⟩
  obtain ⟨e', q6, o5, rfl⟩ := loop
  have hr : irng1 (var 4) [some (.lst (os.map rD)), some (nD L), some (nD S), some (.tup (os.map rD)), some (nD S), none] = .ok ((List.range S).map fun i => .int ((i : Nat) : Int)) := irng1_nat (by simp [var, nD]) (rng_lt hz)
  unfold m_right_outs
  rw [fn3]
  unfold b_right_outs
  generalize hOS : os.map rD = OS at *
  generalize nD L = l at *
  generalize nD S = s at *
  simp [var, q1, q2, q3, q4, q5, q6, hr]
theorem mach_made {n S : Nat} {nx os : List (List Nat)} (h1 : 1 ≤ n) (h3 : n ≤ 3) (hn : Tab S (2 ^ n) S nx) (ho : Tab S (2 ^ n) 2 os) (hS : 0 < S) (hz : S ≤ 1000) : m_Machine [nD n, .lst (nx.map rD), .lst (os.map rD)] = .ok (machD n nx os) := by
  have hP : 2 ^ n ≤ 8 := by
    have : n = 1 ∨ n = 2 ∨ n = 3 := by omega
    rcases this with rfl | rfl | rfl <;> decide
  have q1 := inputs_ok h1 h3
  have q2 := shl_nD (n := n) (by omega)
  have q3 := nexts_ok hn hS hz (by omega)
  have q4 := outs_ok ho hz (by omega)
  have q5 : blen (.tup (nx.map rD)) = .ok (nD S) := by
    rw [blen_t, List.length_map, hn.len]
    rfl
  have q6 : oattr ["Machine"] "nexts" (.ins "Machine" [("inputs", nD n), ("nexts", .tup (nx.map rD))]) = .ok (.tup (nx.map rD)) := rfl
  have key : b_Machine_init [some (.ins "Machine" []), some (nD n), some (.lst (nx.map rD)), some (.lst (os.map rD)), none] = .ok (.next [some (machD n nx os), some (nD n), some (.lst (nx.map rD)), some (.lst (os.map rD)), some (nD (2 ^ n))]) := by
    unfold b_Machine_init machD
    generalize nx.map rD = NX at *
    generalize os.map rD = OS at *
    generalize nD (2 ^ n) = P at *
    generalize nD n = N at *
    generalize nD S = s at *
    simp [var, q1, q2, q3, q4, q5, q6, setF, putF]
  exact made_eq rfl key
/-! ### letters of words -/
theorem pk_sum (cs : List Nat) (p : Nat) : ∀ m, ((List.range m).map fun i => bt (at0 cs i) p * 2 ^ i).sum = pk cs p m
  | 0 => rfl
  | m + 1 => by
    rw [List.range_succ, List.map_append, List.sum_append, pk_sum cs p m]
    simp [pk]
theorem SeqN.len {W : D} {ns : List Nat} (h : SeqN W ns) : blen W = .ok (.int (ns.length : Int)) := by
  rcases h with rfl | rfl <;> simp
theorem SeqN.at {W : D} {ns : List Nat} (h : SeqN W ns) {k : Nat} (hk : k < ns.length) : oidx W (nD k) = .ok (nD (at0 ns k)) := by
  rcases h with rfl | rfl
  · exact bits_at hk
  · exact bits_at (bs := ns) hk
theorem letters_of_ok {w : Nat} (hw : w ≤ 1000) {cs : List Nat} {W : D} (hW : SeqN W cs) (hz : cs.length ≤ 1000) : m_letters_of [nD w, W] = .ok (.tup ((List.range w).map fun p => nD (pk cs p cs.length))) := by
  have hl := hW.len
  obtain ⟨e', h1, o3, rfl⟩ := forR_inv (b := forB (gnm 3) (app 2 (un bsum (lcE (irng1 (un blen (var 1))) [4] (gnm 4) yes (bin oshl (bin oand (bin oshr (bin oidx (var 1) (var 4)) (var 3)) (cst (.int 1))) (var 4)))))) (n := w) (e := [some (nD w), some W, some (.lst []), none, none])
    (fun k e => ∃ o3, e = [some (nD w), some W, some (.lst ((List.range k).map fun p => nD (pk cs p cs.length))), o3, none]) ⟨none, rfl⟩ (by
      rintro p e hp ⟨o3, rfl⟩
      have hr : ∀ a b c d, irng1 (un blen (var 1)) [a, some W, b, c, d] = .ok ((List.range cs.length).map fun i => .int ((i : Nat) : Int)) := fun a b c d => irng1_nat (by simp [var, hl]) (rng_lt hz)
      have hc : ∀ a b d, lcE (irng1 (un blen (var 1))) [4] (gnm 4) yes (bin oshl (bin oand (bin oshr (bin oidx (var 1) (var 4)) (var 3)) (cst (.int 1))) (var 4)) [a, some W, b, some (nD p), d] = .ok (.lst ((List.range cs.length).map fun i => nD (bt (at0 cs i) p * 2 ^ i))) := fun a b d => by
        refine lc_mapI (k := fun i => .int ((i : Nat) : Int)) (hr _ _ _ _) (by rw [List.length_range]; exact le_sz hz) fun i hi => ?_
        have hi2 : i < cs.length := by simpa using hi
        have b1 := hW.at hi2
        have b2 := bitN1 (at0 cs i) p
        have b3 := bitN2 (at0 cs i / 2 ^ p)
        have b4 := shl_bit (bt01 (at0 cs i) p) (p := i) (by omega)
        change oshl (nD (at0 cs i / 2 ^ p % 2)) _ = _ at b4
        show ∃ e1, _ ∧ _ = Res.ok (nD (bt (at0 cs i) p * 2 ^ i))
        generalize nD (bt (at0 cs i) p * 2 ^ i) = t1 at *
        generalize nD (at0 cs i / 2 ^ p % 2) = t2 at *
        generalize nD (at0 cs i / 2 ^ p) = t3 at *
        generalize nD (at0 cs i) = t4 at *
        change oidx W (.int (i : Int)) = _ at b1
        change oshl _ (.int (i : Int)) = _ at b4
        generalize (i : Int) = z at *
        generalize nD p = t5 at *
        exact ⟨_, rfl, by simp only [wipe]; simp [var, b1, b2, b3, b4]⟩
      have hs : bsum (.lst ((List.range cs.length).map fun i => nD (bt (at0 cs i) p * 2 ^ i))) = .ok (nD (pk cs p cs.length)) := by
        have := sum_nD (fun i => bt (at0 cs i) p * 2 ^ i) (List.range cs.length)
        rw [pk_sum] at this
        exact this
      have z : ((List.range p).map fun p => nD (pk cs p cs.length)).length < SZ := by
        rw [List.length_map, List.length_range]
        exact Nat.lt_trans (show p < 1001 by omega) (by decide)
      rw [forB_eq, gnm_eq, lift_some, bind_ok]
      rw [List.range_succ, List.map_append, List.map_singleton]
      change ∃ e', app 2 _ [some (nD w), some W, some (.lst ((List.range p).map fun p => nD (pk cs p cs.length))), some (nD p), none] = _ ∧ _
      refine ⟨_, ?_, some (nD p), rfl⟩
      generalize ((List.range cs.length).map fun i => nD (bt (at0 cs i) p * 2 ^ i)) = LL at *
      generalize ((List.range p).map fun p => nD (pk cs p cs.length)) = PP at *
      generalize nD (pk cs p cs.length) = t at *
      generalize nD p = q at *
      generalize nD w = ww at *
      simp [var, hc, hs, z])
  have hr : ∀ a b c d : Option D, irng1 (var 0) [some (nD w), a, b, c, d] = .ok ((List.range w).map fun i => .int ((i : Nat) : Int)) := fun a b c d => irng1_nat (by simp [var, nD]) (rng_lt hw)
  unfold m_letters_of
  rw [fn2]
  unfold b_letters_of
  generalize ((List.range w).map fun p => nD (pk cs p cs.length)) = PP at *
  generalize nD w = ww at *
  simp [var, hr, h1]
end Py.U

namespace Py.U
open PySem
def outb (nx os : List (List Nat)) (cs : List Nat) (p : Nat) : Nat := row2 os (sts nx cs p) (pk cs p cs.length)
theorem reading_ok {n w : Nat} {cs : List Nat} (hn : cs.length = n) (hz : n ≤ 1000) (hw : w ≤ 1000) : m_is_reading [.tup ((List.range w).map fun p => nD (pk cs p cs.length)), nD n] = .ok (.bl true) := by
  have h3 := shl_nD (n := n) hz
  have h1 : oisi CS [.tup] (.tup ((List.range w).map fun p => nD (pk cs p cs.length))) = .ok (.bl true) := rfl
  have hl : lcE (iseq (var 0)) [2] (gnm 2) yes (call m_is_below (argC (var 2) (argC (bin oshl (cst (.int 1)) (var 1)) argN))) [some (.tup ((List.range w).map fun p => nD (pk cs p cs.length))), some (nD n), none] = .ok (.lst ((List.range w).map fun _ => .bl true)) := by
    refine lc_mapI (k := fun p => nD (pk cs p cs.length)) (by simp [var]) (by rw [List.length_range]; exact le_sz hw) fun p _ => ?_
    have q := is_below_ok (pk cs p cs.length) (2 ^ n)
    rw [decide_eq_true (by rw [← hn]; exact pk_lt cs p _)] at q
    generalize nD (2 ^ n) = P at *
    generalize nD (pk cs p cs.length) = N at *
    generalize nD n = M at *
    exact ⟨_, rfl, by simp only [wipe]; simp [var, q, h3]⟩
  have hb : ball (.lst ((List.range w).map fun _ => .bl true)) = .ok (.bl true) := by
    have := ball_bools ((List.range w).map fun _ => true)
    rw [List.map_map] at this
    refine this.trans ?_
    rw [show ((List.range w).map fun _ => true).all id = true by simp]
  unfold m_is_reading
  rw [fn2]
  unfold b_is_reading
  generalize D.lst ((List.range w).map fun _ => .bl true) = Z at *
  generalize hT : D.tup ((List.range w).map fun p => nD (pk cs p cs.length)) = T at *
  generalize nD n = M at *
  simp [var, h1, hl, hb]
def bwB : SM := (seq (app 3 (bin oidx (bin oidx (un (oattr ["Machine"] "outs") (var 0)) (var 2)) (var 4)))
  (asg (gnm 2) (bin oidx (bin oidx (un (oattr ["Machine"] "nexts") (var 0)) (var 2)) (var 4))))
theorem bits_written_ok {n S w : Nat} {nx os : List (List Nat)} {cs : List Nat} (hn : cs.length = n) (h : Tab S (2 ^ cs.length) S nx) (h2 : Tab S (2 ^ cs.length) 2 os) (hS : 0 < S) (hw : w ≤ 1000) (hz : cs.length ≤ 1000) : m_Machine_bits_written [machD n nx os, .tup ((List.range w).map fun p => nD (pk cs p cs.length))] = .ok (.tup ((List.range w).map fun p => nD (outb nx os cs p))) := by
  have i1 := mach_in n nx os
  have i2 := mach_nx n nx os
  have i3 := mach_os n nx os
  have q0 := reading_ok (w := w) hn (by omega) hw
  obtain ⟨e', h1, o4, rfl⟩ := forL_inv (b := forB (gnm 4) bwB) (xs := (List.range w).map fun p => nD (pk cs p cs.length)) (e := [some (machD n nx os), some (.tup ((List.range w).map fun p => nD (pk cs p cs.length))), some (nD 0), some (.lst []), none])
    (fun k e => ∃ o4, e = [some (machD n nx os), some (.tup ((List.range w).map fun p => nD (pk cs p cs.length))), some (nD (sts nx cs k)), some (.lst ((List.range k).map fun p => nD (outb nx os cs p))), o4]) 0 ⟨none, rfl⟩ (by
      rintro k e hk ⟨o4, rfl⟩
      have hk2 : k < w := by simpa using hk
      have st := sts_lt h hS k
      obtain ⟨r1, _, q1, q2⟩ := tab_at h st (pk_lt cs k cs.length)
      obtain ⟨r2, _, q3, q4⟩ := tab_at h2 st (pk_lt cs k cs.length)
      have z : ((List.range k).map fun p => nD (outb nx os cs p)).length < SZ := by
        rw [List.length_map, List.length_range]
        exact Nat.lt_trans (show k < 1001 by omega) (by decide)
      rw [Nat.zero_add, List.getElem_map, List.getElem_range]
      refine ⟨[some (machD n nx os), some (.tup ((List.range w).map fun p => nD (pk cs p cs.length))), some (nD (sts nx cs (k + 1))), some (.lst ((List.range (k + 1)).map fun p => nD (outb nx os cs p))), some (nD (pk cs k cs.length))], ?_, _, rfl⟩
      rw [List.range_succ, List.map_append, List.map_singleton]
      change oidx (rD r2) _ = .ok (nD (outb nx os cs k)) at q4
      show _ = Res.ok (Fl.next [_, _, some (nD (row2 nx (sts nx cs k) (pk cs k cs.length))), _, _])
      generalize nD (row2 nx (sts nx cs k) (pk cs k cs.length)) = t4 at *
      generalize nD (outb nx os cs k) = t3 at *
      generalize nD (pk cs k cs.length) = t5 at *
      generalize nD (sts nx cs k) = t7 at *
      generalize D.tup ((List.range w).map fun p => nD (pk cs p cs.length)) = LT at *
      generalize ((List.range k).map fun p => nD (outb nx os cs p)) = OB at *
      generalize machD n nx os = MD at *
      generalize D.tup (nx.map rD) = NX at *
      generalize D.tup (os.map rD) = OS at *
      generalize rD r1 = R1 at *
      generalize rD r2 = R2 at *
      simp [bwB, var, i2, i3, q1, q2, q3, q4, z])
  rw [List.length_map, List.length_range, Nat.zero_add] at h1
  unfold m_Machine_bits_written
  rw [fn2]
  show done (seq (Py.ite (notT (tst (call m_is_reading (argC (var 1) (argC (un (oattr ["Row", "Machine"] "inputs") (var 0)) argN))))) dead skip) (seq (asg (gnm 2) (cst (.int 0))) (seq (asg (gnm 3) (lstE argN)) (seq (for_ (iseq (var 1)) (gnm 4) bwB) (ret (un btuple (var 3)))))) [some (machD n nx os), some (.tup ((List.range w).map fun p => nD (pk cs p cs.length))), none, none, none]) = _
  change forL _ _ [_, _, some (.int 0), _, _] = _ at h1
  generalize ((List.range w).map fun p => nD (pk cs p cs.length)) = LT at *
  generalize ((List.range w).map fun p => nD (outb nx os cs p)) = OB at *
  generalize machD n nx os = MD at *
  generalize nD (sts nx cs w) = t7 at *
  generalize nD n = N at *
  simp [var, i1, q0, h1]
theorem num_sum (nx os : List (List Nat)) (cs : List Nat) : ∀ w, ((List.range w).map fun p => outb nx os cs p * 2 ^ p).sum = num nx os cs w
  | 0 => rfl
  | w + 1 => by
    rw [List.range_succ, List.map_append, List.sum_append, num_sum nx os cs w]
    simp [num, outb]
theorem callM_mach {n : Nat} {nx os : List (List Nat)} {m : String} {f : List D → Res D} {a : EM} {am : AM} {e : Env} (h : a e = .ok (machD n nx os)) (hm : m ≠ "inputs" ∧ m ≠ "nexts" ∧ m ≠ "outs" := by decide) : callM "Machine" m f a am e = (am e >>= fun ds => f (machD n nx os :: ds)) := by
  unfold callM
  rw [h, bind_ok]
  unfold machD
  dsimp only
  rw [if_pos]
  refine ⟨rfl, ?_⟩
  obtain ⟨h1, h2, h3⟩ := hm
  have e1 : (m == "inputs") = false := by simpa using h1
  have e2 : (m == "nexts") = false := by simpa using h2
  have e3 : (m == "outs") = false := by simpa using h3
  simp [List.lookup, e1, e2, e3]
theorem mach_write_ok {n S w : Nat} {nx os : List (List Nat)} {cs : List Nat} {W : D} (hW : SeqN W cs) (hL : Low w cs) (hn : cs.length = n) (h : Tab S (2 ^ cs.length) S nx) (h2 : Tab S (2 ^ cs.length) 2 os) (hS : 0 < S) (hw : w ≤ 1000) (hz : cs.length ≤ 1000) : m_Machine_write [machD n nx os, nD w, W] = .ok (nD (num nx os cs w)) := by
  have i1 := mach_in n nx os
  have q1 := number_ok w
  have q2 := words_ok hW hL hz
  rw [hn] at q2
  have q3 := letters_of_ok hw hW hz
  have q4 := bits_written_ok hn h h2 hS hw hz
  have q5 := fun e (he : e[0]? = some (some (machD n nx os))) => callM_mach (n := n) (nx := nx) (os := os) (m := "bits_written") (f := m_Machine_bits_written) (a := var 0) (am := (argC (call m_letters_of (argC (var 1) (argC (var 2) argN))) argN)) (e := e) (by unfold var; rw [he])
  have q5' := q5 [some (machD n nx os), some (nD w), some W, none, none, none] rfl
  have hc : lcE (ienum (var 3)) [4, 5] (gtup [(gnm 4), (gnm 5)]) yes (bin oshl (var 5) (var 4)) [some (machD n nx os), some (nD w), some W, some (.tup ((List.range w).map fun p => nD (outb nx os cs p))), none, none] = .ok (.lst ((List.range w).map fun p => nD (outb nx os cs p * 2 ^ p))) := by
    refine lc_mapI (k := fun p => .tup [.int ((p : Nat) : Int), nD (outb nx os cs p)]) ?_ (by rw [List.length_range]; exact le_sz hw) fun p hp => ?_
    · have : ienum (var 3) [some (machD n nx os), some (nD w), some W, some (.tup ((List.range w).map fun p => nD (outb nx os cs p))), none, none] = .ok (enumL 0 ((List.range w).map fun p => nD (outb nx os cs p))) := rfl
      rw [this, enum_rng]
    · have hp2 : p < w := by simpa using hp
      have hb := row2_lt h2 (sts_lt h hS p) (pk_lt cs p cs.length)
      have b4 := shl_bit (b := outb nx os cs p) (p := p) (by
        have : outb nx os cs p < 2 := hb
        omega) (by omega)
      change oshl _ (.int (p : Int)) = _ at b4
      generalize nD (outb nx os cs p * 2 ^ p) = t1 at *
      generalize nD (outb nx os cs p) = t2 at *
      generalize (p : Int) = z at *
      generalize nD w = t3 at *
      generalize machD n nx os = MD at *
      exact ⟨_, rfl, by simp [wipe, var, b4]⟩
  have hs : bsum (.lst ((List.range w).map fun p => nD (outb nx os cs p * 2 ^ p))) = .ok (nD (num nx os cs w)) := by
    have := sum_nD (fun p => outb nx os cs p * 2 ^ p) (List.range w)
    rw [num_sum] at this
    exact this
  unfold m_Machine_write
  rw [fn3]
  unfold b_Machine_write
  generalize ((List.range w).map fun p => nD (outb nx os cs p * 2 ^ p)) = t1 at *
  generalize ((List.range w).map fun p => nD (outb nx os cs p)) = t2 at *
  generalize ((List.range w).map fun p => nD (pk cs p cs.length)) = t3 at *
  generalize nD (num nx os cs w) = t4 at *
  generalize machD n nx os = MD at *
  generalize nD w = t5 at *
  generalize nD n = t6 at *
  simp [var, i1, q1, q2, q3, q4, q5', hc, hs]
theorem row_write_ok {w n out : Nat} (hw : w ≤ 1000) {bs : List Nat} {xs : List Deed} {W : D} (hW : SeqN W bs) (hb : Low w bs) (hl : bs.length = n) (hr : Row n xs) (hz : n + xs.length ≤ 1000) (ho : out < n + xs.length) : m_Row_write [rowD n xs out, nD w, W] = .ok (nD (at0 (vals w bs xs) out)) := by
  have q1 := all_words_ok (out := out) hw hW hb hl hr hz
  have q2 := callM_row (n := n) (out := out) (xs := xs) (m := "all_words") (f := m_Row_all_words) (a := var 0) (am := (argC (var 1) (argC (var 2) argN))) (e := [some (rowD n xs out), some (nD w), some W]) rfl
  have q3 : oattr ["Row"] "out" (rowD n xs out) = .ok (nD out) := rfl
  have q4 : oidx (.tup ((vals w bs xs).map nD)) (nD out) = .ok (nD (at0 (vals w bs xs) out)) := bits_at (bs := vals w bs xs) (by rw [vals_len, hl]; exact ho)
  unfold m_Row_write
  rw [fn3]
  unfold b_Row_write
  generalize (vals w bs xs).map nD = V at *
  generalize nD (at0 (vals w bs xs) out) = t1 at *
  generalize rowD n xs out = R at *
  generalize nD out = t2 at *
  generalize nD w = t3 at *
  simp [var, q1, q2, q3, q4]
end Py.U

namespace Py.U
open PySem
theorem chk_pass {c : TM} {r b : SM} {e : Env} (h : c e = .ok false) : seq (Py.ite c b skip) r e = r e := by
  refine seq_next ?_
  unfold Py.ite
  rw [h, bind_ok]
  rfl
theorem asg_pass {i : Nat} {m : EM} {r : SM} {e : Env} {d : D} (h : m e = .ok d) : seq (asg (gnm i) m) r e = r (e.set i (some d)) := by
  refine seq_next ?_
  rw [asg_eq, h]
  rfl
theorem for_pass {it : IM} {g : GM} {b r : SM} {e e' : Env} {xs : List D} (h : it e = .ok xs) (h2 : forL (forB g b) xs e = .ok (.next e')) : seq (for_ it g b) r e = r e' := by
  refine seq_next ?_
  rw [for_eq, h]
  exact h2
theorem one_nD (ns : List Nat) : Py.one (.lst (ns.map nD)) (.lst (ns.map nD)) = .ok (.bl false) := by
  have h : pl 64 (.lst (ns.map nD)) = true := by
    simp only [pl, List.all_map, List.all_eq_true]
    exact fun x _ => rfl
  unfold Py.one plain
  rw [h, eqv_refl 64 _ h]
  rfl
theorem drawn9 {ds : List Int} {a b c d e f g h i : Int} (H : Drawn ds [a, b, c, d, e, f, g, h, i]) : ∃ x0 x1 x2 x3 x4 x5 x6 x7 x8, ds = [x0, x1, x2, x3, x4, x5, x6, x7, x8] ∧ (0 ≤ x0 ∧ x0 < a) ∧ (0 ≤ x1 ∧ x1 < b) ∧ (0 ≤ x2 ∧ x2 < c) ∧ (0 ≤ x5 ∧ x5 < f) ∧ (0 ≤ x7 ∧ x7 < h) := by
  match ds, H with
  | [x0, x1, x2, x3, x4, x5, x6, x7, x8], ⟨h0, h1, h2, _, _, h5, _, h7, _, _⟩ => exact ⟨x0, x1, x2, x3, x4, x5, x6, x7, x8, rfl, h0, h1, h2, h5, h7⟩
section
variable {a b c d e f g h i : D}
theorem ix90 : oidx (.lst [a, b, c, d, e, f, g, h, i]) (.int 0) = .ok a := rfl
theorem ix91 : oidx (.lst [a, b, c, d, e, f, g, h, i]) (.int 1) = .ok b := rfl
theorem ix92 : oidx (.lst [a, b, c, d, e, f, g, h, i]) (.int 2) = .ok c := rfl
theorem ix93 : oidx (.lst [a, b, c, d, e, f, g, h, i]) (.int 3) = .ok d := rfl
theorem ix94 : oidx (.lst [a, b, c, d, e, f, g, h, i]) (.int 4) = .ok e := rfl
theorem ix95 : oidx (.lst [a, b, c, d, e, f, g, h, i]) (.int 5) = .ok f := rfl
theorem ix96 : oidx (.lst [a, b, c, d, e, f, g, h, i]) (.int 6) = .ok g := rfl
theorem ix97 : oidx (.lst [a, b, c, d, e, f, g, h, i]) (.int 7) = .ok h := rfl
theorem ix98 : oidx (.lst [a, b, c, d, e, f, g, h, i]) (.int 8) = .ok i := rfl
end
def deedsB : SM := (app 5 (call m_law_deed (argC (call m_law_draws (argC (call m_law_cell (argC (var 0) (argC (bin oadd (cst (.int 6)) (var 6)) argN))) (argC (lstE (argC (cst (.int 13)) (argC (cst (.int 15)) (argC (cst (.int 15)) (argC (cst (.int 3)) (argC (cst (.int 15)) (argC (cst (.int 30)) (argC (cst (.int 4)) argN)))))))) argN))) (argC (bin oadd (var 2) (var 6)) argN))))
abbrev N16 : List (Option D) := [none, none, none, none, none, none, none, none, none, none, none, none, none, none, none, none]
theorem deeds_loop (ns : List Int) {n m : Nat} (hn : 0 < n) (hm : m ≤ 100) {L M LS : D} : ∃ xs : List Deed, xs.length = m ∧ Row n xs ∧ ∃ o, forL (forB (gnm 6) deedsB) ((List.range m).map fun i => .int ((i : Nat) : Int)) (some (.lst (ns.map .int)) :: some L :: some (nD n) :: some M :: some LS :: some (.lst []) :: none :: N16) = .ok (.next (some (.lst (ns.map .int)) :: some L :: some (nD n) :: some M :: some LS :: some (.lst (xs.map Deed.d)) :: o :: N16)) := by
  obtain ⟨e', h1, xs, o, h2, h3, rfl⟩ := forR_inv (b := forB (gnm 6) deedsB) (n := m) (e := (some (.lst (ns.map .int)) :: some L :: some (nD n) :: some M :: some LS :: some (.lst []) :: none :: N16))
    (fun k e => ∃ (xs : List Deed) (o : Option D), xs.length = k ∧ Row n xs ∧ e = (some (.lst (ns.map .int)) :: some L :: some (nD n) :: some M :: some LS :: some (.lst (xs.map Deed.d)) :: o :: N16)) ⟨[], none, rfl, fun k h => by simp at h, rfl⟩ (by
      rintro k e hk ⟨xs, o, rfl, hr, rfl⟩
      obtain ⟨c, hc⟩ := cell_ok ns (6 + xs.length)
      obtain ⟨x, hx, Q, h1, h2⟩ := drawn_deed c (n := n + xs.length) (by omega)
      have e1 : oadd (.int 6) (.int (xs.length : Int)) = .ok (.int ((6 + xs.length : Nat) : Int)) := nadd 6 xs.length
      have e2 : oadd (nD n) (.int (xs.length : Int)) = .ok (nD (n + xs.length)) := nadd n xs.length
      have z : (xs.map Deed.d).length < SZ := by
        rw [List.length_map]
        exact Nat.lt_trans (show xs.length < 1001 by omega) (by decide)
      refine ⟨(some (.lst (ns.map .int)) :: some L :: some (nD n) :: some M :: some LS :: some (.lst ((xs ++ [x]).map Deed.d)) :: some (.int (xs.length : Int)) :: N16), ?_, xs ++ [x], _, by simp, hr.snoc hx, rfl⟩
      rw [List.map_append, List.map_singleton]
      unfold deedsB N16
      generalize ((6 + xs.length : Nat) : Int) = Z2 at *
      generalize nD (n + xs.length) = N2 at *
      generalize nD n = N at *
      generalize (xs.length : Int) = Z at *
      generalize hX : x.d = X at *
      generalize hL : xs.map Deed.d = XS at *
      generalize ns.map D.int = S at *
      simp [var, hc, h1, h2, e1, e2, z])
  exact ⟨xs, h2, h3, o, h1⟩
theorem chosen_ok (ns : List Int) (n w : Nat) (hn : n ≤ 3) (hw : w ≤ 64) : ∃ cs : List Nat, cs.length = n ∧ Low w cs ∧ ∀ (a : Option D) (t : List (Option D)), lcE (irng1 (var 2)) [21] (gnm 21) yes (call m_law_word (argC (call m_law_cell (argC (var 0) (argC (bin oadd (cst (.int 3)) (var 21)) argN))) (argC (var 3) argN)))
    (some (.lst (ns.map .int)) :: a :: some (nD n) :: some (nD w) :: t) = .ok (.lst (cs.map nD)) ∨ t.length ≤ 17 := by
  have ex : ∀ k : Nat, ∃ v : Nat, v < 2 ^ w ∧ ∃ c, m_law_cell [.lst (ns.map .int), nD (3 + k)] = .ok (.int c) ∧ m_law_word [.int c, nD w] = .ok (nD v) := fun k => by
    obtain ⟨c, hc⟩ := cell_ok ns (3 + k)
    obtain ⟨v, v0, v1, hv⟩ := word_ok c w hw
    have e : ((v.toNat : Nat) : Int) = v := Int.toNat_of_nonneg v0
    refine ⟨v.toNat, ?_, c, hc, ?_⟩
    · have h2 : ((v.toNat : Nat) : Int) < ((2 ^ w : Nat) : Int) := by
        rw [e]
        simpa using v1
      exact Int.ofNat_lt.mp h2
    · unfold nD
      rw [e]
      exact hv
  obtain ⟨f, hf⟩ : ∃ f : Nat → Nat, ∀ k, f k < 2 ^ w ∧ ∃ c, m_law_cell [.lst (ns.map .int), nD (3 + k)] = .ok (.int c) ∧ m_law_word [.int c, nD w] = .ok (nD (f k)) := ⟨fun k => Classical.choose (ex k), fun k => Classical.choose_spec (ex k)⟩
  refine ⟨(List.range n).map f, by simp, fun c hc => ?_, fun a t => ?_⟩
  · obtain ⟨k, _, rfl⟩ := List.mem_map.mp hc
    exact (hf k).1
  · by_cases ht : t.length ≤ 17
    · exact .inr ht
    · left
      rw [List.map_map]
      refine lc_mapI (k := fun i => .int ((i : Nat) : Int)) (irng1_nat (by simp [var, nD]) (rng_lt (by omega))) (by rw [List.length_range]; exact le_sz (by omega)) fun y hy => ?_
      obtain ⟨_, c0, h1, h2⟩ := hf y
      have e1 : oadd (.int 3) (.int (y : Int)) = .ok (nD (3 + y)) := nadd 3 y
      show ∃ e1, _ ∧ _ = Res.ok (nD (f y))
      generalize nD (f y) = v at *
      generalize nD (3 + y) = u at *
      generalize (y : Int) = z at *
      generalize nD w = W at *
      generalize nD n = N at *
      match t, ht with
      | t0 :: t1 :: t2 :: t3 :: t4 :: t5 :: t6 :: t7 :: t8 :: t9 :: t10 :: t11 :: t12 :: t13 :: t14 :: t15 :: t16 :: t17 :: tl, _ => exact ⟨_, rfl, by simp only [wipe]; simp [var, h1, h2, e1]⟩
      | [], h => simp at h
      | [_], h => simp at h
      | [_, _], h => simp at h
      | [_, _, _], h => simp at h
      | [_, _, _, _], h => simp at h
      | [_, _, _, _, _], h => simp at h
      | [_, _, _, _, _, _], h => simp at h
      | [_, _, _, _, _, _, _], h => simp at h
      | [_, _, _, _, _, _, _, _], h => simp at h
      | [_, _, _, _, _, _, _, _, _], h => simp at h
      | [_, _, _, _, _, _, _, _, _, _], h => simp at h
      | [_, _, _, _, _, _, _, _, _, _, _], h => simp at h
      | [_, _, _, _, _, _, _, _, _, _, _, _], h => simp at h
      | [_, _, _, _, _, _, _, _, _, _, _, _, _], h => simp at h
      | [_, _, _, _, _, _, _, _, _, _, _, _, _, _], h => simp at h
      | [_, _, _, _, _, _, _, _, _, _, _, _, _, _, _], h => simp at h
      | [_, _, _, _, _, _, _, _, _, _, _, _, _, _, _, _], h => simp at h
      | [_, _, _, _, _, _, _, _, _, _, _, _, _, _, _, _, _], h => simp at h
/-! ### one turn -/
def tB : SM := (seq (Py.ite (notT (tst (call m_law_integer (argC (callM "Row" "write" m_Row_write (var 17) (argC (var 3) (argC (un blist (var 11)) argN))) (argC (bin oidx (var 13) (var 7)) argN))))) (ret (cst (.bl false))) skip)
  (seq (Py.ite (notT (tst (call m_law_integer (argC (callM "Machine" "write" m_Machine_write (var 18) (argC (var 3) (argC (un blist (var 11)) argN))) (argC (var 15) argN))))) (ret (cst (.bl false))) skip)
  (seq (Py.ite (notT (tst (call m_law_integer (argC (callM "Row" "write" m_Row_write (var 17) (argC (var 4) (argC (un blist (var 12)) argN))) (argC (bin oidx (var 14) (var 7)) argN))))) (ret (cst (.bl false))) skip)
  (seq (Py.ite (notT (tst (call m_law_integer (argC (callM "Machine" "write" m_Machine_write (var 18) (argC (var 4) (argC (un blist (var 12)) argN))) (argC (var 16) argN))))) (ret (cst (.bl false))) skip)
  (seq (Py.ite (notT (tst (call m_law_same (argC (callM "Row" "all_words" m_Row_all_words (var 17) (argC (var 4) (argC (un btuple (var 12)) argN))) (argC (var 14) argN))))) (ret (cst (.bl false))) skip)
  (seq (Py.ite (notT (tst (call m_law_same (argC (callM "Row" "all_words" m_Row_all_words (var 17) (argC (var 3) (argC (un btuple (var 11)) argN))) (argC (var 13) argN))))) (ret (cst (.bl false))) skip)
  (seq (Py.ite (orT (notT (tst (call m_law_integer (argC (callM "Row" "write" m_Row_write (var 17) (argC (var 4) (argC (un btuple (var 12)) argN))) (argC (bin oidx (var 14) (var 7)) argN))))) (notT (tst (call m_law_integer (argC (callM "Row" "write" m_Row_write (var 17) (argC (var 3) (argC (un btuple (var 11)) argN))) (argC (bin oidx (var 13) (var 7)) argN)))))) (ret (cst (.bl false))) skip)
  (seq (Py.ite (orT (notT (tst (call m_law_integer (argC (callM "Machine" "write" m_Machine_write (var 18) (argC (var 3) (argC (un btuple (var 11)) argN))) (argC (var 15) argN))))) (notT (tst (call m_law_integer (argC (callM "Machine" "write" m_Machine_write (var 18) (argC (var 4) (argC (un btuple (var 12)) argN))) (argC (var 16) argN)))))) (ret (cst (.bl false))) skip)
  (seq (asg (gnm 20) (un blist (var 11)))
  (seq (Py.ite (orT (notT (tst (call m_law_same (argC (callM "Row" "all_words" m_Row_all_words (var 17) (argC (var 3) (argC (var 20) argN))) (argC (var 13) argN))))) (tst (bin Py.one (var 20) (var 11)))) (ret (cst (.bl false))) skip)
  (seq (Py.ite (orT (notT (tst (call m_law_integer (argC (callM "Row" "write" m_Row_write (var 17) (argC (var 3) (argC (var 20) argN))) (argC (bin oidx (var 13) (var 7)) argN))))) (tst (bin Py.one (var 20) (var 11)))) (ret (cst (.bl false))) skip)
  (Py.ite (orT (notT (tst (call m_law_integer (argC (callM "Machine" "write" m_Machine_write (var 18) (argC (var 3) (argC (var 20) argN))) (argC (var 15) argN))))) (tst (bin Py.one (var 20) (var 11)))) (ret (cst (.bl false))) skip))))))))))))
theorem turn_ok {R M : D} {w l out : D} {cs ms V U : List D} {b lb v u : D}
    (hR : ∀ (mn : String) (f : List D → Res D) (am : AM) (e : Env), (mn ≠ "inputs" ∧ mn ≠ "deeds" ∧ mn ≠ "out") → e[17]? = some (some R) → callM "Row" mn f (var 17) am e = (am e >>= fun ds => f (R :: ds)))
    (hM : ∀ (mn : String) (f : List D → Res D) (am : AM) (e : Env), (mn ≠ "inputs" ∧ mn ≠ "nexts" ∧ mn ≠ "outs") → e[18]? = some (some M) → callM "Machine" mn f (var 18) am e = (am e >>= fun ds => f (M :: ds)))
    (r1 : m_Row_write [R, w, .lst cs] = .ok v) (r2 : m_Row_write [R, w, .tup cs] = .ok v) (r3 : m_Row_write [R, l, .lst ms] = .ok u) (r4 : m_Row_write [R, l, .tup ms] = .ok u)
    (m1 : m_Machine_write [M, w, .lst cs] = .ok b) (m2 : m_Machine_write [M, w, .tup cs] = .ok b) (m3 : m_Machine_write [M, l, .lst ms] = .ok lb) (m4 : m_Machine_write [M, l, .tup ms] = .ok lb)
    (a1 : m_Row_all_words [R, w, .lst cs] = .ok (.tup V)) (a2 : m_Row_all_words [R, w, .tup cs] = .ok (.tup V)) (a3 : m_Row_all_words [R, l, .tup ms] = .ok (.tup U))
    (i1 : oidx (.lst V) out = .ok v) (i2 : oidx (.lst U) out = .ok u) (s1 : m_law_same [.tup V, .lst V] = .ok (.bl true)) (s2 : m_law_same [.tup U, .lst U] = .ok (.bl true))
    (t1 : m_law_integer [v, v] = .ok (.bl true)) (t2 : m_law_integer [u, u] = .ok (.bl true)) (t3 : m_law_integer [b, b] = .ok (.bl true)) (t4 : m_law_integer [lb, lb] = .ok (.bl true)) (h1 : Py.one (.lst cs) (.lst cs) = .ok (.bl false))
    (o0 o1 o2 o5 o6 o8 o9 o10 o19 o20 : Option D) :
    tB [o0, o1, o2, some w, some l, o5, o6, some out, o8, o9, o10, some (.lst cs), some (.lst ms), some (.lst V), some (.lst U), some b, some lb, some R, some M, o19, o20, none, none] = .ok (.next [o0, o1, o2, some w, some l, o5, o6, some out, o8, o9, o10, some (.lst cs), some (.lst ms), some (.lst V), some (.lst U), some b, some lb, some R, some M, o19, some (.lst cs), none, none]) := by
  have rr := fun f am (e : Env) (he : e[17]? = some (some R)) => hR "write" f am e (by decide) he
  have ra := fun f am (e : Env) (he : e[17]? = some (some R)) => hR "all_words" f am e (by decide) he
  have rm := fun f am (e : Env) (he : e[18]? = some (some M)) => hM "write" f am e (by decide) he
  unfold tB
  refine (chk_pass ?_).trans ?_
  · simp [var, rr, r1, i1, t1]
  refine (chk_pass ?_).trans ?_
  · simp [var, rm, m1, t3]
  refine (chk_pass ?_).trans ?_
  · simp [var, rr, r3, i2, t2]
  refine (chk_pass ?_).trans ?_
  · simp [var, rm, m3, t4]
  refine (chk_pass ?_).trans ?_
  · simp [var, ra, a3, s2]
  refine (chk_pass ?_).trans ?_
  · simp [var, ra, a2, s1]
  refine (chk_pass ?_).trans ?_
  · simp [var, rr, r2, r4, i1, i2, t1, t2]
  refine (chk_pass ?_).trans ?_
  · simp [var, rm, m2, m4, t3, t4]
  refine (asg_pass (d := .lst cs) ?_).trans ?_
  · simp [var]
  refine (chk_pass ?_).trans ?_
  · simp [var, ra, a1, s1, h1]
  refine (chk_pass ?_).trans ?_
  · simp [var, rr, r1, i1, t1, h1]
  simp [var, rm, m1, t3, h1]
end Py.U

namespace Py.U
open PySem
theorem holds_ok (ns : List Int) : m_law_holds [.lst (ns.map .int)] = .ok (.bl true) := by
  obtain ⟨c0, hc0⟩ := cell_ok ns 0
  obtain ⟨c1, hc1⟩ := cell_ok ns 1
  obtain ⟨c2, hc2⟩ := cell_ok ns 2
  obtain ⟨ds, hdr, hd⟩ := draws_ok c0 [3, 13, 65, 65, 3, 3, 15, 7, 3] (by simp) (by simp)
  obtain ⟨d0, d1, d2, d3, d4, d5, d6, d7, d8, rfl, ⟨a0, a1⟩, ⟨b0, b1⟩, ⟨g0, g1⟩, ⟨h0, h1⟩, k0, k1⟩ := drawn9 hdr
  obtain ⟨n, hn⟩ : ∃ n : Nat, 1 + d0 = (n : Int) := ⟨(1 + d0).toNat, by omega⟩
  obtain ⟨m, hm⟩ : ∃ m : Nat, d1 = (m : Int) := ⟨d1.toNat, by omega⟩
  obtain ⟨S, hS⟩ : ∃ S : Nat, 1 + d7 = (S : Int) := ⟨(1 + d7).toNat, by omega⟩
  have n1 : 1 ≤ n := by omega
  have n3 : n ≤ 3 := by omega
  have m2 : m ≤ 12 := by omega
  have S1 : 1 ≤ S := by omega
  have S7 : S ≤ 7 := by omega
  obtain ⟨w, hw, hW⟩ : ∃ w : Nat, w ≤ 64 ∧ ∀ (s N : Option D) (t : List (Option D)), (Py.ite (tst (bin oeq (bin oidx (var 1) (cst (.int 4))) (cst (.int 0)))) (asg (gnm 3) (bin oidx (lstE (argC (cst (.int 0)) (argC (cst (.int 1)) (argC (cst (.int 64)) argN)))) (bin oidx (var 1) (cst (.int 5))))) skip) (s :: some (.lst [.int d0, .int d1, .int d2, .int d3, .int d4, .int d5, .int d6, .int d7, .int d8]) :: N :: some (.int d2) :: t) = .ok (.next (s :: some (.lst [.int d0, .int d1, .int d2, .int d3, .int d4, .int d5, .int d6, .int d7, .int d8]) :: N :: some (nD w) :: t)) := by
    by_cases c : d4 = 0
    · obtain ⟨x, hx, q⟩ := oidx_mem (xs := [.int 0, .int 1, .int 64]) h0 (by simpa using h1)
      simp only [List.mem_cons, List.not_mem_nil, or_false] at hx
      rcases hx with rfl | rfl | rfl
      · exact ⟨0, by omega, fun s N t => by simp [var, ix94, ix95, c, q]; rfl⟩
      · exact ⟨1, by omega, fun s N t => by simp [var, ix94, ix95, c, q]; rfl⟩
      · exact ⟨64, by omega, fun s N t => by simp [var, ix94, ix95, c, q]; rfl⟩
    · obtain ⟨v, hv⟩ : ∃ v : Nat, d2 = (v : Int) := ⟨d2.toNat, by omega⟩
      refine ⟨v, by omega, fun s N t => ?_⟩
      unfold nD
      rw [← hv]
      simp [var, ix94, ix95, c]
  have hP : 2 ^ n ≤ 8 := by
    have : n = 1 ∨ n = 2 ∨ n = 3 := by omega
    rcases this with rfl | rfl | rfl <;> decide
  obtain ⟨l, l1, hl⟩ := mod_nD d3 (n := w + 1) (by omega)
  obtain ⟨xs, rfl, hr, o6, hdl⟩ := deeds_loop ns (n := n) (m := m) (by omega) (by omega) (L := .lst [.int d0, .int d1, .int d2, .int d3, .int d4, .int d5, .int d6, .int d7, .int d8]) (M := nD w) (LS := nD l)
  obtain ⟨out0, u1, hu0⟩ := mod_nD d6 (n := n + xs.length) (by omega)
  obtain ⟨out, u2, hU⟩ : ∃ out : Nat, out < n + xs.length ∧ ∀ (s : Option D) (o3 o4 o6' : Option D) (t : List (Option D)), (Py.ite (tst (bin ogt (bin oidx (var 1) (cst (.int 8))) (cst (.int 1)))) (asg (gnm 7) (bin osub (bin oadd (var 2) (un blen (var 5))) (cst (.int 1)))) skip) (s :: some (.lst [.int d0, .int d1, .int d2, .int d3, .int d4, .int d5, .int d6, .int d7, .int d8]) :: some (nD n) :: o3 :: o4 :: some (.lst (xs.map Deed.d)) :: o6' :: some (nD out0) :: t) = .ok (.next (s :: some (.lst [.int d0, .int d1, .int d2, .int d3, .int d4, .int d5, .int d6, .int d7, .int d8]) :: some (nD n) :: o3 :: o4 :: some (.lst (xs.map Deed.d)) :: o6' :: some (nD out) :: t)) := by
    have e1 : oadd (nD n) (.int ((xs.map Deed.d).length : Int)) = .ok (nD (n + xs.length)) := by
      rw [List.length_map]
      exact nadd n xs.length
    have e2 : osub (nD (n + xs.length)) (.int 1) = .ok (nD (n + xs.length - 1)) := nsub (b := 1) (by omega)
    by_cases c : 1 < d8
    · refine ⟨n + xs.length - 1, by omega, fun s o3 o4 o6' t => ?_⟩
      generalize nD (n + xs.length - 1) = t1 at *
      generalize nD (n + xs.length) = t2 at *
      generalize nD n = N at *
      generalize xs.map Deed.d = XS at *
      simp [var, ix98, c, e1, e2]
    · exact ⟨out0, u1, fun s o3 o4 o6' t => by simp [var, ix98, c]⟩
  have hsh := shl_nD (n := n) (by omega)
  obtain ⟨nx, tn, f1⟩ := table_ok c1 (S := S) (L := 2 ^ n) (B := S) (by omega) (by omega) (by omega)
  obtain ⟨os, tos, f2⟩ := table_ok c2 (S := S) (L := 2 ^ n) (B := 2) (by omega) (by omega) (by omega)
  obtain ⟨cs, rfl, hL, hch⟩ := chosen_ok ns n w n3 hw
  have hl2 : l ≤ w := by omega
  have hLl := low_Low l cs
  have hll := low_len l cs
  have e13 := numbers_ok (by omega) hL rfl hr (by omega)
  have e14 := numbers_ok (w := l) (by omega) hLl hll hr (by omega)
  have tn' : Tab S (2 ^ (low l cs).length) S nx := by rw [hll]; exact tn
  have tos' : Tab S (2 ^ (low l cs).length) 2 os := by rw [hll]; exact tos
  have e15 := law_number_ok (w := w) tn tos S1 (by omega) (by omega)
  have e16 := law_number_ok (w := l) tn' tos' S1 (by omega) (by omega)
  have hlow : low l (vals w cs xs ++ [num nx os cs w]) = vals l (low l cs) xs ++ [num nx os (low l cs) l] := by
    have h1 : low l (vals w cs xs ++ [num nx os cs w]) = low l (vals w cs xs) ++ [num nx os cs w % 2 ^ l] := by
      unfold low
      rw [List.map_append]
      rfl
    rw [h1, vals_lw hl2 xs hL, num_low tn tos S1 hl2]
  have v1 : (vals w cs xs).length = cs.length + xs.length := vals_len w xs cs
  have v2 : (vals l (low l cs) xs).length = cs.length + xs.length := by rw [vals_len, hll]
  have elow := low_too_ok (l := l) (by omega) (vals w cs xs ++ [num nx os cs w]) (by rw [List.length_append, v1]; simp; omega)
  rw [hlow, List.map_append, List.map_append, List.map_singleton, List.map_singleton] at elow
  have j1 : oadd (.lst ((vals w cs xs).map nD)) (.lst [nD (num nx os cs w)]) = .ok (.lst ((vals w cs xs).map nD ++ [nD (num nx os cs w)])) := oadd_ll (by rw [List.length_map, v1]; exact le_sz (by simp; omega))
  have j2 : oadd (.lst ((vals l (low l cs) xs).map nD)) (.lst [nD (num nx os (low l cs) l)]) = .ok (.lst ((vals l (low l cs) xs).map nD ++ [nD (num nx os (low l cs) l)])) := oadd_ll (by rw [List.length_map, v2]; exact le_sz (by simp; omega))
  have e17 := row_made2 (out := out) n1 n3 hr (by omega) u2
  have e18 := mach_made n1 n3 tn tos S1 (by omega)
  have hR : ∀ (mn : String) (f : List D → Res D) (am : AM) (e : Env), (mn ≠ "inputs" ∧ mn ≠ "deeds" ∧ mn ≠ "out") → e[17]? = some (some (rowD cs.length xs out)) → callM "Row" mn f (var 17) am e = (am e >>= fun ds => f (rowD cs.length xs out :: ds)) := fun mn f am e h he => callM_row (by unfold var; rw [he]) h
  have hM : ∀ (mn : String) (f : List D → Res D) (am : AM) (e : Env), (mn ≠ "inputs" ∧ mn ≠ "nexts" ∧ mn ≠ "outs") → e[18]? = some (some (machD cs.length nx os)) → callM "Machine" mn f (var 18) am e = (am e >>= fun ds => f (machD cs.length nx os :: ds)) := fun mn f am e h he => callM_mach (by unfold var; rw [he]) h
  have i1 : oidx (.lst ((vals w cs xs).map nD)) (nD out) = .ok (nD (at0 (vals w cs xs) out)) := bits_at (by omega)
  have i2 : oidx (.lst ((vals l (low l cs) xs).map nD)) (nD out) = .ok (nD (at0 (vals l (low l cs) xs) out)) := bits_at (by omega)
  have turn := turn_ok hR hM (row_write_ok (out := out) (w := w) (by omega) (.inl rfl) hL rfl hr (by omega) u2) (row_write_ok (out := out) (w := w) (by omega) (.inr rfl) hL rfl hr (by omega) u2)
    (row_write_ok (out := out) (w := l) (by omega) (.inl rfl) hLl hll hr (by omega) u2) (row_write_ok (out := out) (w := l) (by omega) (.inr rfl) hLl hll hr (by omega) u2)
    (mach_write_ok (.inl rfl) hL rfl tn tos S1 (by omega) (by omega)) (mach_write_ok (.inr rfl) hL rfl tn tos S1 (by omega) (by omega)) (mach_write_ok (.inl rfl) hLl hll tn' tos' S1 (by omega) (by omega)) (mach_write_ok (.inr rfl) hLl hll tn' tos' S1 (by omega) (by omega))
    (all_words_ok (out := out) (by omega) (.inl rfl) hL rfl hr (by omega)) (all_words_ok (out := out) (by omega) (.inr rfl) hL rfl hr (by omega)) (all_words_ok (out := out) (w := l) (by omega) (.inr rfl) hLl hll hr (by omega))
    i1 i2 (same_ok _ (by omega)) (same_ok _ (by omega)) (integer_ok _) (integer_ok _) (integer_ok _) (integer_ok _) (one_nD cs)
  have e8 : oadd (.int 1) (.int d7) = .ok (nD S) := by
    rw [oadd_ii, hS]
    rfl
  have eN : oadd (.int 1) (.int d0) = .ok (nD cs.length) := by
    rw [oadd_ii, hn]
    rfl
  have eW : oadd (nD w) (.int 1) = .ok (nD (w + 1)) := nadd w 1
  have eU : oadd (nD cs.length) (.int ((xs.map Deed.d).length : Int)) = .ok (nD (cs.length + xs.length)) := by
    rw [List.length_map]
    exact nadd cs.length xs.length
  have hM1 : ∀ t : List (Option D), irng1 (bin oidx (var 1) (cst (.int 1))) (some (.lst (ns.map .int)) :: some (.lst [.int d0, .int d1, .int d2, .int d3, .int d4, .int d5, .int d6, .int d7, .int d8]) :: t) = .ok ((List.range xs.length).map fun i => .int ((i : Nat) : Int)) := fun t => irng1_nat (by simp [var, ix91, hm]) (rng_lt (by omega))
  have hc0' : m_law_cell [.lst (ns.map .int), .int 0] = .ok (.int c0) := hc0
  have hc1' : m_law_cell [.lst (ns.map .int), .int 1] = .ok (.int c1) := hc1
  have hc2' : m_law_cell [.lst (ns.map .int), .int 2] = .ok (.int c2) := hc2
  have hlc : ∀ t0 t1 t2 t3 t5 t6 t7 t8 t9 t10 t12 t13 t14 t15 t16 t17 t18 t19 t20 t21, lcE (iseq (var 11)) [22] (gnm 22) yes (bin omod (un bint (var 22)) (bin oshl (cst (.int 1)) (var 4))) [t0, t1, t2, t3, some (nD l), t5, t6, t7, t8, t9, t10, some (.lst (cs.map nD)), t12, t13, t14, t15, t16, t17, t18, t19, t20, t21, none] = .ok (.lst ((low l cs).map nD)) := fun t0 t1 t2 t3 t5 t6 t7 t8 t9 t10 t12 t13 t14 t15 t16 t17 t18 t19 t20 t21 => by
    unfold low
    rw [List.map_map]
    refine lc_mapI (k := nD) (by simp [var]) (le_sz (by omega)) fun y _ => ?_
    have q1 := shl_nD (n := l) (by omega)
    have q2 := nmod y (p := 2 ^ l) (Nat.two_pow_pos l)
    have q3 : bint (nD y) = .ok (nD y) := rfl
    show ∃ e1, _ ∧ _ = Res.ok (nD (y % 2 ^ l))
    generalize nD (y % 2 ^ l) = u at *
    generalize nD (2 ^ l) = v at *
    generalize nD y = z at *
    generalize nD l = q at *
    exact ⟨_, rfl, by simp only [wipe]; simp [var, q1, q2, q3]⟩
  change m_law_draws [_, .lst [.int 3, .int 13, .int 65, .int 65, .int 3, .int 3, .int 15, .int 7, .int 3]] = .ok (.lst [.int d0, .int d1, .int d2, .int d3, .int d4, .int d5, .int d6, .int d7, .int d8]) at hd
  change m_law_table [_, _, _, .int 2] = _ at f2
  clear hn hm hS a0 a1 b0 b1 g0 g1 h0 h1 k0 k1
  generalize hV : (vals w cs xs).map nD = V at *
  generalize hVl : (vals l (low l cs) xs).map nD = VL at *
  generalize hb1 : nD (num nx os cs w) = B1 at *
  generalize hb2 : nD (num nx os (low l cs) l) = B2 at *
  generalize hRr : rowD cs.length xs out = R at *
  generalize hMm : machD cs.length nx os = MM at *
  generalize hXS : xs.map Deed.d = XS at *
  generalize hSs : ns.map D.int = Sc at *
  generalize hCs : cs.map nD = CS' at *
  generalize hLs : (low l cs).map nD = LS' at *
  generalize hNX : nx.map rD = NX at *
  generalize hOS : os.map rD = OS at *
  generalize hDD : D.lst [.int d0, .int d1, .int d2, .int d3, .int d4, .int d5, .int d6, .int d7, .int d8] = DD at *
  have y0 : oidx DD (.int 0) = .ok (.int d0) := by rw [← hDD]; rfl
  have y2 : oidx DD (.int 2) = .ok (.int d2) := by rw [← hDD]; rfl
  have y3 : oidx DD (.int 3) = .ok (.int d3) := by rw [← hDD]; rfl
  have y6 : oidx DD (.int 6) = .ok (.int d6) := by rw [← hDD]; rfl
  have y7 : oidx DD (.int 7) = .ok (.int d7) := by rw [← hDD]; rfl
  generalize hWw : nD w = W at *
  generalize hLl' : nD l = Ll at *
  generalize hNn : nD cs.length = N at *
  generalize hUu : nD out = U at *
  generalize hU00 : nD out0 = U0 at *
  generalize hSS : nD S = SS at *
  generalize hPp : nD (2 ^ cs.length) = P at *
  generalize hW1 : nD (w + 1) = W1 at *
  generalize hU1 : nD (cs.length + xs.length) = U1 at *
  unfold m_law_holds
  rw [fn1]
  unfold b__law_holds
  refine (congrArg done ((asg_pass (d := DD) ?_).trans ?_)).trans (done_ret (.bl true))
  · simp [var, hc0', hd]
  refine (asg_pass (d := N) ?_).trans ?_
  · simp [var, y0, eN]
  refine (asg_pass (d := .int d2) ?_).trans ?_
  · simp [var, y2]
  refine (seq_next (hW _ _ _)).trans ?_
  refine (asg_pass (d := Ll) ?_).trans ?_
  · simp [var, y3, eW, hl]
  refine (asg_pass (d := .lst []) ?_).trans ?_
  · simp [var]
  refine (for_pass (hM1 _) hdl).trans ?_
  refine (asg_pass (d := U0) ?_).trans ?_
  · simp [var, y6, eU, hu0]
  refine (seq_next (hU _ _ _ _ _)).trans ?_
  refine (asg_pass (d := SS) ?_).trans ?_
  · simp [var, y7, e8]
  refine (asg_pass (d := .lst NX) ?_).trans ?_
  · simp [var, hc1', hsh, f1]
  refine (asg_pass (d := .lst OS) ?_).trans ?_
  · simp [var, hc2', hsh, f2]
  refine (asg_pass (d := .lst CS') ((hch _ _).resolve_right (by simp))).trans ?_
  refine (asg_pass (d := .lst LS') (hlc _ _ _ _ _ _ _ _ _ _ _ _ _ _ _ _ _ _ _ _)).trans ?_
  refine (asg_pass (d := .lst V) ?_).trans ?_
  · simp [var, e13]
  refine (asg_pass (d := .lst VL) ?_).trans ?_
  · simp [var, e14]
  refine (asg_pass (d := B1) ?_).trans ?_
  · simp [var, e15]
  refine (asg_pass (d := B2) ?_).trans ?_
  · simp [var, e16]
  refine (chk_pass ?_).trans ?_
  · simp [var, j1, j2, elow]
  refine (asg_pass (d := R) ?_).trans ?_
  · simp [var, e17]
  refine (asg_pass (d := MM) ?_).trans ?_
  · simp [var, e18]
  have f0 : forB (gnm 19) tB (.int 0) [some (.lst Sc), some DD, some N, some W, some Ll, some (.lst XS), o6, some U, some SS, some (.lst NX), some (.lst OS), some (.lst CS'), some (.lst LS'), some (.lst V), some (.lst VL), some B1, some B2, some R, some MM, none, none, none, none] = .ok (.next [some (.lst Sc), some DD, some N, some W, some Ll, some (.lst XS), o6, some U, some SS, some (.lst NX), some (.lst OS), some (.lst CS'), some (.lst LS'), some (.lst V), some (.lst VL), some B1, some B2, some R, some MM, some (.int 0), some (.lst CS'), none, none]) := turn _ _ _ _ _ _ _ _ _ _
  have f1' : forB (gnm 19) tB (.int 1) [some (.lst Sc), some DD, some N, some W, some Ll, some (.lst XS), o6, some U, some SS, some (.lst NX), some (.lst OS), some (.lst CS'), some (.lst LS'), some (.lst V), some (.lst VL), some B1, some B2, some R, some MM, some (.int 0), some (.lst CS'), none, none] = .ok (.next [some (.lst Sc), some DD, some N, some W, some Ll, some (.lst XS), o6, some U, some SS, some (.lst NX), some (.lst OS), some (.lst CS'), some (.lst LS'), some (.lst V), some (.lst VL), some B1, some B2, some R, some MM, some (.int 1), some (.lst CS'), none, none]) := turn _ _ _ _ _ _ _ _ _ _
  refine (for_pass (xs := [.int 0, .int 1]) (e' := [some (.lst Sc), some DD, some N, some W, some Ll, some (.lst XS), o6, some U, some SS, some (.lst NX), some (.lst OS), some (.lst CS'), some (.lst LS'), some (.lst V), some (.lst VL), some B1, some B2, some R, some MM, some (.int 1), some (.lst CS'), none, none]) (by rw [irng1_int (i := 2) rfl]; rfl) ?_).trans ?_
  · show forL (forB (gnm 19) tB) [.int 0, .int 1] [some (.lst Sc), some DD, some N, some W, some Ll, some (.lst XS), o6, some U, some SS, some (.lst NX), some (.lst OS), some (.lst CS'), some (.lst LS'), some (.lst V), some (.lst VL), some B1, some B2, some R, some MM, none, none, none, none] = _
    unfold forL
    rw [f0]
    show forL (forB (gnm 19) tB) [.int 1] [some (.lst Sc), some DD, some N, some W, some Ll, some (.lst XS), o6, some U, some SS, some (.lst NX), some (.lst OS), some (.lst CS'), some (.lst LS'), some (.lst V), some (.lst VL), some B1, some B2, some R, some MM, some (.int 0), some (.lst CS'), none, none] = _
    unfold forL
    rw [f1']
    rfl
  rfl
theorem law_true (ns : List Int) (h : ns.length ≤ 63) : m_law [.lst (ns.map .int)] = .ok (.bl true) := by
  have q := holds_ok ns
  unfold m_law
  rw [fn1]
  unfold b_law
  simp [var, q]
end Py.U

namespace Py
open PySem PySem.Spec PyProof.Rows L2

def top (i : Nat) : Stmt := PySem.Challenge.pw_onlycarries_k12_whole_low_bits.main.body.getD i (.Pass ⟨0, 0, 0, 0⟩)
abbrev st_is_integer : Stmt := top 2
abbrev sc_is_integer : Scope := defScope st_is_integer
abbrev N_is_integer : List Str := ["value"]
def ow_is_integer : Nat → Bool := fun i => false
abbrev d_is_integer : He.DefD := ⟨("is_integer", none), "is_integer", "is_integer", defArgs st_is_integer, defBody st_is_integer, sc_is_integer, [], []⟩
abbrev st_is_inputs : Stmt := top 4
abbrev sc_is_inputs : Scope := defScope st_is_inputs
abbrev N_is_inputs : List Str := ["value"]
def ow_is_inputs : Nat → Bool := fun i => false
abbrev d_is_inputs : He.DefD := ⟨("is_inputs", none), "is_inputs", "is_inputs", defArgs st_is_inputs, defBody st_is_inputs, sc_is_inputs, [], []⟩
abbrev st_as_tuple : Stmt := top 5
abbrev sc_as_tuple : Scope := defScope st_as_tuple
abbrev N_as_tuple : List Str := ["value"]
def ow_as_tuple : Nat → Bool := fun i => false
abbrev d_as_tuple : He.DefD := ⟨("as_tuple", none), "as_tuple", "as_tuple", defArgs st_as_tuple, defBody st_as_tuple, sc_as_tuple, [], []⟩
abbrev st_is_below : Stmt := top 6
abbrev sc_is_below : Scope := defScope st_is_below
abbrev N_is_below : List Str := ["value", "limit"]
def ow_is_below : Nat → Bool := fun i => false
abbrev d_is_below : He.DefD := ⟨("is_below", none), "is_below", "is_below", defArgs st_is_below, defBody st_is_below, sc_is_below, [], []⟩
abbrev st_is_line : Stmt := top 28
abbrev sc_is_line : Scope := defScope st_is_line
abbrev N_is_line : List Str := ["value", "many", "limit", "member"]
def ow_is_line : Nat → Bool := fun i => false
abbrev d_is_line : He.DefD := ⟨("is_line", none), "is_line", "is_line", defArgs st_is_line, defBody st_is_line, sc_is_line, [], []⟩
abbrev st_right_nexts : Stmt := top 29
abbrev sc_right_nexts : Scope := defScope st_right_nexts
abbrev N_right_nexts : List Str := ["value", "letters", "lines", "state", "line"]
def ow_right_nexts : Nat → Bool := fun i => false
abbrev d_right_nexts : He.DefD := ⟨("right_nexts", none), "right_nexts", "right_nexts", defArgs st_right_nexts, defBody st_right_nexts, sc_right_nexts, [], []⟩
abbrev st_right_outs : Stmt := top 30
abbrev sc_right_outs : Scope := defScope st_right_outs
abbrev N_right_outs : List Str := ["value", "letters", "states", "lines", "shared", "state"]
def ow_right_outs : Nat → Bool := fun i => false
abbrev d_right_outs : He.DefD := ⟨("right_outs", none), "right_outs", "right_outs", defArgs st_right_outs, defBody st_right_outs, sc_right_outs, [], []⟩
abbrev st_Machine_init : Stmt := inClass (top 31) 0
abbrev sc_Machine_init : Scope := defScope st_Machine_init
abbrev N_Machine_init : List Str := ["self", "inputs", "nexts", "outs", "letters"]
def ow_Machine_init : Nat → Bool := fun i => i == 0
abbrev d_Machine_init : He.DefD := ⟨("Machine", some "__init__"), "__init__", "Machine.__init__", defArgs st_Machine_init, defBody st_Machine_init, sc_Machine_init, [], []⟩
abbrev st_is_reading : Stmt := top 25
abbrev sc_is_reading : Scope := defScope st_is_reading
abbrev N_is_reading : List Str := ["value", "inputs", "letter"]
def ow_is_reading : Nat → Bool := fun i => false
abbrev d_is_reading : He.DefD := ⟨("is_reading", none), "is_reading", "is_reading", defArgs st_is_reading, defBody st_is_reading, sc_is_reading, [], []⟩
abbrev st_Machine_bits_written : Stmt := inClass (top 31) 4
abbrev sc_Machine_bits_written : Scope := defScope st_Machine_bits_written
abbrev N_Machine_bits_written : List Str := ["self", "reading", "state", "bits", "letter"]
abbrev ow_Machine_bits_written : Nat → Bool := owS []
abbrev d_Machine_bits_written : He.DefD := ⟨("Machine", some "bits_written"), "bits_written", "Machine.bits_written", defArgs st_Machine_bits_written, defBody st_Machine_bits_written, sc_Machine_bits_written, [], []⟩
abbrev st_is_number : Stmt := top 3
abbrev sc_is_number : Scope := defScope st_is_number
abbrev N_is_number : List Str := ["value"]
def ow_is_number : Nat → Bool := fun i => false
abbrev d_is_number : He.DefD := ⟨("is_number", none), "is_number", "is_number", defArgs st_is_number, defBody st_is_number, sc_is_number, [], []⟩
abbrev st_is_word : Stmt := top 7
abbrev sc_is_word : Scope := defScope st_is_word
abbrev N_is_word : List Str := ["value", "width"]
def ow_is_word : Nat → Bool := fun i => false
abbrev d_is_word : He.DefD := ⟨("is_word", none), "is_word", "is_word", defArgs st_is_word, defBody st_is_word, sc_is_word, [], []⟩
abbrev st_are_words : Stmt := top 8
abbrev sc_are_words : Scope := defScope st_are_words
abbrev N_are_words : List Str := ["value", "width", "least", "most", "words", "word"]
def ow_are_words : Nat → Bool := fun i => false
abbrev d_are_words : He.DefD := ⟨("are_words", none), "are_words", "are_words", defArgs st_are_words, defBody st_are_words, sc_are_words, [], []⟩
abbrev st_letters_of : Stmt := top 26
abbrev sc_letters_of : Scope := defScope st_letters_of
abbrev N_letters_of : List Str := ["width", "words", "letters", "place", "i"]
abbrev ow_letters_of : Nat → Bool := owS []
abbrev d_letters_of : He.DefD := ⟨("letters_of", none), "letters_of", "letters_of", defArgs st_letters_of, defBody st_letters_of, sc_letters_of, [], []⟩
abbrev st_Machine_write : Stmt := inClass (top 31) 5
abbrev sc_Machine_write : Scope := defScope st_Machine_write
abbrev N_Machine_write : List Str := ["self", "width", "words", "bits", "place", "bit"]
def ow_Machine_write : Nat → Bool := fun i => false
abbrev d_Machine_write : He.DefD := ⟨("Machine", some "write"), "write", "Machine.write", defArgs st_Machine_write, defBody st_Machine_write, sc_Machine_write, [], []⟩
abbrev st_are_values : Stmt := top 18
abbrev sc_are_values : Scope := defScope st_are_values
abbrev N_are_values : List Str := ["numbers", "many", "number"]
def ow_are_values : Nat → Bool := fun i => false
abbrev d_are_values : He.DefD := ⟨("are_values", none), "are_values", "are_values", defArgs st_are_values, defBody st_are_values, sc_are_values, [], []⟩
abbrev st_is_count_deed : Stmt := top 19
abbrev sc_is_count_deed : Scope := defScope st_is_count_deed
abbrev N_is_count_deed : List Str := ["value", "many", "modulus", "rest", "parts"]
def ow_is_count_deed : Nat → Bool := fun i => false
abbrev d_is_count_deed : He.DefD := ⟨("is_count_deed", none), "is_count_deed", "is_count_deed", defArgs st_is_count_deed, defBody st_is_count_deed, sc_is_count_deed, [], []⟩
abbrev st_is_deed : Stmt := top 20
abbrev sc_is_deed : Scope := defScope st_is_deed
abbrev N_is_deed : List Str := ["value", "many"]
def ow_is_deed : Nat → Bool := fun i => false
abbrev d_is_deed : He.DefD := ⟨("is_deed", none), "is_deed", "is_deed", defArgs st_is_deed, defBody st_is_deed, sc_is_deed, [], []⟩
abbrev st_Row_init : Stmt := inClass (top 23) 0
abbrev sc_Row_init : Scope := defScope st_Row_init
abbrev N_Row_init : List Str := ["self", "inputs", "deeds", "out", "kept", "place", "deed"]
def ow_Row_init : Nat → Bool := fun i => i == 0
abbrev d_Row_init : He.DefD := ⟨("Row", some "__init__"), "__init__", "Row.__init__", defArgs st_Row_init, defBody st_Row_init, sc_Row_init, [], []⟩
abbrev st_counted_word : Stmt := top 21
abbrev sc_counted_word : Scope := defScope st_counted_word
abbrev N_counted_word : List Str := ["width", "modulus", "rest", "words", "word", "count", "place", "part"]
def ow_counted_word : Nat → Bool := fun i => false
abbrev d_counted_word : He.DefD := ⟨("counted_word", none), "counted_word", "counted_word", defArgs st_counted_word, defBody st_counted_word, sc_counted_word, [], []⟩
abbrev st_deed_word : Stmt := top 22
abbrev sc_deed_word : Scope := defScope st_deed_word
abbrev N_deed_word : List Str := ["deed", "width", "words", "name", "full", "one", "other", "i"]
def ow_deed_word : Nat → Bool := fun i => false
abbrev d_deed_word : He.DefD := ⟨("deed_word", none), "deed_word", "deed_word", defArgs st_deed_word, defBody st_deed_word, sc_deed_word, [], []⟩
abbrev st_Row_all_words : Stmt := inClass (top 23) 3
abbrev sc_Row_all_words : Scope := defScope st_Row_all_words
abbrev N_Row_all_words : List Str := ["self", "width", "words", "told", "deed"]
abbrev ow_Row_all_words : Nat → Bool := owS []
abbrev d_Row_all_words : He.DefD := ⟨("Row", some "all_words"), "all_words", "Row.all_words", defArgs st_Row_all_words, defBody st_Row_all_words, sc_Row_all_words, [], []⟩
abbrev st_Row_write : Stmt := inClass (top 23) 4
abbrev sc_Row_write : Scope := defScope st_Row_write
abbrev N_Row_write : List Str := ["self", "width", "words"]
def ow_Row_write : Nat → Bool := fun i => false
abbrev d_Row_write : He.DefD := ⟨("Row", some "write"), "write", "Row.write", defArgs st_Row_write, defBody st_Row_write, sc_Row_write, [], []⟩
abbrev st__law_cell : Stmt := top 33
abbrev sc__law_cell : Scope := defScope st__law_cell
abbrev N__law_cell : List Str := ["script", "k"]
def ow__law_cell : Nat → Bool := fun i => false
abbrev d__law_cell : He.DefD := ⟨("_law_cell", none), "_law_cell", "_law_cell", defArgs st__law_cell, defBody st__law_cell, sc__law_cell, [], []⟩
abbrev st__law_deed : Stmt := top 38
abbrev sc__law_deed : Scope := defScope st__law_deed
abbrev N__law_deed : List Str := ["draws", "ready", "name", "one", "other", "prime", "parts"]
def ow__law_deed : Nat → Bool := fun i => false
abbrev d__law_deed : He.DefD := ⟨("_law_deed", none), "_law_deed", "_law_deed", defArgs st__law_deed, defBody st__law_deed, sc__law_deed, [], []⟩
abbrev st__law_mixed : Stmt := top 34
abbrev sc__law_mixed : Scope := defScope st__law_mixed
abbrev N__law_mixed : List Str := ["cell", "k", "once", "twice"]
def ow__law_mixed : Nat → Bool := fun i => false
abbrev d__law_mixed : He.DefD := ⟨("_law_mixed", none), "_law_mixed", "_law_mixed", defArgs st__law_mixed, defBody st__law_mixed, sc__law_mixed, [], []⟩
abbrev st__law_draws : Stmt := top 35
abbrev sc__law_draws : Scope := defScope st__law_draws
abbrev N__law_draws : List Str := ["cell", "sizes", "found", "left", "k"]
abbrev ow__law_draws : Nat → Bool := owS []
abbrev d__law_draws : He.DefD := ⟨("_law_draws", none), "_law_draws", "_law_draws", defArgs st__law_draws, defBody st__law_draws, sc__law_draws, [], []⟩
abbrev st__law_integer : Stmt := top 43
abbrev sc__law_integer : Scope := defScope st__law_integer
abbrev N__law_integer : List Str := ["actual", "due"]
def ow__law_integer : Nat → Bool := fun i => false
abbrev d__law_integer : He.DefD := ⟨("_law_integer", none), "_law_integer", "_law_integer", defArgs st__law_integer, defBody st__law_integer, sc__law_integer, [], []⟩
abbrev st__law_low_too : Stmt := top 45
abbrev sc__law_low_too : Scope := defScope st__law_low_too
abbrev N__law_low_too : List Str := ["wide_ones", "low_ones", "low", "k"]
def ow__law_low_too : Nat → Bool := fun i => false
abbrev d__law_low_too : He.DefD := ⟨("_law_low_too", none), "_law_low_too", "_law_low_too", defArgs st__law_low_too, defBody st__law_low_too, sc__law_low_too, [], []⟩
abbrev st__law_number : Stmt := top 42
abbrev sc__law_number : Scope := defScope st__law_number
abbrev N__law_number : List Str := ["nexts", "outs", "width", "chosen", "number", "state", "place", "letter", "k"]
def ow__law_number : Nat → Bool := fun i => false
abbrev d__law_number : He.DefD := ⟨("_law_number", none), "_law_number", "_law_number", defArgs st__law_number, defBody st__law_number, sc__law_number, [], []⟩
abbrev st__law_count : Stmt := top 39
abbrev sc__law_count : Scope := defScope st__law_count
abbrev N__law_count : List Str := ["deed", "numbers", "width", "number", "ones", "place", "part"]
def ow__law_count : Nat → Bool := fun i => false
abbrev d__law_count : He.DefD := ⟨("_law_count", none), "_law_count", "_law_count", defArgs st__law_count, defBody st__law_count, sc__law_count, [], []⟩
abbrev st__law_value : Stmt := top 40
abbrev sc__law_value : Scope := defScope st__law_value
abbrev N__law_value : List Str := ["deed", "numbers", "width", "top", "one", "other"]
def ow__law_value : Nat → Bool := fun i => false
abbrev d__law_value : He.DefD := ⟨("_law_value", none), "_law_value", "_law_value", defArgs st__law_value, defBody st__law_value, sc__law_value, [], []⟩
abbrev st__law_numbers : Stmt := top 41
abbrev sc__law_numbers : Scope := defScope st__law_numbers
abbrev N__law_numbers : List Str := ["deeds", "width", "chosen", "numbers", "deed"]
abbrev ow__law_numbers : Nat → Bool := owS []
abbrev d__law_numbers : He.DefD := ⟨("_law_numbers", none), "_law_numbers", "_law_numbers", defArgs st__law_numbers, defBody st__law_numbers, sc__law_numbers, [], []⟩
abbrev st__law_same : Stmt := top 44
abbrev sc__law_same : Scope := defScope st__law_same
abbrev N__law_same : List Str := ["actual", "due", "k"]
def ow__law_same : Nat → Bool := fun i => false
abbrev d__law_same : He.DefD := ⟨("_law_same", none), "_law_same", "_law_same", defArgs st__law_same, defBody st__law_same, sc__law_same, [], []⟩
abbrev st__law_table : Stmt := top 37
abbrev sc__law_table : Scope := defScope st__law_table
abbrev N__law_table : List Str := ["cell", "states", "wide", "top", "flat", "s"]
def ow__law_table : Nat → Bool := fun i => false
abbrev d__law_table : He.DefD := ⟨("_law_table", none), "_law_table", "_law_table", defArgs st__law_table, defBody st__law_table, sc__law_table, [], []⟩
abbrev st__law_word : Stmt := top 36
abbrev sc__law_word : Scope := defScope st__law_word
abbrev N__law_word : List Str := ["cell", "width", "number", "k", "choice"]
def ow__law_word : Nat → Bool := fun i => false
abbrev d__law_word : He.DefD := ⟨("_law_word", none), "_law_word", "_law_word", defArgs st__law_word, defBody st__law_word, sc__law_word, [], []⟩
abbrev st__law_holds : Stmt := top 46
abbrev sc__law_holds : Scope := defScope st__law_holds
abbrev N__law_holds : List Str := ["script", "draws", "inputs", "width", "low", "deeds", "j", "out", "states", "nexts", "outs", "chosen", "less", "due", "low_due", "bits", "low_bits", "row", "machine", "turn", "handed", "k", "number"]
abbrev ow__law_holds : Nat → Bool := owS []
abbrev d__law_holds : He.DefD := ⟨("_law_holds", none), "_law_holds", "_law_holds", defArgs st__law_holds, defBody st__law_holds, sc__law_holds, [], []⟩
abbrev st_law : Stmt := top 47
abbrev sc_law : Scope := defScope st_law
abbrev N_law : List Str := ["script"]
def ow_law : Nat → Bool := fun i => false
abbrev d_law : He.DefD := ⟨("law", none), "law", "law", defArgs st_law, defBody st_law, sc_law, [], []⟩
abbrev fa : List He.Fa := [.free "range", .free "len", .free "int", .free "list", .free "tuple", .free "isinstance", .free "bool", .free "enumerate", .free "all", .free "min", .free "sum", .free "str", .glo "SIZES", .glo "is_integer", .glo "is_inputs", .glo "as_tuple", .glo "is_below", .glo "is_line", .glo "right_nexts", .glo "right_outs", .glo "Machine", .mkr "Machine", .glo "is_reading", .cls "Machine", .meth "Machine" "bits_written", .glo "is_number", .glo "is_word", .glo "are_words", .glo "letters_of", .meth "Machine" "write", .glo "are_values", .glo "is_count_deed", .glo "is_deed", .glo "Row", .mkr "Row", .glo "counted_word", .glo "deed_word", .cls "Row", .meth "Row" "all_words", .meth "Row" "write", .glo "_law_cell", .glo "_law_deed", .glo "_law_mixed", .glo "_law_draws", .glo "_law_integer", .glo "_law_low_too", .glo "_law_number", .glo "_law_count", .glo "_law_value", .glo "_law_numbers", .glo "_law_same", .glo "_law_table", .glo "_law_word", .glo "_law_holds", .glo "law"]
abbrev fns : List He.DefD := [d_is_integer, d_is_inputs, d_as_tuple, d_is_below, d_is_line, d_right_nexts, d_right_outs, d_Machine_init, d_is_reading, d_Machine_bits_written, d_is_number, d_is_word, d_are_words, d_letters_of, d_Machine_write, d_are_values, d_is_count_deed, d_is_deed, d_Row_init, d_counted_word, d_deed_word, d_Row_all_words, d_Row_write, d__law_cell, d__law_deed, d__law_mixed, d__law_draws, d__law_integer, d__law_low_too, d__law_number, d__law_count, d__law_value, d__law_numbers, d__law_same, d__law_table, d__law_word, d__law_holds, d_law]
abbrev tbs : List He.Tab := [tabT "SIZES" tab_SIZES]
abbrev mss : List (Frag → Bool) := [attB ["Machine"] "inputs", attB ["Machine"] "nexts", attB ["Machine"] "outs", kitC CS, attB ["Row", "Machine"] "inputs", attB ["Row"] "inputs", attB ["Row"] "deeds", attB ["Row"] "out", tabB "SIZES" tab_SIZES]
abbrev Fs (w : World) (K : Frag) (mg : Str → Option Value) : Prop := Facts fa fns tbs mss w K mg
section
variable {P : Program} {w : World} {K : Frag} {mg : Str → Option Value} {base : Heap}
theorem S_is_integer : FnScope N_is_integer ["value"] sc_is_integer := ⟨rfl, rfl, rfl, by decide +kernel, rfl, by decide +kernel, by decide +kernel⟩
theorem c_is_integer (Y : Fs w K mg) : CallOk P w K mg base 1 "is_integer" d_is_integer ["value"] 1 m_is_integer :=
  def_ok (d := d_is_integer) (N := N_is_integer) (ps := ["value"]) (p := 1) (m := b_is_integer) (k := 0) (ow := ow_is_integer) (Y.def_ 0) (Y.glo 13) S_is_integer rfl rfl (by decide) (fun _ _ _ _ _ _ us hl => match us, hl with | [_], _ => rfl) (fun cdv A outer s H E T => (ss_one (s_ret (x_and (x_isi1 (cs := CS) (t := .int) rfl (kit_of_b (Y.more 3)) rfl (Y.free 5) (w_of (x_var (pv 0) rfl)) (pe_bltn rfl (Y.free 2) hv_int rfl)) (x_one (x_not (x_isi1 (cs := CS) (t := .bl) rfl (kit_of_b (Y.more 3)) rfl (Y.free 5) (w_of (x_var (pv 0) rfl)) (pe_bltn rfl (Y.free 6) hv_bool rfl))))))))
theorem S_is_inputs : FnScope N_is_inputs ["value"] sc_is_inputs := ⟨rfl, rfl, rfl, by decide +kernel, rfl, by decide +kernel, by decide +kernel⟩
theorem c_is_inputs (Y : Fs w K mg) : CallOk P w K mg base 2 "is_inputs" d_is_inputs ["value"] 1 m_is_inputs :=
  def_ok (d := d_is_inputs) (N := N_is_inputs) (ps := ["value"]) (p := 1) (m := b_is_inputs) (k := 1) (ow := ow_is_inputs) (Y.def_ 1) (Y.glo 14) S_is_inputs rfl rfl (by decide) (fun _ _ _ _ _ _ us hl => match us, hl with | [_], _ => rfl) (fun cdv A outer s H E T => (ss_one (s_ret (x_and (x_own1 T (c_is_integer Y) (by decide) rfl (xa_cons (x_var (pv 0) rfl) xa_nil)) (x_one (x_chain y_le y_le n_le n_le (w_of x_int) (w_of (x_var (pv 0) rfl)) (w_of x_int)))))))
theorem S_as_tuple : FnScope N_as_tuple ["value"] sc_as_tuple := ⟨rfl, rfl, rfl, by decide +kernel, rfl, by decide +kernel, by decide +kernel⟩
theorem c_as_tuple (Y : Fs w K mg) : CallOk P w K mg base 1 "as_tuple" d_as_tuple ["value"] 1 m_as_tuple :=
  def_ok (d := d_as_tuple) (N := N_as_tuple) (ps := ["value"]) (p := 1) (m := b_as_tuple) (k := 0) (ow := ow_as_tuple) (Y.def_ 2) (Y.glo 15) S_as_tuple rfl rfl (by decide) (fun _ _ _ _ _ _ us hl => match us, hl with | [_], _ => rfl) (fun cdv A outer s H E T => (ss_cons (s_if (t_tst (w_of (x_isiT (cs := CS) (ts := [.lst, .tup]) rfl (kit_of_b (Y.more 3)) rfl (Y.free 5) (w_of (x_var (pv 0) rfl)) (TyL.cons (t := .lst) (pe_bltn rfl (Y.free 3) hv_list rfl) (TyL.cons (t := .tup) (pe_bltn rfl (Y.free 4) hv_tuple rfl) TyL.nil rfl) rfl) (by decide))) (by intro _; rfl)) (ss_one (s_ret (x_t1 v_tuple n_tuple rfl (Y.free 4) hv_tuple (w_of (x_var (pv 0) rfl))))) ss_nil)
  (ss_one (s_ret x_non))))
theorem S_is_below : FnScope N_is_below ["value", "limit"] sc_is_below := ⟨rfl, rfl, rfl, by decide +kernel, rfl, by decide +kernel, by decide +kernel⟩
theorem c_is_below (Y : Fs w K mg) : CallOk P w K mg base 2 "is_below" d_is_below ["value", "limit"] 2 m_is_below :=
  def_ok (d := d_is_below) (N := N_is_below) (ps := ["value", "limit"]) (p := 2) (m := b_is_below) (k := 1) (ow := ow_is_below) (Y.def_ 3) (Y.glo 16) S_is_below rfl rfl (by decide) (fun _ _ _ _ _ _ us hl => match us, hl with | [_, _], _ => rfl) (fun cdv A outer s H E T => (ss_one (s_ret (x_and (x_own1 T (c_is_integer Y) (by decide) rfl (xa_cons (x_var (pv 0) rfl) xa_nil)) (x_one (x_chain y_le y_lt n_le n_lt (w_of x_int) (w_of (x_var (pv 0) rfl)) (w_of (x_var (pv 1) rfl))))))))
theorem S_is_line : FnScope N_is_line ["value", "many", "limit"] sc_is_line := ⟨rfl, rfl, rfl, by decide +kernel, rfl, by decide +kernel, by decide +kernel⟩
theorem c_is_line (Y : Fs w K mg) : CallOk P w K mg base 3 "is_line" d_is_line ["value", "many", "limit"] 3 m_is_line :=
  def_ok (d := d_is_line) (N := N_is_line) (ps := ["value", "many", "limit"]) (p := 3) (m := b_is_line) (k := 2) (ow := ow_is_line) (Y.def_ 4) (Y.glo 17) S_is_line rfl rfl (by decide) (fun _ _ _ _ _ _ us hl => match us, hl with | [_, _, _], _ => rfl) (fun cdv A outer s H E T => (ss_cons (s_if (PW.pt (t_or (t_not (t_tst (w_of (x_isi1 (cs := CS) (t := .tup) rfl (kit_of_b (Y.more 3)) rfl (Y.free 5) (w_of (x_var (pv 0) rfl)) (pe_bltn rfl (Y.free 4) hv_tuple rfl))) (by intro _; rfl))) (t_or1 (t_cmp T.ne n_ne b_ne (w_of (x_b1 v_len n_len rfl (Y.free 1) hv_len (w_of (x_var (pv 0) rfl)))) (w_of (x_var (pv 1) rfl)) rfl)))) (ss_one (s_ret x_bl)) ss_nil)
  (ss_one (s_ret (x_b1 (v_all T.calm) n_all rfl (Y.free 8) hv_all (w_of (e_of (f_lc (own := [("member", 3)]) T (i_gr (i_seq (x_var (pv 0) rfl))) (blkOk_by (N := N_is_line) (sc := sc_is_line) (own := [("member", 3)]) (by decide +kernel)) (fun _ _ _ _ _ T1 => (g_nm (pg_name (i := 3) T1.nd rfl (Or.inl rfl)) rfl)) (fun _ _ _ _ _ T1 => ts_nil) (fun _ _ _ _ _ T1 => (x_own1 T1 (c_is_below Y) (by decide) rfl (xa_cons (x_var (pv 3) rfl) (xa_cons (x_var (pv 2) rfl) xa_nil)))) (by decide)))))))))
theorem S_right_nexts : FnScope N_right_nexts ["value", "letters"] sc_right_nexts := ⟨rfl, rfl, rfl, by decide +kernel, rfl, by decide +kernel, by decide +kernel⟩
theorem c_right_nexts (Y : Fs w K mg) : CallOk P w K mg base 4 "right_nexts" d_right_nexts ["value", "letters"] 2 m_right_nexts :=
  def_ok (d := d_right_nexts) (N := N_right_nexts) (ps := ["value", "letters"]) (p := 2) (m := b_right_nexts) (k := 3) (ow := ow_right_nexts) (Y.def_ 5) (Y.glo 18) S_right_nexts rfl rfl (by decide) (fun _ _ _ _ _ _ us hl => match us, hl with | [_, _], _ => rfl) (fun cdv A outer s H E T => (ss_cons (s_set (ps_set (i := 2) T.nd rfl (Or.inl rfl) (x_own1 T (c_as_tuple Y) (by decide) rfl (xa_cons (x_var (pv 0) rfl) xa_nil))) rfl)
  (ss_cons (s_if (t_not (t_tst (w_of (x_var (pv 2) rfl)) (by intro _; rfl))) (ss_one s_dead) ss_nil)
  (ss_cons (s_for T.po T.calm (i_enum rfl (Y.free 7) (x_var (pv 2) rfl)) (g_tup T.calm (gs_cons (g_nm (pg_name (i := 3) T.nd rfl (Or.inl rfl)) rfl) (gs_cons (g_nm (pg_name (i := 4) T.nd rfl (Or.inl rfl)) rfl) gs_nil))) (ss_one (s_if (t_not (t_tst (w_of (x_own1 T (c_is_line Y) (by decide) rfl (xa_cons (x_var (pv 4) rfl) (xa_cons (x_var (pv 1) rfl) (xa_cons (x_b1 v_len n_len rfl (Y.free 1) hv_len (w_of (x_var (pv 2) rfl))) xa_nil))))) (by intro _; rfl))) (ss_one s_dead) ss_nil)))
  (ss_one (s_ret (x_var (pv 2) rfl)))))))
theorem S_right_outs : FnScope N_right_outs ["value", "letters", "states"] sc_right_outs := ⟨rfl, rfl, rfl, by decide +kernel, rfl, by decide +kernel, by decide +kernel⟩
theorem c_right_outs (Y : Fs w K mg) : CallOk P w K mg base 4 "right_outs" d_right_outs ["value", "letters", "states"] 3 m_right_outs :=
  def_ok (d := d_right_outs) (N := N_right_outs) (ps := ["value", "letters", "states"]) (p := 3) (m := b_right_outs) (k := 3) (ow := ow_right_outs) (Y.def_ 6) (Y.glo 19) S_right_outs rfl rfl (by decide) (fun _ _ _ _ _ _ us hl => match us, hl with | [_, _, _], _ => rfl) (fun cdv A outer s H E T => (ss_cons (s_set (ps_set (i := 3) T.nd rfl (Or.inl rfl) (x_own1 T (c_as_tuple Y) (by decide) rfl (xa_cons (x_var (pv 0) rfl) xa_nil))) rfl)
  (ss_cons (s_if (t_isN (w_of (x_var (pv 3) rfl))) (ss_one s_dead) ss_nil)
  (ss_cons (s_set (ps_set (i := 4) T.nd rfl (Or.inl rfl) (x_b2 (v_min2 T.calm) n_min2 rfl (Y.free 9) hv_min (w_of (x_b1 v_len n_len rfl (Y.free 1) hv_len (w_of (x_var (pv 3) rfl)))) (w_of (x_var (pv 2) rfl)))) rfl)
  (ss_cons (s_for T.po T.calm (i_rng1 rfl (Y.free 0) (x_var (pv 4) rfl)) (g_nm (pg_name (i := 5) T.nd rfl (Or.inl rfl)) rfl) (ss_one (s_if (t_not (t_tst (w_of (x_own1 T (c_is_line Y) (by decide) rfl (xa_cons (x_idx (w_of (x_var (pv 3) rfl)) (w_of (x_var (pv 5) rfl))) (xa_cons (x_var (pv 1) rfl) (xa_cons x_int xa_nil))))) (by intro _; rfl))) (ss_one s_dead) ss_nil)))
  (ss_cons (s_if (t_cmp T.ne n_ne b_ne (w_of (x_b1 v_len n_len rfl (Y.free 1) hv_len (w_of (x_var (pv 3) rfl)))) (w_of (x_var (pv 2) rfl)) rfl) (ss_one s_dead) ss_nil)
  (ss_one (s_ret (x_var (pv 3) rfl)))))))))
theorem S_Machine_init : FnScope N_Machine_init ["self", "inputs", "nexts", "outs"] sc_Machine_init := ⟨rfl, rfl, rfl, by decide +kernel, rfl, by decide +kernel, by decide +kernel⟩
theorem c_Machine (Y : Fs w K mg) : MakeOk P w K mg base 5 "Machine" 4 m_Machine :=
  cls_ok (name := "__init__") (qual := "Machine.__init__") (params := defArgs st_Machine_init) (body := defBody st_Machine_init) (scope := sc_Machine_init) (f := He.ma K (ca K "Machine") "__init__") (N := N_Machine_init) (p := 4) (m := b_Machine_init) (k := 4) (ow := ow_Machine_init) (Y.def_ 7) (Y.glo 20) (Y.mkr 21 (x := "Machine")) S_Machine_init rfl rfl rfl (by decide) (by decide) (fun _ _ _ _ _ _ us hl => match us, hl with | [_, _, _, _], _ => rfl) (fun cdv A outer s H E T => (ss_cons (s_if (t_not (t_tst (w_of (x_own1 T (c_is_inputs Y) (by decide) rfl (xa_cons (x_var (pv 1) rfl) xa_nil))) (by intro _; rfl))) (ss_one s_dead) ss_nil)
  (ss_cons (s_set (ps_set (i := 4) T.nd rfl (Or.inl rfl) (x_bin y_shl n_shl (w_of x_int) (w_of (x_var (pv 1) rfl)))) rfl)
  (ss_cons (s_setF (att_ok (Y.more 0)) (ps_fld (pv 0) (x_var (pv 1) rfl) rfl) rfl)
  (ss_cons (s_setF (att_ok (Y.more 1)) (ps_fld (pv 0) (x_own1 T (c_right_nexts Y) (by decide) rfl (xa_cons (x_var (pv 2) rfl) (xa_cons (x_var (pv 4) rfl) xa_nil))) rfl) rfl)
  (ss_one (s_setF (att_ok (Y.more 2)) (ps_fld (pv 0) (x_own1 T (c_right_outs Y) (by decide) rfl (xa_cons (x_var (pv 3) rfl) (xa_cons (x_var (pv 4) rfl) (xa_cons (x_b1 v_len n_len rfl (Y.free 1) hv_len (w_of (x_attr (att_ok (Y.more 1)) (x_own (pv 0))))) xa_nil)))) rfl) rfl)))))))
theorem S_is_reading : FnScope N_is_reading ["value", "inputs"] sc_is_reading := ⟨rfl, rfl, rfl, by decide +kernel, rfl, by decide +kernel, by decide +kernel⟩
theorem c_is_reading (Y : Fs w K mg) : CallOk P w K mg base 3 "is_reading" d_is_reading ["value", "inputs"] 2 m_is_reading :=
  def_ok (d := d_is_reading) (N := N_is_reading) (ps := ["value", "inputs"]) (p := 2) (m := b_is_reading) (k := 2) (ow := ow_is_reading) (Y.def_ 8) (Y.glo 22) S_is_reading rfl rfl (by decide) (fun _ _ _ _ _ _ us hl => match us, hl with | [_, _], _ => rfl) (fun cdv A outer s H E T => (ss_cons (s_if (t_not (t_tst (w_of (x_isi1 (cs := CS) (t := .tup) rfl (kit_of_b (Y.more 3)) rfl (Y.free 5) (w_of (x_var (pv 0) rfl)) (pe_bltn rfl (Y.free 4) hv_tuple rfl))) (by intro _; rfl))) (ss_one (s_ret x_bl)) ss_nil)
  (ss_one (s_ret (x_b1 (v_all T.calm) n_all rfl (Y.free 8) hv_all (w_of (e_of (f_lc (own := [("letter", 2)]) T (i_gr (i_seq (x_var (pv 0) rfl))) (blkOk_by (N := N_is_reading) (sc := sc_is_reading) (own := [("letter", 2)]) (by decide +kernel)) (fun _ _ _ _ _ T1 => (g_nm (pg_name (i := 2) T1.nd rfl (Or.inl rfl)) rfl)) (fun _ _ _ _ _ T1 => ts_nil) (fun _ _ _ _ _ T1 => (x_own1 T1 (c_is_below Y) (by decide) rfl (xa_cons (x_var (pv 2) rfl) (xa_cons (x_bin y_shl n_shl (w_of x_int) (w_of (x_var (pv 1) rfl))) xa_nil)))) (by decide)))))))))
theorem S_Machine_bits_written : FnScope N_Machine_bits_written ["self", "reading"] sc_Machine_bits_written := ⟨rfl, rfl, rfl, by decide +kernel, rfl, by decide +kernel, by decide +kernel⟩
theorem c_Machine_bits_written (Y : Fs w K mg) : MethOk P w K mg base 4 "Machine" "bits_written" 2 m_Machine_bits_written :=
  meth_def (d := d_Machine_bits_written) (N := N_Machine_bits_written) (ps := ["self", "reading"]) (p := 2) (m := b_Machine_bits_written) (k := 3) (ow := ow_Machine_bits_written) (oN := owS []) (oB := owS []) (Y.def_ 9) (Y.cls 23) (Y.meth 24) S_Machine_bits_written rfl rfl (by decide) (fun _ _ _ _ _ _ us hl => match us, hl with | [_, _], _ => rfl) (fun cdv A outer s H E T => (c_cons (o1 := owS []) (c_if (t_not (t_tst (w_of (x_own1 T (c_is_reading Y) (by decide) rfl (xa_cons (x_var (pv 1) rfl) (xa_cons (x_attr (att_ok (Y.more 4)) (w_of (x_var (pv 0) rfl))) xa_nil)))) (by intro _; rfl))) (c_one s_dead3) (c_cut (o1 := owS []) c_nil (owS_le (by decide)) (by decide)))
  (c_cons (o1 := owS []) (s_up (s_set (ps_set (i := 2) T.nd rfl (Or.inl rfl) x_int) rfl) (owS_le (by decide)) (by decide))
  (c_cons (o1 := owS [3]) (c_own (ps_set (i := 3) T.nd rfl (Or.inl rfl) (f_lst xa_nil)) rfl (owS_add (by decide)))
  (c_cons (o1 := owS [3]) (s_up (s_for T.po T.calm (i_seq (x_var (pv 1) rfl)) (g_nm (pg_name (i := 4) T.nd rfl (Or.inl rfl)) rfl) (c_cons (o1 := owS [3]) (s_up (s_app1 (i := 3) (pv 3) (x_idx (w_of (x_idx (w_of (x_attr (att_ok (Y.more 2)) (w_of (x_var (pv 0) rfl)))) (w_of (x_var (pv 2) rfl)))) (w_of (x_var (pv 4) rfl))) rfl) (owS_le (by decide)) (by decide))
  (c_one (s_up (s_set (ps_set (i := 2) T.nd rfl (Or.inl rfl) (x_idx (w_of (x_idx (w_of (x_attr (att_ok (Y.more 1)) (w_of (x_var (pv 0) rfl)))) (w_of (x_var (pv 2) rfl)))) (w_of (x_var (pv 4) rfl)))) rfl) (owS_le (by decide)) (by decide))))) (owS_le (by decide)) (by decide))
  (c_cut (o1 := owS []) (c_one (s_up (s_ret (x_t1 v_tuple n_tuple rfl (Y.free 4) hv_tuple (w_of (x_var (pv 3) rfl)))) (owS_le (by decide)) (by decide))) (owS_le (by decide)) (by decide)))))))
theorem S_is_number : FnScope N_is_number ["value"] sc_is_number := ⟨rfl, rfl, rfl, by decide +kernel, rfl, by decide +kernel, by decide +kernel⟩
theorem c_is_number (Y : Fs w K mg) : CallOk P w K mg base 2 "is_number" d_is_number ["value"] 1 m_is_number :=
  def_ok (d := d_is_number) (N := N_is_number) (ps := ["value"]) (p := 1) (m := b_is_number) (k := 1) (ow := ow_is_number) (Y.def_ 10) (Y.glo 25) S_is_number rfl rfl (by decide) (fun _ _ _ _ _ _ us hl => match us, hl with | [_], _ => rfl) (fun cdv A outer s H E T => (ss_one (s_ret (x_and (x_own1 T (c_is_integer Y) (by decide) rfl (xa_cons (x_var (pv 0) rfl) xa_nil)) (x_one (x_cmp y_ge n_ge (w_of (x_var (pv 0) rfl)) (w_of x_int) rfl))))))
theorem S_is_word : FnScope N_is_word ["value", "width"] sc_is_word := ⟨rfl, rfl, rfl, by decide +kernel, rfl, by decide +kernel, by decide +kernel⟩
theorem c_is_word (Y : Fs w K mg) : CallOk P w K mg base 3 "is_word" d_is_word ["value", "width"] 2 m_is_word :=
  def_ok (d := d_is_word) (N := N_is_word) (ps := ["value", "width"]) (p := 2) (m := b_is_word) (k := 2) (ow := ow_is_word) (Y.def_ 11) (Y.glo 26) S_is_word rfl rfl (by decide) (fun _ _ _ _ _ _ us hl => match us, hl with | [_, _], _ => rfl) (fun cdv A outer s H E T => (ss_one (s_ret (x_and (x_own1 T (c_is_number Y) (by decide) rfl (xa_cons (x_var (pv 0) rfl) xa_nil)) (x_one (x_cmp y_le n_le (w_of (x_bits (w_of (x_var (pv 0) rfl)))) (w_of (x_var (pv 1) rfl)) rfl))))))
theorem S_are_words : FnScope N_are_words ["value", "width", "least", "most"] sc_are_words := ⟨rfl, rfl, rfl, by decide +kernel, rfl, by decide +kernel, by decide +kernel⟩
theorem c_are_words (Y : Fs w K mg) : CallOk P w K mg base 4 "are_words" d_are_words ["value", "width", "least", "most"] 4 m_are_words :=
  def_ok (d := d_are_words) (N := N_are_words) (ps := ["value", "width", "least", "most"]) (p := 4) (m := b_are_words) (k := 3) (ow := ow_are_words) (Y.def_ 12) (Y.glo 27) S_are_words rfl rfl (by decide) (fun _ _ _ _ _ _ us hl => match us, hl with | [_, _, _, _], _ => rfl) (fun cdv A outer s H E T => (ss_cons (s_set (ps_set (i := 4) T.nd rfl (Or.inl rfl) (x_own1 T (c_as_tuple Y) (by decide) rfl (xa_cons (x_var (pv 0) rfl) xa_nil))) rfl)
  (ss_cons (s_if (PW.pt (t_or (t_isN (w_of (x_var (pv 4) rfl))) (t_or1 (t_not (t_chain y_le y_le n_le n_le (Bl.chain b_le) (w_of (x_var (pv 2) rfl)) (w_of (x_b1 v_len n_len rfl (Y.free 1) hv_len (w_of (x_var (pv 4) rfl)))) (w_of (x_var (pv 3) rfl))))))) (ss_one (s_ret x_bl)) ss_nil)
  (ss_one (s_ret (x_b1 (v_all T.calm) n_all rfl (Y.free 8) hv_all (w_of (e_of (f_lc (own := [("word", 5)]) T (i_gr (i_seq (x_var (pv 4) rfl))) (blkOk_by (N := N_are_words) (sc := sc_are_words) (own := [("word", 5)]) (by decide +kernel)) (fun _ _ _ _ _ T1 => (g_nm (pg_name (i := 5) T1.nd rfl (Or.inl rfl)) rfl)) (fun _ _ _ _ _ T1 => ts_nil) (fun _ _ _ _ _ T1 => (x_own1 T1 (c_is_word Y) (by decide) rfl (xa_cons (x_var (pv 5) rfl) (xa_cons (x_var (pv 1) rfl) xa_nil)))) (by decide))))))))))
theorem S_letters_of : FnScope N_letters_of ["width", "words"] sc_letters_of := ⟨rfl, rfl, rfl, by decide +kernel, rfl, by decide +kernel, by decide +kernel⟩
theorem c_letters_of (Y : Fs w K mg) : CallOk P w K mg base 1 "letters_of" d_letters_of ["width", "words"] 2 m_letters_of :=
  def_ok (d := d_letters_of) (N := N_letters_of) (ps := ["width", "words"]) (p := 2) (m := b_letters_of) (k := 0) (ow := ow_letters_of) (oN := owS []) (oB := owS []) (Y.def_ 13) (Y.glo 28) S_letters_of rfl rfl (by decide) (fun _ _ _ _ _ _ us hl => match us, hl with | [_, _], _ => rfl) (fun cdv A outer s H E T => (c_cons (o1 := owS [2]) (c_own (ps_set (i := 2) T.nd rfl (Or.inl rfl) (f_lst xa_nil)) rfl (owS_add (by decide)))
  (c_cons (o1 := owS [2]) (s_up (s_for T.po T.calm (i_rng1 rfl (Y.free 0) (x_var (pv 0) rfl)) (g_nm (pg_name (i := 3) T.nd rfl (Or.inr rfl)) rfl) (c_one (s_up (s_app1 (i := 2) (pv 2) (x_b1 (v_sum T.calm) n_sum rfl (Y.free 10) hv_sum (w_of (e_of (f_lc (own := [("i", 4)]) T (i_gr (i_rng1 rfl (Y.free 0) (x_b1 v_len n_len rfl (Y.free 1) hv_len (w_of (x_var (pv 1) rfl))))) (blkOk_by (N := N_letters_of) (sc := sc_letters_of) (own := [("i", 4)]) (by decide +kernel)) (fun _ _ _ _ _ T1 => (g_nm (pg_name (i := 4) T1.nd rfl (Or.inl rfl)) rfl)) (fun _ _ _ _ _ T1 => ts_nil) (fun _ _ _ _ _ T1 => (x_bin y_shl n_shl (w_of (x_bin y_and n_and (w_of (x_bin y_shr n_shr (w_of (x_idx (w_of (x_var (pv 1) rfl)) (w_of (x_var (pv 4) rfl)))) (w_of (x_var (pv 3) rfl)))) (w_of x_int))) (w_of (x_var (pv 4) rfl)))) (by decide))))) rfl) (owS_le (by decide)) (by decide)))) (owS_le (by decide)) (by decide))
  (c_cut (o1 := owS []) (c_one (s_up (s_ret (x_t1 v_tuple n_tuple rfl (Y.free 4) hv_tuple (w_of (x_var (pv 2) rfl)))) (owS_le (by decide)) (by decide))) (owS_le (by decide)) (by decide)))))
theorem S_Machine_write : FnScope N_Machine_write ["self", "width", "words"] sc_Machine_write := ⟨rfl, rfl, rfl, by decide +kernel, rfl, by decide +kernel, by decide +kernel⟩
theorem c_Machine_write (Y : Fs w K mg) : MethOk P w K mg base 5 "Machine" "write" 3 m_Machine_write :=
  meth_def (d := d_Machine_write) (N := N_Machine_write) (ps := ["self", "width", "words"]) (p := 3) (m := b_Machine_write) (k := 4) (ow := ow_Machine_write) (Y.def_ 14) (Y.cls 23) (Y.meth 29) S_Machine_write rfl rfl (by decide) (fun _ _ _ _ _ _ us hl => match us, hl with | [_, _, _], _ => rfl) (fun cdv A outer s H E T => (ss_cons (s_if (t_not (t_tst (w_of (x_own1 T (c_is_number Y) (by decide) rfl (xa_cons (x_var (pv 1) rfl) xa_nil))) (by intro _; rfl))) (ss_one s_dead) ss_nil)
  (ss_cons (s_if (t_not (t_tst (w_of (x_own1 T (c_are_words Y) (by decide) rfl (xa_cons (x_var (pv 2) rfl) (xa_cons (x_var (pv 1) rfl) (xa_cons (x_attr (att_ok (Y.more 4)) (w_of (x_var (pv 0) rfl))) (xa_cons (x_attr (att_ok (Y.more 4)) (w_of (x_var (pv 0) rfl))) xa_nil)))))) (by intro _; rfl))) (ss_one s_dead) ss_nil)
  (ss_cons (s_set (ps_set (i := 3) T.nd rfl (Or.inl rfl) (x_meth (mn := "bits_written") rfl T (c_Machine_bits_written Y) (by decide) (fun _ _ _ _ _ h => h) (x_var (pv 0) rfl) (xa_cons (x_own1 T (c_letters_of Y) (by decide) rfl (xa_cons (x_var (pv 1) rfl) (xa_cons (x_var (pv 2) rfl) xa_nil))) xa_nil))) rfl)
  (ss_one (s_ret (x_b1 (v_sum T.calm) n_sum rfl (Y.free 10) hv_sum (w_of (e_of (f_lc (own := [("place", 4), ("bit", 5)]) T (i_gr (i_enum rfl (Y.free 7) (x_var (pv 3) rfl))) (blkOk_by (N := N_Machine_write) (sc := sc_Machine_write) (own := [("place", 4), ("bit", 5)]) (by decide +kernel)) (fun _ _ _ _ _ T1 => (g_tup T1.calm (gs_cons (g_nm (pg_name (i := 4) T1.nd rfl (Or.inl rfl)) rfl) (gs_cons (g_nm (pg_name (i := 5) T1.nd rfl (Or.inl rfl)) rfl) gs_nil)))) (fun _ _ _ _ _ T1 => ts_nil) (fun _ _ _ _ _ T1 => (x_bin y_shl n_shl (w_of (x_var (pv 5) rfl)) (w_of (x_var (pv 4) rfl)))) (by decide)))))))))))
theorem S_are_values : FnScope N_are_values ["numbers", "many"] sc_are_values := ⟨rfl, rfl, rfl, by decide +kernel, rfl, by decide +kernel, by decide +kernel⟩
theorem c_are_values (Y : Fs w K mg) : CallOk P w K mg base 3 "are_values" d_are_values ["numbers", "many"] 2 m_are_values :=
  def_ok (d := d_are_values) (N := N_are_values) (ps := ["numbers", "many"]) (p := 2) (m := b_are_values) (k := 2) (ow := ow_are_values) (Y.def_ 15) (Y.glo 30) S_are_values rfl rfl (by decide) (fun _ _ _ _ _ _ us hl => match us, hl with | [_, _], _ => rfl) (fun cdv A outer s H E T => (ss_one (s_ret (x_b1 (v_all T.calm) n_all rfl (Y.free 8) hv_all (w_of (e_of (f_lc (own := [("number", 2)]) T (i_gr (i_seq (x_var (pv 0) rfl))) (blkOk_by (N := N_are_values) (sc := sc_are_values) (own := [("number", 2)]) (by decide +kernel)) (fun _ _ _ _ _ T1 => (g_nm (pg_name (i := 2) T1.nd rfl (Or.inl rfl)) rfl)) (fun _ _ _ _ _ T1 => ts_nil) (fun _ _ _ _ _ T1 => (x_own1 T1 (c_is_below Y) (by decide) rfl (xa_cons (x_var (pv 2) rfl) (xa_cons (x_var (pv 1) rfl) xa_nil)))) (by decide))))))))
theorem S_is_count_deed : FnScope N_is_count_deed ["value", "many"] sc_is_count_deed := ⟨rfl, rfl, rfl, by decide +kernel, rfl, by decide +kernel, by decide +kernel⟩
theorem c_is_count_deed (Y : Fs w K mg) : CallOk P w K mg base 4 "is_count_deed" d_is_count_deed ["value", "many"] 2 m_is_count_deed :=
  def_ok (d := d_is_count_deed) (N := N_is_count_deed) (ps := ["value", "many"]) (p := 2) (m := b_is_count_deed) (k := 3) (ow := ow_is_count_deed) (Y.def_ 16) (Y.glo 31) S_is_count_deed rfl rfl (by decide) (fun _ _ _ _ _ _ us hl => match us, hl with | [_, _], _ => rfl) (fun cdv A outer s H E T => (ss_cons (s_if (t_cmp T.ne n_ne b_ne (w_of (x_b1 v_len n_len rfl (Y.free 1) hv_len (w_of (x_var (pv 0) rfl)))) (w_of x_int) rfl) (ss_one (s_ret x_bl)) ss_nil)
  (ss_cons (s_gen (ps_asg (x_slc (w_of (x_var (pv 0) rfl)) (o_some x_int) o_none) (g_tup T.calm (gs_cons (g_nm (pg_name (i := 2) T.nd rfl (Or.inl rfl)) rfl) (gs_cons (g_nm (pg_name (i := 3) T.nd rfl (Or.inl rfl)) rfl) (gs_cons (g_nm (pg_name (i := 4) T.nd rfl (Or.inl rfl)) rfl) gs_nil))))))
  (ss_cons (s_if (PW.pt (t_or (t_not (t_tst (w_of (x_own1 T (c_is_integer Y) (by decide) rfl (xa_cons (x_var (pv 2) rfl) xa_nil))) (by intro _; rfl))) (t_or (t_cmp y_notin n_notin b_notin (w_of (x_var (pv 2) rfl)) (w_of (x_tup (xa_cons x_int (xa_cons x_int (xa_cons x_int xa_nil))))) rfl) (t_or1 (t_not (t_tst (w_of (x_own1 T (c_is_below Y) (by decide) rfl (xa_cons (x_var (pv 3) rfl) (xa_cons (x_var (pv 2) rfl) xa_nil)))) (by intro _; rfl))))))) (ss_one (s_ret x_bl)) ss_nil)
  (ss_one (s_ret (x_and (x_isi1 (cs := CS) (t := .tup) rfl (kit_of_b (Y.more 3)) rfl (Y.free 5) (w_of (x_var (pv 4) rfl)) (pe_bltn rfl (Y.free 4) hv_tuple rfl)) (x_and (x_chain y_le y_le n_le n_le (w_of x_int) (w_of (x_b1 v_len n_len rfl (Y.free 1) hv_len (w_of (x_var (pv 4) rfl)))) (w_of x_int)) (x_one (x_own1 T (c_are_values Y) (by decide) rfl (xa_cons (x_var (pv 4) rfl) (xa_cons (x_var (pv 1) rfl) xa_nil))))))))))))
theorem S_is_deed : FnScope N_is_deed ["value", "many"] sc_is_deed := ⟨rfl, rfl, rfl, by decide +kernel, rfl, by decide +kernel, by decide +kernel⟩
theorem c_is_deed (Y : Fs w K mg) : CallOk P w K mg base 5 "is_deed" d_is_deed ["value", "many"] 2 m_is_deed :=
  def_ok (d := d_is_deed) (N := N_is_deed) (ps := ["value", "many"]) (p := 2) (m := b_is_deed) (k := 4) (ow := ow_is_deed) (Y.def_ 17) (Y.glo 32) S_is_deed rfl rfl (by decide) (fun _ _ _ _ _ _ us hl => match us, hl with | [_, _], _ => rfl) (fun cdv A outer s H E T => (ss_cons (s_if (PW.pt (t_or (t_not (t_tst (w_of (x_isi1 (cs := CS) (t := .tup) rfl (kit_of_b (Y.more 3)) rfl (Y.free 5) (w_of (x_var (pv 0) rfl)) (pe_bltn rfl (Y.free 4) hv_tuple rfl))) (by intro _; rfl))) (t_or (t_not (t_tst (w_of (x_var (pv 0) rfl)) (by intro _; rfl))) (t_or1 (t_not (t_tst (w_of (x_isi1 (cs := CS) (t := .str) rfl (kit_of_b (Y.more 3)) rfl (Y.free 5) (w_of (x_idx (w_of (x_var (pv 0) rfl)) (w_of x_int))) (pe_bltn rfl (Y.free 11) hv_str rfl))) (by intro _; rfl))))))) (ss_one (s_ret x_bl)) ss_nil)
  (ss_cons (s_if (t_cmp T.eq n_eq b_eq (w_of (x_idx (w_of (x_var (pv 0) rfl)) (w_of x_int))) (w_of (x_str (s := "count"))) rfl) (ss_one (s_ret (x_own1 T (c_is_count_deed Y) (by decide) rfl (xa_cons (x_var (pv 0) rfl) (xa_cons (x_var (pv 1) rfl) xa_nil))))) ss_nil)
  (ss_cons (s_if (PW.pt (t_or (t_nothas (Y.tab 0 8 12) rfl (x_idx (w_of (x_var (pv 0) rfl)) (w_of x_int))) (t_or1 (t_cmp T.ne n_ne b_ne (w_of (x_b1 v_len n_len rfl (Y.free 1) hv_len (w_of (x_var (pv 0) rfl)))) (w_of (x_bin y_add n_add (w_of (x_look (Y.tab 0 8 12) rfl (x_idx (w_of (x_var (pv 0) rfl)) (w_of x_int)))) (w_of x_int))) rfl)))) (ss_one (s_ret x_bl)) ss_nil)
  (ss_one (s_ret (x_own1 T (c_are_values Y) (by decide) rfl (xa_cons (x_slc (w_of (x_var (pv 0) rfl)) (o_some x_int) o_none) (xa_cons (x_var (pv 1) rfl) xa_nil)))))))))
theorem S_Row_init : FnScope N_Row_init ["self", "inputs", "deeds", "out"] sc_Row_init := ⟨rfl, rfl, rfl, by decide +kernel, rfl, by decide +kernel, by decide +kernel⟩
theorem c_Row (Y : Fs w K mg) : MakeOk P w K mg base 6 "Row" 4 m_Row :=
  cls_ok (name := "__init__") (qual := "Row.__init__") (params := defArgs st_Row_init) (body := defBody st_Row_init) (scope := sc_Row_init) (f := He.ma K (ca K "Row") "__init__") (N := N_Row_init) (p := 4) (m := b_Row_init) (k := 5) (ow := ow_Row_init) (Y.def_ 18) (Y.glo 33) (Y.mkr 34 (x := "Row")) S_Row_init rfl rfl rfl (by decide) (by decide) (fun _ _ _ _ _ _ us hl => match us, hl with | [_, _, _, _], _ => rfl) (fun cdv A outer s H E T => (ss_cons (s_if (t_not (t_tst (w_of (x_own1 T (c_is_inputs Y) (by decide) rfl (xa_cons (x_var (pv 1) rfl) xa_nil))) (by intro _; rfl))) (ss_one s_dead) ss_nil)
  (ss_cons (s_set (ps_set (i := 4) T.nd rfl (Or.inl rfl) (x_own1 T (c_as_tuple Y) (by decide) rfl (xa_cons (x_var (pv 2) rfl) xa_nil))) rfl)
  (ss_cons (s_if (t_isN (w_of (x_var (pv 4) rfl))) (ss_one s_dead) ss_nil)
  (ss_cons (s_for T.po T.calm (i_enum rfl (Y.free 7) (x_var (pv 4) rfl)) (g_tup T.calm (gs_cons (g_nm (pg_name (i := 5) T.nd rfl (Or.inl rfl)) rfl) (gs_cons (g_nm (pg_name (i := 6) T.nd rfl (Or.inl rfl)) rfl) gs_nil))) (ss_one (s_if (t_not (t_tst (w_of (x_own1 T (c_is_deed Y) (by decide) rfl (xa_cons (x_var (pv 6) rfl) (xa_cons (x_bin y_add n_add (w_of (x_var (pv 1) rfl)) (w_of (x_var (pv 5) rfl))) xa_nil)))) (by intro _; rfl))) (ss_one s_dead) ss_nil)))
  (ss_cons (s_if (t_not (t_tst (w_of (x_own1 T (c_is_below Y) (by decide) rfl (xa_cons (x_var (pv 3) rfl) (xa_cons (x_bin y_add n_add (w_of (x_var (pv 1) rfl)) (w_of (x_b1 v_len n_len rfl (Y.free 1) hv_len (w_of (x_var (pv 4) rfl))))) xa_nil)))) (by intro _; rfl))) (ss_one s_dead) ss_nil)
  (ss_cons (s_setF (att_ok (Y.more 5)) (ps_fld (pv 0) (x_var (pv 1) rfl) rfl) rfl)
  (ss_cons (s_setF (att_ok (Y.more 6)) (ps_fld (pv 0) (x_var (pv 4) rfl) rfl) rfl)
  (ss_one (s_setF (att_ok (Y.more 7)) (ps_fld (pv 0) (x_var (pv 3) rfl) rfl) rfl))))))))))
theorem S_counted_word : FnScope N_counted_word ["width", "modulus", "rest", "words"] sc_counted_word := ⟨rfl, rfl, rfl, by decide +kernel, rfl, by decide +kernel, by decide +kernel⟩
theorem c_counted_word (Y : Fs w K mg) : CallOk P w K mg base 1 "counted_word" d_counted_word ["width", "modulus", "rest", "words"] 4 m_counted_word :=
  def_ok (d := d_counted_word) (N := N_counted_word) (ps := ["width", "modulus", "rest", "words"]) (p := 4) (m := b_counted_word) (k := 0) (ow := ow_counted_word) (Y.def_ 19) (Y.glo 35) S_counted_word rfl rfl (by decide) (fun _ _ _ _ _ _ us hl => match us, hl with | [_, _, _, _], _ => rfl) (fun cdv A outer s H E T => (ss_cons (s_set (ps_set (i := 4) T.nd rfl (Or.inl rfl) x_int) rfl)
  (ss_cons (s_set (ps_set (i := 5) T.nd rfl (Or.inl rfl) x_int) rfl)
  (ss_cons (s_for T.po T.calm (i_rng1 rfl (Y.free 0) (x_var (pv 0) rfl)) (g_nm (pg_name (i := 6) T.nd rfl (Or.inr rfl)) rfl) (ss_cons (s_if (t_cmp T.eq n_eq b_eq (w_of (x_var (pv 5) rfl)) (w_of (x_var (pv 2) rfl)) rfl) (ss_one (s_aug (ps_aug (i := 4) T.nd rfl (Or.inl rfl) (w_of (x_bin y_shl n_shl (w_of x_int) (w_of (x_var (pv 6) rfl)))) ip_or) rfl h_ior n_ior rfl)) ss_nil)
  (ss_one (s_set (ps_set (i := 5) T.nd rfl (Or.inl rfl) (x_bin y_mod n_mod (w_of (x_bin y_add n_add (w_of (x_var (pv 5) rfl)) (w_of (x_b1 (v_sum T.calm) n_sum rfl (Y.free 10) hv_sum (w_of (e_of (f_lc (own := [("part", 7)]) T (i_gr (i_seq (x_var (pv 3) rfl))) (blkOk_by (N := N_counted_word) (sc := sc_counted_word) (own := [("part", 7)]) (by decide +kernel)) (fun _ _ _ _ _ T1 => (g_nm (pg_name (i := 7) T1.nd rfl (Or.inl rfl)) rfl)) (fun _ _ _ _ _ T1 => ts_nil) (fun _ _ _ _ _ T1 => (x_bin y_and n_and (w_of (x_bin y_shr n_shr (w_of (x_var (pv 7) rfl)) (w_of (x_var (pv 6) rfl)))) (w_of x_int))) (by decide)))))))) (w_of (x_var (pv 1) rfl)))) rfl))))
  (ss_one (s_ret (x_var (pv 4) rfl)))))))
theorem S_deed_word : FnScope N_deed_word ["deed", "width", "words"] sc_deed_word := ⟨rfl, rfl, rfl, by decide +kernel, rfl, by decide +kernel, by decide +kernel⟩
theorem c_deed_word (Y : Fs w K mg) : CallOk P w K mg base 2 "deed_word" d_deed_word ["deed", "width", "words"] 3 m_deed_word :=
  def_ok (d := d_deed_word) (N := N_deed_word) (ps := ["deed", "width", "words"]) (p := 3) (m := b_deed_word) (k := 1) (ow := ow_deed_word) (Y.def_ 20) (Y.glo 36) S_deed_word rfl rfl (by decide) (fun _ _ _ _ _ _ us hl => match us, hl with | [_, _, _], _ => rfl) (fun cdv A outer s H E T => (ss_cons (s_set (ps_set (i := 3) T.nd rfl (Or.inl rfl) (x_idx (w_of (x_var (pv 0) rfl)) (w_of x_int))) rfl)
  (ss_cons (s_set (ps_set (i := 4) T.nd rfl (Or.inl rfl) (x_bin y_sub n_sub (w_of (x_bin y_shl n_shl (w_of x_int) (w_of (x_var (pv 1) rfl)))) (w_of x_int))) rfl)
  (ss_cons (s_if (t_cmp T.eq n_eq b_eq (w_of (x_var (pv 3) rfl)) (w_of (x_str (s := "count"))) rfl) (ss_one (s_ret (x_own1 T (c_counted_word Y) (by decide) rfl (xa_cons (x_var (pv 1) rfl) (xa_cons (x_idx (w_of (x_var (pv 0) rfl)) (w_of x_int)) (xa_cons (x_idx (w_of (x_var (pv 0) rfl)) (w_of x_int)) (xa_cons (e_of (f_lc (own := [("i", 7)]) T (i_gr (i_seq (x_idx (w_of (x_var (pv 0) rfl)) (w_of x_int)))) (blkOk_by (N := N_deed_word) (sc := sc_deed_word) (own := [("i", 7)]) (by decide +kernel)) (fun _ _ _ _ _ T1 => (g_nm (pg_name (i := 7) T1.nd rfl (Or.inl rfl)) rfl)) (fun _ _ _ _ _ T1 => ts_nil) (fun _ _ _ _ _ T1 => (x_idx (w_of (x_var (pv 2) rfl)) (w_of (x_var (pv 7) rfl)))) (by decide))) xa_nil))))))) ss_nil)
  (ss_cons (s_if (t_cmp y_in n_in b_in (w_of (x_var (pv 3) rfl)) (w_of (x_tup (xa_cons (x_str (s := "zero")) (xa_cons (x_str (s := "ones")) xa_nil)))) rfl) (ss_one (s_ret (x_ifExp (t_cmp T.eq n_eq b_eq (w_of (x_var (pv 3) rfl)) (w_of (x_str (s := "ones"))) rfl) (x_var (pv 4) rfl) x_int))) ss_nil)
  (ss_cons (s_set (ps_set (i := 5) T.nd rfl (Or.inl rfl) (x_idx (w_of (x_var (pv 2) rfl)) (w_of (x_idx (w_of (x_var (pv 0) rfl)) (w_of x_int))))) rfl)
  (ss_cons (s_set (ps_set (i := 6) T.nd rfl (Or.inl rfl) (x_idx (w_of (x_var (pv 2) rfl)) (w_of (x_idx (w_of (x_var (pv 0) rfl)) (w_of (x_un y_neg n_neg (w_of x_int))))))) rfl)
  (ss_cons (s_if (t_cmp T.eq n_eq b_eq (w_of (x_var (pv 3) rfl)) (w_of (x_str (s := "not"))) rfl) (ss_one (s_ret (x_bin y_sub n_sub (w_of (x_var (pv 4) rfl)) (w_of (x_var (pv 5) rfl))))) ss_nil)
  (ss_cons (s_if (t_cmp T.eq n_eq b_eq (w_of (x_var (pv 3) rfl)) (w_of (x_str (s := "and"))) rfl) (ss_one (s_ret (x_bin y_and n_and (w_of (x_var (pv 5) rfl)) (w_of (x_var (pv 6) rfl))))) ss_nil)
  (ss_cons (s_if (t_cmp T.eq n_eq b_eq (w_of (x_var (pv 3) rfl)) (w_of (x_str (s := "or"))) rfl) (ss_one (s_ret (x_bin y_or n_or (w_of (x_var (pv 5) rfl)) (w_of (x_var (pv 6) rfl))))) ss_nil)
  (ss_cons (s_if (t_cmp T.eq n_eq b_eq (w_of (x_var (pv 3) rfl)) (w_of (x_str (s := "xor"))) rfl) (ss_one (s_ret (x_bin y_xor n_xor (w_of (x_var (pv 5) rfl)) (w_of (x_var (pv 6) rfl))))) ss_nil)
  (ss_cons (s_if (t_cmp T.eq n_eq b_eq (w_of (x_var (pv 3) rfl)) (w_of (x_str (s := "sub"))) rfl) (ss_one (s_ret (x_bin y_and n_and (w_of (x_bin y_sub n_sub (w_of (x_var (pv 5) rfl)) (w_of (x_var (pv 6) rfl)))) (w_of (x_var (pv 4) rfl))))) ss_nil)
  (ss_cons (s_if (t_cmp T.eq n_eq b_eq (w_of (x_var (pv 3) rfl)) (w_of (x_str (s := "minus"))) rfl) (ss_one (s_ret (x_bin y_and n_and (w_of (x_un y_neg n_neg (w_of (x_var (pv 5) rfl)))) (w_of (x_var (pv 4) rfl))))) ss_nil)
  (ss_one (s_ret (x_bin y_and n_and (w_of (x_bin y_add n_add (w_of (x_var (pv 5) rfl)) (w_of (x_var (pv 6) rfl)))) (w_of (x_var (pv 4) rfl))))))))))))))))))
theorem S_Row_all_words : FnScope N_Row_all_words ["self", "width", "words"] sc_Row_all_words := ⟨rfl, rfl, rfl, by decide +kernel, rfl, by decide +kernel, by decide +kernel⟩
theorem c_Row_all_words (Y : Fs w K mg) : MethOk P w K mg base 5 "Row" "all_words" 3 m_Row_all_words :=
  meth_def (d := d_Row_all_words) (N := N_Row_all_words) (ps := ["self", "width", "words"]) (p := 3) (m := b_Row_all_words) (k := 4) (ow := ow_Row_all_words) (oN := owS []) (oB := owS []) (Y.def_ 21) (Y.cls 37) (Y.meth 38) S_Row_all_words rfl rfl (by decide) (fun _ _ _ _ _ _ us hl => match us, hl with | [_, _, _], _ => rfl) (fun cdv A outer s H E T => (c_cons (o1 := owS []) (c_if (t_not (t_tst (w_of (x_own1 T (c_is_number Y) (by decide) rfl (xa_cons (x_var (pv 1) rfl) xa_nil))) (by intro _; rfl))) (c_one s_dead3) (c_cut (o1 := owS []) c_nil (owS_le (by decide)) (by decide)))
  (c_cons (o1 := owS []) (c_if (t_not (t_tst (w_of (x_own1 T (c_are_words Y) (by decide) rfl (xa_cons (x_var (pv 2) rfl) (xa_cons (x_var (pv 1) rfl) (xa_cons (x_attr (att_ok (Y.more 4)) (w_of (x_var (pv 0) rfl))) (xa_cons (x_attr (att_ok (Y.more 4)) (w_of (x_var (pv 0) rfl))) xa_nil)))))) (by intro _; rfl))) (c_one s_dead3) (c_cut (o1 := owS []) c_nil (owS_le (by decide)) (by decide)))
  (c_cons (o1 := owS [3]) (c_own (ps_set (i := 3) T.nd rfl (Or.inl rfl) (f_list rfl rfl (Y.free 3) (w_of (x_var (pv 2) rfl)))) rfl (owS_add (by decide)))
  (c_cons (o1 := owS [3]) (s_up (s_for T.po T.calm (i_seq (x_attr (att_ok (Y.more 6)) (w_of (x_var (pv 0) rfl)))) (g_nm (pg_name (i := 4) T.nd rfl (Or.inl rfl)) rfl) (c_one (s_up (s_app1 (i := 3) (pv 3) (x_ownI T (c_deed_word Y) (by decide) rfl (xw_cons (w_of (x_var (pv 4) rfl)) (xw_cons (w_of (x_var (pv 1) rfl)) (xw_cons (x_own (pv 3)) xa_nil)))) rfl) (owS_le (by decide)) (by decide)))) (owS_le (by decide)) (by decide))
  (c_cut (o1 := owS []) (c_one (s_up (s_ret (x_t1 v_tuple n_tuple rfl (Y.free 4) hv_tuple (w_of (x_var (pv 3) rfl)))) (owS_le (by decide)) (by decide))) (owS_le (by decide)) (by decide)))))))
theorem S_Row_write : FnScope N_Row_write ["self", "width", "words"] sc_Row_write := ⟨rfl, rfl, rfl, by decide +kernel, rfl, by decide +kernel, by decide +kernel⟩
theorem c_Row_write (Y : Fs w K mg) : MethOk P w K mg base 6 "Row" "write" 3 m_Row_write :=
  meth_def (d := d_Row_write) (N := N_Row_write) (ps := ["self", "width", "words"]) (p := 3) (m := b_Row_write) (k := 5) (ow := ow_Row_write) (Y.def_ 22) (Y.cls 37) (Y.meth 39) S_Row_write rfl rfl (by decide) (fun _ _ _ _ _ _ us hl => match us, hl with | [_, _, _], _ => rfl) (fun cdv A outer s H E T => (ss_one (s_ret (x_idx (w_of (x_meth (mn := "all_words") rfl T (c_Row_all_words Y) (by decide) (fun _ _ _ _ _ h => h) (x_var (pv 0) rfl) (xa_cons (x_var (pv 1) rfl) (xa_cons (x_var (pv 2) rfl) xa_nil)))) (w_of (x_attr (att_ok (Y.more 7)) (w_of (x_var (pv 0) rfl))))))))
theorem S__law_cell : FnScope N__law_cell ["script", "k"] sc__law_cell := ⟨rfl, rfl, rfl, by decide +kernel, rfl, by decide +kernel, by decide +kernel⟩
theorem c_law_cell (Y : Fs w K mg) : CallOk P w K mg base 1 "_law_cell" d__law_cell ["script", "k"] 2 m_law_cell :=
  def_ok (d := d__law_cell) (N := N__law_cell) (ps := ["script", "k"]) (p := 2) (m := b__law_cell) (k := 0) (ow := ow__law_cell) (Y.def_ 23) (Y.glo 40) S__law_cell rfl rfl (by decide) (fun _ _ _ _ _ _ us hl => match us, hl with | [_, _], _ => rfl) (fun cdv A outer s H E T => (ss_cons (s_if (t_cmp y_lt n_lt b_lt (w_of (x_var (pv 1) rfl)) (w_of (x_b1 v_len n_len rfl (Y.free 1) hv_len (w_of (x_var (pv 0) rfl)))) rfl) (ss_one (s_ret (x_idx (w_of (x_var (pv 0) rfl)) (w_of (x_var (pv 1) rfl))))) ss_nil)
  (ss_cons (s_if (t_cmp y_gt n_gt b_gt (w_of (x_b1 v_len n_len rfl (Y.free 1) hv_len (w_of (x_var (pv 0) rfl)))) (w_of x_int) rfl) (ss_one (s_ret (x_bin y_add n_add (w_of (x_bin y_mod n_mod (w_of (x_t1 v_int n_int rfl (Y.free 2) hv_int (w_of (x_idx (w_of (x_var (pv 0) rfl)) (w_of (x_bin y_mod n_mod (w_of (x_var (pv 1) rfl)) (w_of (x_b1 v_len n_len rfl (Y.free 1) hv_len (w_of (x_var (pv 0) rfl)))))))))) (w_of x_int))) (w_of (x_bin y_mul n_mul (w_of x_int) (w_of (x_var (pv 1) rfl))))))) ss_nil)
  (ss_one (s_ret (x_bin y_add n_add (w_of (x_bin y_mul n_mul (w_of x_int) (w_of (x_var (pv 1) rfl)))) (w_of x_int)))))))
theorem S__law_deed : FnScope N__law_deed ["draws", "ready"] sc__law_deed := ⟨rfl, rfl, rfl, by decide +kernel, rfl, by decide +kernel, by decide +kernel⟩
theorem c_law_deed (Y : Fs w K mg) : CallOk P w K mg base 1 "_law_deed" d__law_deed ["draws", "ready"] 2 m_law_deed :=
  def_ok (d := d__law_deed) (N := N__law_deed) (ps := ["draws", "ready"]) (p := 2) (m := b__law_deed) (k := 0) (ow := ow__law_deed) (Y.def_ 24) (Y.glo 41) S__law_deed rfl rfl (by decide) (fun _ _ _ _ _ _ us hl => match us, hl with | [_, _], _ => rfl) (fun cdv A outer s H E T => (ss_cons (s_set (ps_set (i := 2) T.nd rfl (Or.inl rfl) (e_of (f_lst (xa_cons (x_str (s := "zero")) (xa_cons (x_str (s := "ones")) (xa_cons (x_str (s := "not")) (xa_cons (x_str (s := "and")) (xa_cons (x_str (s := "or")) (xa_cons (x_str (s := "xor")) (xa_cons (x_str (s := "shift")) (xa_cons (x_str (s := "minus")) (xa_cons (x_str (s := "add")) (xa_cons (x_str (s := "sub")) xa_nil))))))))))))) rfl)
  (ss_cons (s_set (ps_set (i := 3) T.nd rfl (Or.inl rfl) (x_bin y_mod n_mod (w_of (x_idx (w_of (x_var (pv 0) rfl)) (w_of x_int))) (w_of (x_var (pv 1) rfl)))) rfl)
  (ss_cons (s_set (ps_set (i := 4) T.nd rfl (Or.inl rfl) (x_bin y_mod n_mod (w_of (x_idx (w_of (x_var (pv 0) rfl)) (w_of x_int))) (w_of (x_var (pv 1) rfl)))) rfl)
  (ss_cons (s_if (t_cmp y_ge n_ge b_ge (w_of (x_idx (w_of (x_var (pv 0) rfl)) (w_of x_int))) (w_of x_int) rfl) (ss_cons (s_set (ps_set (i := 5) T.nd rfl (Or.inl rfl) (x_idx (w_of (e_of (f_lst (xa_cons x_int (xa_cons x_int (xa_cons x_int xa_nil)))))) (w_of (x_idx (w_of (x_var (pv 0) rfl)) (w_of x_int))))) rfl)
  (ss_cons (s_set (ps_set (i := 6) T.nd rfl (Or.inl rfl) (x_tup (xa_cons (x_var (pv 3) rfl) (xa_cons (x_var (pv 4) rfl) (xa_cons (x_bin y_mod n_mod (w_of (x_idx (w_of (x_var (pv 0) rfl)) (w_of x_int))) (w_of (x_var (pv 1) rfl))) (xa_cons (x_var (pv 3) rfl) xa_nil)))))) rfl)
  (ss_one (s_ret (x_tup (xa_cons (x_str (s := "count")) (xa_cons (x_var (pv 5) rfl) (xa_cons (x_bin y_mod n_mod (w_of (x_idx (w_of (x_var (pv 0) rfl)) (w_of x_int))) (w_of (x_var (pv 5) rfl))) (xa_cons (x_slc (w_of (x_var (pv 6) rfl)) o_none (o_some (x_bin y_add n_add (w_of x_int) (w_of (x_idx (w_of (x_var (pv 0) rfl)) (w_of x_int)))))) xa_nil))))))))) ss_nil)
  (ss_cons (s_if (t_cmp y_lt n_lt b_lt (w_of (x_idx (w_of (x_var (pv 0) rfl)) (w_of x_int))) (w_of x_int) rfl) (ss_one (s_ret (x_tup (xa_cons (x_idx (w_of (x_var (pv 2) rfl)) (w_of (x_idx (w_of (x_var (pv 0) rfl)) (w_of x_int)))) xa_nil)))) ss_nil)
  (ss_cons (s_if (t_cmp y_in n_in b_in (w_of (x_idx (w_of (x_var (pv 0) rfl)) (w_of x_int))) (w_of (e_of (f_lst (xa_cons x_int (xa_cons x_int (xa_cons x_int xa_nil)))))) rfl) (ss_one (s_ret (x_tup (xa_cons (x_idx (w_of (x_var (pv 2) rfl)) (w_of (x_idx (w_of (x_var (pv 0) rfl)) (w_of x_int)))) (xa_cons (x_var (pv 3) rfl) xa_nil))))) ss_nil)
  (ss_one (s_ret (x_tup (xa_cons (x_idx (w_of (x_var (pv 2) rfl)) (w_of (x_idx (w_of (x_var (pv 0) rfl)) (w_of x_int)))) (xa_cons (x_var (pv 3) rfl) (xa_cons (x_var (pv 4) rfl) xa_nil)))))))))))))
theorem S__law_mixed : FnScope N__law_mixed ["cell", "k"] sc__law_mixed := ⟨rfl, rfl, rfl, by decide +kernel, rfl, by decide +kernel, by decide +kernel⟩
theorem c_law_mixed (Y : Fs w K mg) : CallOk P w K mg base 1 "_law_mixed" d__law_mixed ["cell", "k"] 2 m_law_mixed :=
  def_ok (d := d__law_mixed) (N := N__law_mixed) (ps := ["cell", "k"]) (p := 2) (m := b__law_mixed) (k := 0) (ow := ow__law_mixed) (Y.def_ 25) (Y.glo 42) S__law_mixed rfl rfl (by decide) (fun _ _ _ _ _ _ us hl => match us, hl with | [_, _], _ => rfl) (fun cdv A outer s H E T => (ss_cons (s_set (ps_set (i := 2) T.nd rfl (Or.inl rfl) (x_bin y_mod n_mod (w_of (x_t1 v_int n_int rfl (Y.free 2) hv_int (w_of (x_bin y_add n_add (w_of (x_bin y_add n_add (w_of (x_bin y_mul n_mul (w_of (x_var (pv 0) rfl)) (w_of x_int))) (w_of (x_bin y_mul n_mul (w_of (x_var (pv 1) rfl)) (w_of x_int))))) (w_of x_int))))) (w_of x_int))) rfl)
  (ss_cons (s_set (ps_set (i := 3) T.nd rfl (Or.inl rfl) (x_bin y_mod n_mod (w_of (x_t1 v_int n_int rfl (Y.free 2) hv_int (w_of (x_bin y_add n_add (w_of (x_bin y_mul n_mul (w_of (x_var (pv 2) rfl)) (w_of (x_var (pv 2) rfl)))) (w_of x_int))))) (w_of x_int))) rfl)
  (ss_one (s_ret (x_bin y_fdiv n_fdiv (w_of (x_bin y_mod n_mod (w_of (x_t1 v_int n_int rfl (Y.free 2) hv_int (w_of (x_bin y_mul n_mul (w_of (x_var (pv 3) rfl)) (w_of (x_bin y_add n_add (w_of (x_bin y_mod n_mod (w_of (x_var (pv 3) rfl)) (w_of x_int))) (w_of x_int))))))) (w_of x_int))) (w_of x_int)))))))
theorem S__law_draws : FnScope N__law_draws ["cell", "sizes"] sc__law_draws := ⟨rfl, rfl, rfl, by decide +kernel, rfl, by decide +kernel, by decide +kernel⟩
theorem c_law_draws (Y : Fs w K mg) : CallOk P w K mg base 2 "_law_draws" d__law_draws ["cell", "sizes"] 2 m_law_draws :=
  def_ok (d := d__law_draws) (N := N__law_draws) (ps := ["cell", "sizes"]) (p := 2) (m := b__law_draws) (k := 1) (ow := ow__law_draws) (oN := owS []) (oB := owS []) (Y.def_ 26) (Y.glo 43) S__law_draws rfl rfl (by decide) (fun _ _ _ _ _ _ us hl => match us, hl with | [_, _], _ => rfl) (fun cdv A outer s H E T => (c_cons (o1 := owS [2]) (c_own (ps_set (i := 2) T.nd rfl (Or.inl rfl) (f_lst xa_nil)) rfl (owS_add (by decide)))
  (c_cons (o1 := owS [2]) (s_up (s_set (ps_set (i := 3) T.nd rfl (Or.inl rfl) (x_var (pv 0) rfl)) rfl) (owS_le (by decide)) (by decide))
  (c_cons (o1 := owS [2]) (s_up (s_for T.po T.calm (i_rng1 rfl (Y.free 0) (x_b1 v_len n_len rfl (Y.free 1) hv_len (w_of (x_var (pv 1) rfl)))) (g_nm (pg_name (i := 4) T.nd rfl (Or.inl rfl)) rfl) (c_one (c_if (PW.pt (t_and (t_cmp y_ge n_ge b_ge (w_of (x_var (pv 0) rfl)) (w_of (x_bin y_pow n_pow (w_of x_int) (w_of x_int))) rfl) (t_and (t_cmp y_lt n_lt b_lt (w_of (x_var (pv 4) rfl)) (w_of x_int) rfl) (t_and1 (t_cmp y_gt n_gt b_gt (w_of (x_var (pv 3) rfl)) (w_of x_int) rfl))))) (c_cons (o1 := owS [2]) (s_up (s_app1 (i := 2) (pv 2) (x_bin y_mod n_mod (w_of (x_t1 v_int n_int rfl (Y.free 2) hv_int (w_of (x_var (pv 3) rfl)))) (w_of (x_idx (w_of (x_var (pv 1) rfl)) (w_of (x_var (pv 4) rfl))))) rfl) (owS_le (by decide)) (by decide))
  (c_one (s_up (s_set (ps_set (i := 3) T.nd rfl (Or.inl rfl) (x_bin y_fdiv n_fdiv (w_of (x_var (pv 3) rfl)) (w_of (x_idx (w_of (x_var (pv 1) rfl)) (w_of (x_var (pv 4) rfl)))))) rfl) (owS_le (by decide)) (by decide)))) (c_one (s_up (s_app1 (i := 2) (pv 2) (x_bin y_mod n_mod (w_of (x_own1 T (c_law_mixed Y) (by decide) rfl (xa_cons (x_var (pv 0) rfl) (xa_cons (x_var (pv 4) rfl) xa_nil)))) (w_of (x_idx (w_of (x_var (pv 1) rfl)) (w_of (x_var (pv 4) rfl))))) rfl) (owS_le (by decide)) (by decide)))))) (owS_le (by decide)) (by decide))
  (c_cut (o1 := owS []) (c_one (s_up (s_ret (x_var (pv 2) rfl)) (owS_le (by decide)) (by decide))) (owS_le (by decide)) (by decide))))))
theorem S__law_integer : FnScope N__law_integer ["actual", "due"] sc__law_integer := ⟨rfl, rfl, rfl, by decide +kernel, rfl, by decide +kernel, by decide +kernel⟩
theorem c_law_integer (Y : Fs w K mg) : CallOk P w K mg base 1 "_law_integer" d__law_integer ["actual", "due"] 2 m_law_integer :=
  def_ok (d := d__law_integer) (N := N__law_integer) (ps := ["actual", "due"]) (p := 2) (m := b__law_integer) (k := 0) (ow := ow__law_integer) (Y.def_ 27) (Y.glo 44) S__law_integer rfl rfl (by decide) (fun _ _ _ _ _ _ us hl => match us, hl with | [_, _], _ => rfl) (fun cdv A outer s H E T => (ss_one (s_ret (x_and (x_isi1 (cs := CS) (t := .int) rfl (kit_of_b (Y.more 3)) rfl (Y.free 5) (w_of (x_var (pv 0) rfl)) (pe_bltn rfl (Y.free 2) hv_int rfl)) (x_and (x_not (x_isi1 (cs := CS) (t := .bl) rfl (kit_of_b (Y.more 3)) rfl (Y.free 5) (w_of (x_var (pv 0) rfl)) (pe_bltn rfl (Y.free 6) hv_bool rfl))) (x_one (x_cmp T.eq n_eq (w_of (x_var (pv 0) rfl)) (w_of (x_var (pv 1) rfl)) rfl)))))))
theorem S__law_low_too : FnScope N__law_low_too ["wide_ones", "low_ones", "low"] sc__law_low_too := ⟨rfl, rfl, rfl, by decide +kernel, rfl, by decide +kernel, by decide +kernel⟩
theorem c_law_low_too (Y : Fs w K mg) : CallOk P w K mg base 1 "_law_low_too" d__law_low_too ["wide_ones", "low_ones", "low"] 3 m_law_low_too :=
  def_ok (d := d__law_low_too) (N := N__law_low_too) (ps := ["wide_ones", "low_ones", "low"]) (p := 3) (m := b__law_low_too) (k := 0) (ow := ow__law_low_too) (Y.def_ 28) (Y.glo 45) S__law_low_too rfl rfl (by decide) (fun _ _ _ _ _ _ us hl => match us, hl with | [_, _, _], _ => rfl) (fun cdv A outer s H E T => (ss_cons (s_for T.po T.calm (i_rng1 rfl (Y.free 0) (x_b1 v_len n_len rfl (Y.free 1) hv_len (w_of (x_var (pv 0) rfl)))) (g_nm (pg_name (i := 3) T.nd rfl (Or.inl rfl)) rfl) (ss_one (s_if (t_cmp T.ne n_ne b_ne (w_of (x_bin y_mod n_mod (w_of (x_t1 v_int n_int rfl (Y.free 2) hv_int (w_of (x_idx (w_of (x_var (pv 0) rfl)) (w_of (x_var (pv 3) rfl)))))) (w_of (x_bin y_shl n_shl (w_of x_int) (w_of (x_var (pv 2) rfl)))))) (w_of (x_idx (w_of (x_var (pv 1) rfl)) (w_of (x_var (pv 3) rfl)))) rfl) (ss_one (s_ret x_bl)) ss_nil)))
  (ss_one (s_ret x_bl))))
theorem S__law_number : FnScope N__law_number ["nexts", "outs", "width", "chosen"] sc__law_number := ⟨rfl, rfl, rfl, by decide +kernel, rfl, by decide +kernel, by decide +kernel⟩
theorem c_law_number (Y : Fs w K mg) : CallOk P w K mg base 1 "_law_number" d__law_number ["nexts", "outs", "width", "chosen"] 4 m_law_number :=
  def_ok (d := d__law_number) (N := N__law_number) (ps := ["nexts", "outs", "width", "chosen"]) (p := 4) (m := b__law_number) (k := 0) (ow := ow__law_number) (Y.def_ 29) (Y.glo 46) S__law_number rfl rfl (by decide) (fun _ _ _ _ _ _ us hl => match us, hl with | [_, _, _, _], _ => rfl) (fun cdv A outer s H E T => (ss_cons (s_set (ps_set (i := 4) T.nd rfl (Or.inl rfl) x_int) rfl)
  (ss_cons (s_set (ps_set (i := 5) T.nd rfl (Or.inl rfl) x_int) rfl)
  (ss_cons (s_for T.po T.calm (i_rng1 rfl (Y.free 0) (x_var (pv 2) rfl)) (g_nm (pg_name (i := 6) T.nd rfl (Or.inl rfl)) rfl) (ss_cons (s_set (ps_set (i := 7) T.nd rfl (Or.inl rfl) x_int) rfl)
  (ss_cons (s_for T.po T.calm (i_rng1 rfl (Y.free 0) (x_b1 v_len n_len rfl (Y.free 1) hv_len (w_of (x_var (pv 3) rfl)))) (g_nm (pg_name (i := 8) T.nd rfl (Or.inl rfl)) rfl) (ss_one (s_set (ps_set (i := 7) T.nd rfl (Or.inl rfl) (x_bin y_add n_add (w_of (x_var (pv 7) rfl)) (w_of (x_bin y_shl n_shl (w_of (x_bin y_and n_and (w_of (x_bin y_shr n_shr (w_of (x_idx (w_of (x_var (pv 3) rfl)) (w_of (x_var (pv 8) rfl)))) (w_of (x_var (pv 6) rfl)))) (w_of x_int))) (w_of (x_var (pv 8) rfl)))))) rfl)))
  (ss_cons (s_set (ps_set (i := 4) T.nd rfl (Or.inl rfl) (x_bin y_add n_add (w_of (x_var (pv 4) rfl)) (w_of (x_bin y_shl n_shl (w_of (x_idx (w_of (x_idx (w_of (x_var (pv 1) rfl)) (w_of (x_var (pv 5) rfl)))) (w_of (x_var (pv 7) rfl)))) (w_of (x_var (pv 6) rfl)))))) rfl)
  (ss_one (s_set (ps_set (i := 5) T.nd rfl (Or.inl rfl) (x_idx (w_of (x_idx (w_of (x_var (pv 0) rfl)) (w_of (x_var (pv 5) rfl)))) (w_of (x_var (pv 7) rfl)))) rfl))))))
  (ss_one (s_ret (x_var (pv 4) rfl)))))))
theorem S__law_count : FnScope N__law_count ["deed", "numbers", "width"] sc__law_count := ⟨rfl, rfl, rfl, by decide +kernel, rfl, by decide +kernel, by decide +kernel⟩
theorem c_law_count (Y : Fs w K mg) : CallOk P w K mg base 1 "_law_count" d__law_count ["deed", "numbers", "width"] 3 m_law_count :=
  def_ok (d := d__law_count) (N := N__law_count) (ps := ["deed", "numbers", "width"]) (p := 3) (m := b__law_count) (k := 0) (ow := ow__law_count) (Y.def_ 30) (Y.glo 47) S__law_count rfl rfl (by decide) (fun _ _ _ _ _ _ us hl => match us, hl with | [_, _, _], _ => rfl) (fun cdv A outer s H E T => (ss_cons (s_set (ps_set (i := 3) T.nd rfl (Or.inl rfl) x_int) rfl)
  (ss_cons (s_set (ps_set (i := 4) T.nd rfl (Or.inl rfl) x_int) rfl)
  (ss_cons (s_for T.po T.calm (i_rng1 rfl (Y.free 0) (x_var (pv 2) rfl)) (g_nm (pg_name (i := 5) T.nd rfl (Or.inl rfl)) rfl) (ss_cons (s_if (t_cmp T.eq n_eq b_eq (w_of (x_bin y_mod n_mod (w_of (x_t1 v_int n_int rfl (Y.free 2) hv_int (w_of (x_var (pv 4) rfl)))) (w_of (x_idx (w_of (x_var (pv 0) rfl)) (w_of x_int))))) (w_of (x_idx (w_of (x_var (pv 0) rfl)) (w_of x_int))) rfl) (ss_one (s_set (ps_set (i := 3) T.nd rfl (Or.inl rfl) (x_bin y_add n_add (w_of (x_var (pv 3) rfl)) (w_of (x_bin y_shl n_shl (w_of x_int) (w_of (x_var (pv 5) rfl)))))) rfl)) ss_nil)
  (ss_one (s_for T.po T.calm (i_seq (x_idx (w_of (x_var (pv 0) rfl)) (w_of x_int))) (g_nm (pg_name (i := 6) T.nd rfl (Or.inl rfl)) rfl) (ss_one (s_set (ps_set (i := 4) T.nd rfl (Or.inl rfl) (x_bin y_add n_add (w_of (x_var (pv 4) rfl)) (w_of (x_bin y_and n_and (w_of (x_bin y_shr n_shr (w_of (x_idx (w_of (x_var (pv 1) rfl)) (w_of (x_var (pv 6) rfl)))) (w_of (x_var (pv 5) rfl)))) (w_of x_int))))) rfl))))))
  (ss_one (s_ret (x_var (pv 3) rfl)))))))
theorem S__law_value : FnScope N__law_value ["deed", "numbers", "width"] sc__law_value := ⟨rfl, rfl, rfl, by decide +kernel, rfl, by decide +kernel, by decide +kernel⟩
theorem c_law_value (Y : Fs w K mg) : CallOk P w K mg base 2 "_law_value" d__law_value ["deed", "numbers", "width"] 3 m_law_value :=
  def_ok (d := d__law_value) (N := N__law_value) (ps := ["deed", "numbers", "width"]) (p := 3) (m := b__law_value) (k := 1) (ow := ow__law_value) (Y.def_ 31) (Y.glo 48) S__law_value rfl rfl (by decide) (fun _ _ _ _ _ _ us hl => match us, hl with | [_, _, _], _ => rfl) (fun cdv A outer s H E T => (ss_cons (s_set (ps_set (i := 3) T.nd rfl (Or.inl rfl) (x_bin y_shl n_shl (w_of x_int) (w_of (x_var (pv 2) rfl)))) rfl)
  (ss_cons (s_if (t_cmp T.eq n_eq b_eq (w_of (x_idx (w_of (x_var (pv 0) rfl)) (w_of x_int))) (w_of (x_str (s := "count"))) rfl) (ss_one (s_ret (x_own1 T (c_law_count Y) (by decide) rfl (xa_cons (x_var (pv 0) rfl) (xa_cons (x_var (pv 1) rfl) (xa_cons (x_var (pv 2) rfl) xa_nil)))))) ss_nil)
  (ss_cons (s_if (t_cmp T.eq n_eq b_eq (w_of (x_idx (w_of (x_var (pv 0) rfl)) (w_of x_int))) (w_of (x_str (s := "zero"))) rfl) (ss_one (s_ret x_int)) ss_nil)
  (ss_cons (s_if (t_cmp T.eq n_eq b_eq (w_of (x_idx (w_of (x_var (pv 0) rfl)) (w_of x_int))) (w_of (x_str (s := "ones"))) rfl) (ss_one (s_ret (x_bin y_sub n_sub (w_of (x_var (pv 3) rfl)) (w_of x_int)))) ss_nil)
  (ss_cons (s_set (ps_set (i := 4) T.nd rfl (Or.inl rfl) (x_idx (w_of (x_var (pv 1) rfl)) (w_of (x_idx (w_of (x_var (pv 0) rfl)) (w_of x_int))))) rfl)
  (ss_cons (s_if (t_cmp T.eq n_eq b_eq (w_of (x_idx (w_of (x_var (pv 0) rfl)) (w_of x_int))) (w_of (x_str (s := "not"))) rfl) (ss_one (s_ret (x_bin y_sub n_sub (w_of (x_bin y_sub n_sub (w_of (x_var (pv 3) rfl)) (w_of x_int))) (w_of (x_var (pv 4) rfl))))) ss_nil)
  (ss_cons (s_if (t_cmp T.eq n_eq b_eq (w_of (x_idx (w_of (x_var (pv 0) rfl)) (w_of x_int))) (w_of (x_str (s := "shift"))) rfl) (ss_one (s_ret (x_bin y_mod n_mod (w_of (x_t1 v_int n_int rfl (Y.free 2) hv_int (w_of (x_bin y_mul n_mul (w_of x_int) (w_of (x_var (pv 4) rfl)))))) (w_of (x_var (pv 3) rfl))))) ss_nil)
  (ss_cons (s_if (t_cmp T.eq n_eq b_eq (w_of (x_idx (w_of (x_var (pv 0) rfl)) (w_of x_int))) (w_of (x_str (s := "minus"))) rfl) (ss_one (s_ret (x_bin y_mod n_mod (w_of (x_t1 v_int n_int rfl (Y.free 2) hv_int (w_of (x_bin y_sub n_sub (w_of (x_var (pv 3) rfl)) (w_of (x_var (pv 4) rfl)))))) (w_of (x_var (pv 3) rfl))))) ss_nil)
  (ss_cons (s_set (ps_set (i := 5) T.nd rfl (Or.inl rfl) (x_idx (w_of (x_var (pv 1) rfl)) (w_of (x_idx (w_of (x_var (pv 0) rfl)) (w_of x_int))))) rfl)
  (ss_cons (s_if (t_cmp T.eq n_eq b_eq (w_of (x_idx (w_of (x_var (pv 0) rfl)) (w_of x_int))) (w_of (x_str (s := "and"))) rfl) (ss_one (s_ret (x_bin y_and n_and (w_of (x_var (pv 4) rfl)) (w_of (x_var (pv 5) rfl))))) ss_nil)
  (ss_cons (s_if (t_cmp T.eq n_eq b_eq (w_of (x_idx (w_of (x_var (pv 0) rfl)) (w_of x_int))) (w_of (x_str (s := "or"))) rfl) (ss_one (s_ret (x_bin y_or n_or (w_of (x_var (pv 4) rfl)) (w_of (x_var (pv 5) rfl))))) ss_nil)
  (ss_cons (s_if (t_cmp T.eq n_eq b_eq (w_of (x_idx (w_of (x_var (pv 0) rfl)) (w_of x_int))) (w_of (x_str (s := "xor"))) rfl) (ss_one (s_ret (x_bin y_xor n_xor (w_of (x_var (pv 4) rfl)) (w_of (x_var (pv 5) rfl))))) ss_nil)
  (ss_cons (s_if (t_cmp T.eq n_eq b_eq (w_of (x_idx (w_of (x_var (pv 0) rfl)) (w_of x_int))) (w_of (x_str (s := "add"))) rfl) (ss_one (s_ret (x_bin y_mod n_mod (w_of (x_t1 v_int n_int rfl (Y.free 2) hv_int (w_of (x_bin y_add n_add (w_of (x_var (pv 4) rfl)) (w_of (x_var (pv 5) rfl)))))) (w_of (x_var (pv 3) rfl))))) ss_nil)
  (ss_one (s_ret (x_bin y_mod n_mod (w_of (x_t1 v_int n_int rfl (Y.free 2) hv_int (w_of (x_bin y_sub n_sub (w_of (x_var (pv 4) rfl)) (w_of (x_var (pv 5) rfl)))))) (w_of (x_var (pv 3) rfl)))))))))))))))))))
theorem S__law_numbers : FnScope N__law_numbers ["deeds", "width", "chosen"] sc__law_numbers := ⟨rfl, rfl, rfl, by decide +kernel, rfl, by decide +kernel, by decide +kernel⟩
theorem c_law_numbers (Y : Fs w K mg) : CallOk P w K mg base 3 "_law_numbers" d__law_numbers ["deeds", "width", "chosen"] 3 m_law_numbers :=
  def_ok (d := d__law_numbers) (N := N__law_numbers) (ps := ["deeds", "width", "chosen"]) (p := 3) (m := b__law_numbers) (k := 2) (ow := ow__law_numbers) (oN := owS []) (oB := owS []) (Y.def_ 32) (Y.glo 49) S__law_numbers rfl rfl (by decide) (fun _ _ _ _ _ _ us hl => match us, hl with | [_, _, _], _ => rfl) (fun cdv A outer s H E T => (c_cons (o1 := owS [3]) (c_own (ps_set (i := 3) T.nd rfl (Or.inl rfl) (f_list rfl rfl (Y.free 3) (w_of (x_var (pv 2) rfl)))) rfl (owS_add (by decide)))
  (c_cons (o1 := owS [3]) (s_up (s_for T.po T.calm (i_seq (x_var (pv 0) rfl)) (g_nm (pg_name (i := 4) T.nd rfl (Or.inl rfl)) rfl) (c_one (s_up (s_app1 (i := 3) (pv 3) (x_ownI T (c_law_value Y) (by decide) rfl (xw_cons (w_of (x_var (pv 4) rfl)) (xw_cons (x_own (pv 3)) (xw_cons (w_of (x_var (pv 1) rfl)) xa_nil)))) rfl) (owS_le (by decide)) (by decide)))) (owS_le (by decide)) (by decide))
  (c_cut (o1 := owS []) (c_one (s_up (s_ret (x_var (pv 3) rfl)) (owS_le (by decide)) (by decide))) (owS_le (by decide)) (by decide)))))
theorem S__law_same : FnScope N__law_same ["actual", "due"] sc__law_same := ⟨rfl, rfl, rfl, by decide +kernel, rfl, by decide +kernel, by decide +kernel⟩
theorem c_law_same (Y : Fs w K mg) : CallOk P w K mg base 2 "_law_same" d__law_same ["actual", "due"] 2 m_law_same :=
  def_ok (d := d__law_same) (N := N__law_same) (ps := ["actual", "due"]) (p := 2) (m := b__law_same) (k := 1) (ow := ow__law_same) (Y.def_ 33) (Y.glo 50) S__law_same rfl rfl (by decide) (fun _ _ _ _ _ _ us hl => match us, hl with | [_, _], _ => rfl) (fun cdv A outer s H E T => (ss_cons (s_if (PW.pt (t_or (t_not (t_tst (w_of (x_isi1 (cs := CS) (t := .tup) rfl (kit_of_b (Y.more 3)) rfl (Y.free 5) (w_of (x_var (pv 0) rfl)) (pe_bltn rfl (Y.free 4) hv_tuple rfl))) (by intro _; rfl))) (t_or1 (t_cmp T.ne n_ne b_ne (w_of (x_b1 v_len n_len rfl (Y.free 1) hv_len (w_of (x_var (pv 0) rfl)))) (w_of (x_b1 v_len n_len rfl (Y.free 1) hv_len (w_of (x_var (pv 1) rfl)))) rfl)))) (ss_one (s_ret x_bl)) ss_nil)
  (ss_cons (s_for T.po T.calm (i_rng1 rfl (Y.free 0) (x_b1 v_len n_len rfl (Y.free 1) hv_len (w_of (x_var (pv 1) rfl)))) (g_nm (pg_name (i := 2) T.nd rfl (Or.inl rfl)) rfl) (ss_one (s_if (t_not (t_tst (w_of (x_own1 T (c_law_integer Y) (by decide) rfl (xa_cons (x_idx (w_of (x_var (pv 0) rfl)) (w_of (x_var (pv 2) rfl))) (xa_cons (x_idx (w_of (x_var (pv 1) rfl)) (w_of (x_var (pv 2) rfl))) xa_nil)))) (by intro _; rfl))) (ss_one (s_ret x_bl)) ss_nil)))
  (ss_one (s_ret x_bl)))))
theorem S__law_table : FnScope N__law_table ["cell", "states", "wide", "top"] sc__law_table := ⟨rfl, rfl, rfl, by decide +kernel, rfl, by decide +kernel, by decide +kernel⟩
theorem c_law_table (Y : Fs w K mg) : CallOk P w K mg base 3 "_law_table" d__law_table ["cell", "states", "wide", "top"] 4 m_law_table :=
  def_ok (d := d__law_table) (N := N__law_table) (ps := ["cell", "states", "wide", "top"]) (p := 4) (m := b__law_table) (k := 2) (ow := ow__law_table) (Y.def_ 34) (Y.glo 51) S__law_table rfl rfl (by decide) (fun _ _ _ _ _ _ us hl => match us, hl with | [_, _, _, _], _ => rfl) (fun cdv A outer s H E T => (ss_cons (s_set (ps_set (i := 4) T.nd rfl (Or.inr rfl) (x_own1 T (c_law_draws Y) (by decide) rfl (xa_cons (x_var (pv 0) rfl) (xa_cons (e_of (f_rep (f_lst (xa_cons (x_var (pv 3) rfl) xa_nil)) (w_of (x_bin y_mul n_mul (w_of (x_var (pv 1) rfl)) (w_of (x_var (pv 2) rfl)))))) xa_nil)))) rfl)
  (ss_one (s_ret (e_of (f_lc (own := [("s", 5)]) T (i_gr (i_rng1 rfl (Y.free 0) (x_var (pv 1) rfl))) (blkOk_by (N := N__law_table) (sc := sc__law_table) (own := [("s", 5)]) (by decide +kernel)) (fun _ _ _ _ _ T1 => (g_nm (pg_name (i := 5) T1.nd rfl (Or.inl rfl)) rfl)) (fun _ _ _ _ _ T1 => ts_nil) (fun _ _ _ _ _ T1 => (x_t1 v_tuple n_tuple rfl (Y.free 4) hv_tuple (w_of (x_slc (w_of (x_var (pv 4) rfl)) (o_some (x_bin y_mul n_mul (w_of (x_var (pv 5) rfl)) (w_of (x_var (pv 2) rfl)))) (o_some (x_bin y_mul n_mul (w_of (x_bin y_add n_add (w_of (x_var (pv 5) rfl)) (w_of x_int))) (w_of (x_var (pv 2) rfl)))))))) (by decide)))))))
theorem S__law_word : FnScope N__law_word ["cell", "width"] sc__law_word := ⟨rfl, rfl, rfl, by decide +kernel, rfl, by decide +kernel, by decide +kernel⟩
theorem c_law_word (Y : Fs w K mg) : CallOk P w K mg base 2 "_law_word" d__law_word ["cell", "width"] 2 m_law_word :=
  def_ok (d := d__law_word) (N := N__law_word) (ps := ["cell", "width"]) (p := 2) (m := b__law_word) (k := 1) (ow := ow__law_word) (Y.def_ 35) (Y.glo 52) S__law_word rfl rfl (by decide) (fun _ _ _ _ _ _ us hl => match us, hl with | [_, _], _ => rfl) (fun cdv A outer s H E T => (ss_cons (s_if (t_cmp y_ge n_ge b_ge (w_of (x_var (pv 0) rfl)) (w_of (x_bin y_pow n_pow (w_of x_int) (w_of x_int))) rfl) (ss_one (s_ret (x_bin y_mod n_mod (w_of (x_t1 v_int n_int rfl (Y.free 2) hv_int (w_of (x_var (pv 0) rfl)))) (w_of (x_bin y_shl n_shl (w_of x_int) (w_of (x_var (pv 1) rfl))))))) ss_nil)
  (ss_cons (s_set (ps_set (i := 2) T.nd rfl (Or.inl rfl) x_int) rfl)
  (ss_cons (s_for T.po T.calm (i_rng1 rfl (Y.free 0) x_int) (g_nm (pg_name (i := 3) T.nd rfl (Or.inl rfl)) rfl) (ss_one (s_set (ps_set (i := 2) T.nd rfl (Or.inl rfl) (x_bin y_add n_add (w_of (x_bin y_mul n_mul (w_of (x_var (pv 2) rfl)) (w_of x_int))) (w_of (x_bin y_mod n_mod (w_of (x_own1 T (c_law_mixed Y) (by decide) rfl (xa_cons (x_var (pv 0) rfl) (xa_cons (x_var (pv 3) rfl) xa_nil)))) (w_of x_int))))) rfl)))
  (ss_cons (s_set (ps_set (i := 4) T.nd rfl (Or.inl rfl) (x_bin y_mod n_mod (w_of (x_own1 T (c_law_mixed Y) (by decide) rfl (xa_cons (x_var (pv 0) rfl) (xa_cons x_int xa_nil)))) (w_of x_int))) rfl)
  (ss_cons (s_if (t_cmp T.eq n_eq b_eq (w_of (x_var (pv 4) rfl)) (w_of x_int) rfl) (ss_one (s_set (ps_set (i := 2) T.nd rfl (Or.inl rfl) x_int) rfl)) ss_nil)
  (ss_cons (s_if (t_cmp T.eq n_eq b_eq (w_of (x_var (pv 4) rfl)) (w_of x_int) rfl) (ss_one (s_set (ps_set (i := 2) T.nd rfl (Or.inl rfl) (x_bin y_sub n_sub (w_of (x_bin y_shl n_shl (w_of x_int) (w_of x_int))) (w_of x_int))) rfl)) ss_nil)
  (ss_cons (s_if (t_cmp T.eq n_eq b_eq (w_of (x_var (pv 4) rfl)) (w_of x_int) rfl) (ss_one (s_set (ps_set (i := 2) T.nd rfl (Or.inl rfl) (x_bin y_shl n_shl (w_of x_int) (w_of (x_bin y_mod n_mod (w_of (x_own1 T (c_law_mixed Y) (by decide) rfl (xa_cons (x_var (pv 0) rfl) (xa_cons x_int xa_nil)))) (w_of x_int))))) rfl)) ss_nil)
  (ss_one (s_ret (x_bin y_mod n_mod (w_of (x_t1 v_int n_int rfl (Y.free 2) hv_int (w_of (x_var (pv 2) rfl)))) (w_of (x_bin y_shl n_shl (w_of x_int) (w_of (x_var (pv 1) rfl)))))))))))))))
theorem S__law_holds : FnScope N__law_holds ["script"] sc__law_holds := ⟨rfl, rfl, rfl, by decide +kernel, rfl, by decide +kernel, by decide +kernel⟩
theorem c_law_holds (Y : Fs w K mg) : CallOk P w K mg base 8 "_law_holds" d__law_holds ["script"] 1 m_law_holds :=
  def_ok (d := d__law_holds) (N := N__law_holds) (ps := ["script"]) (p := 1) (m := b__law_holds) (k := 7) (ow := ow__law_holds) (oN := owS []) (oB := owS []) (Y.def_ 36) (Y.glo 53) S__law_holds rfl rfl (by decide) (fun _ _ _ _ _ _ us hl => match us, hl with | [_], _ => rfl) (fun cdv A outer s H E T => (c_cons (o1 := owS []) (s_up (s_set (ps_set (i := 1) T.nd rfl (Or.inl rfl) (x_own1 T (c_law_draws Y) (by decide) rfl (xa_cons (x_own1 T (c_law_cell Y) (by decide) rfl (xa_cons (x_var (pv 0) rfl) (xa_cons x_int xa_nil))) (xa_cons (e_of (f_lst (xa_cons x_int (xa_cons x_int (xa_cons x_int (xa_cons x_int (xa_cons x_int (xa_cons x_int (xa_cons x_int (xa_cons x_int (xa_cons x_int xa_nil))))))))))) xa_nil)))) rfl) (owS_le (by decide)) (by decide))
  (c_cons (o1 := owS []) (s_up (s_set (ps_set (i := 2) T.nd rfl (Or.inl rfl) (x_bin y_add n_add (w_of x_int) (w_of (x_idx (w_of (x_var (pv 1) rfl)) (w_of x_int))))) rfl) (owS_le (by decide)) (by decide))
  (c_cons (o1 := owS []) (s_up (s_set (ps_set (i := 3) T.nd rfl (Or.inr rfl) (x_idx (w_of (x_var (pv 1) rfl)) (w_of x_int))) rfl) (owS_le (by decide)) (by decide))
  (c_cons (o1 := owS []) (c_if (t_cmp T.eq n_eq b_eq (w_of (x_idx (w_of (x_var (pv 1) rfl)) (w_of x_int))) (w_of x_int) rfl) (c_one (s_up (s_set (ps_set (i := 3) T.nd rfl (Or.inr rfl) (x_idx (w_of (e_of (f_lst (xa_cons x_int (xa_cons x_int (xa_cons x_int xa_nil)))))) (w_of (x_idx (w_of (x_var (pv 1) rfl)) (w_of x_int))))) rfl) (owS_le (by decide)) (by decide))) (c_cut (o1 := owS []) c_nil (owS_le (by decide)) (by decide)))
  (c_cons (o1 := owS []) (s_up (s_set (ps_set (i := 4) T.nd rfl (Or.inr rfl) (x_bin y_mod n_mod (w_of (x_idx (w_of (x_var (pv 1) rfl)) (w_of x_int))) (w_of (x_bin y_add n_add (w_of (x_var (pv 3) rfl)) (w_of x_int))))) rfl) (owS_le (by decide)) (by decide))
  (c_cons (o1 := owS [5]) (c_own (ps_set (i := 5) T.nd rfl (Or.inl rfl) (f_lst xa_nil)) rfl (owS_add (by decide)))
  (c_cons (o1 := owS [5]) (s_up (s_for T.po T.calm (i_rng1 rfl (Y.free 0) (x_idx (w_of (x_var (pv 1) rfl)) (w_of x_int))) (g_nm (pg_name (i := 6) T.nd rfl (Or.inl rfl)) rfl) (c_one (s_up (s_app1 (i := 5) (pv 5) (x_own1 T (c_law_deed Y) (by decide) rfl (xa_cons (x_own1 T (c_law_draws Y) (by decide) rfl (xa_cons (x_own1 T (c_law_cell Y) (by decide) rfl (xa_cons (x_var (pv 0) rfl) (xa_cons (x_bin y_add n_add (w_of x_int) (w_of (x_var (pv 6) rfl))) xa_nil))) (xa_cons (e_of (f_lst (xa_cons x_int (xa_cons x_int (xa_cons x_int (xa_cons x_int (xa_cons x_int (xa_cons x_int (xa_cons x_int xa_nil))))))))) xa_nil))) (xa_cons (x_bin y_add n_add (w_of (x_var (pv 2) rfl)) (w_of (x_var (pv 6) rfl))) xa_nil))) rfl) (owS_le (by decide)) (by decide)))) (owS_le (by decide)) (by decide))
  (c_cut (o1 := owS []) (c_cons (o1 := owS []) (s_up (s_set (ps_set (i := 7) T.nd rfl (Or.inl rfl) (x_bin y_mod n_mod (w_of (x_idx (w_of (x_var (pv 1) rfl)) (w_of x_int))) (w_of (x_bin y_add n_add (w_of (x_var (pv 2) rfl)) (w_of (x_b1 v_len n_len rfl (Y.free 1) hv_len (w_of (x_var (pv 5) rfl)))))))) rfl) (owS_le (by decide)) (by decide))
  (c_cons (o1 := owS []) (c_if (t_cmp y_gt n_gt b_gt (w_of (x_idx (w_of (x_var (pv 1) rfl)) (w_of x_int))) (w_of x_int) rfl) (c_one (s_up (s_set (ps_set (i := 7) T.nd rfl (Or.inl rfl) (x_bin y_sub n_sub (w_of (x_bin y_add n_add (w_of (x_var (pv 2) rfl)) (w_of (x_b1 v_len n_len rfl (Y.free 1) hv_len (w_of (x_var (pv 5) rfl)))))) (w_of x_int))) rfl) (owS_le (by decide)) (by decide))) (c_cut (o1 := owS []) c_nil (owS_le (by decide)) (by decide)))
  (c_cons (o1 := owS []) (s_up (s_set (ps_set (i := 8) T.nd rfl (Or.inl rfl) (x_bin y_add n_add (w_of x_int) (w_of (x_idx (w_of (x_var (pv 1) rfl)) (w_of x_int))))) rfl) (owS_le (by decide)) (by decide))
  (c_cons (o1 := owS []) (s_up (s_set (ps_set (i := 9) T.nd rfl (Or.inl rfl) (x_own1 T (c_law_table Y) (by decide) rfl (xa_cons (x_own1 T (c_law_cell Y) (by decide) rfl (xa_cons (x_var (pv 0) rfl) (xa_cons x_int xa_nil))) (xa_cons (x_var (pv 8) rfl) (xa_cons (x_bin y_shl n_shl (w_of x_int) (w_of (x_var (pv 2) rfl))) (xa_cons (x_var (pv 8) rfl) xa_nil)))))) rfl) (owS_le (by decide)) (by decide))
  (c_cons (o1 := owS []) (s_up (s_set (ps_set (i := 10) T.nd rfl (Or.inl rfl) (x_own1 T (c_law_table Y) (by decide) rfl (xa_cons (x_own1 T (c_law_cell Y) (by decide) rfl (xa_cons (x_var (pv 0) rfl) (xa_cons x_int xa_nil))) (xa_cons (x_var (pv 8) rfl) (xa_cons (x_bin y_shl n_shl (w_of x_int) (w_of (x_var (pv 2) rfl))) (xa_cons x_int xa_nil)))))) rfl) (owS_le (by decide)) (by decide))
  (c_cons (o1 := owS []) (s_up (s_set (s_f (s_lc0 (i := 11) (own := [("k", 21)]) T rfl rfl rfl (i_gr (i_rng1 rfl (Y.free 0) (x_var (pv 2) rfl))) (blkOk_by (N := N__law_holds) (sc := sc__law_holds) (own := [("k", 21)]) (by decide +kernel)) (fun _ _ _ _ _ T1 => (g_nm (pg_name (i := 21) T1.nd rfl (Or.inl rfl)) rfl)) (fun _ _ _ _ _ T1 => ts_nil) (fun _ _ _ _ _ T1 => (x_own1 T1 (c_law_word Y) (by decide) rfl (xa_cons (x_own1 T1 (c_law_cell Y) (by decide) rfl (xa_cons (x_var (pv 0) rfl) (xa_cons (x_bin y_add n_add (w_of x_int) (w_of (x_var (pv 21) rfl))) xa_nil))) (xa_cons (x_var (pv 3) rfl) xa_nil)))) (by decide))) rfl) (owS_le (by decide)) (by decide))
  (c_cons (o1 := owS []) (s_up (s_set (s_f (s_lc0 (i := 12) (own := [("number", 22)]) T rfl rfl rfl (i_gr (i_seq (x_var (pv 11) rfl))) (blkOk_by (N := N__law_holds) (sc := sc__law_holds) (own := [("number", 22)]) (by decide +kernel)) (fun _ _ _ _ _ T2 => (g_nm (pg_name (i := 22) T2.nd rfl (Or.inl rfl)) rfl)) (fun _ _ _ _ _ T2 => ts_nil) (fun _ _ _ _ _ T2 => (x_bin y_mod n_mod (w_of (x_t1 v_int n_int rfl (Y.free 2) hv_int (w_of (x_var (pv 22) rfl)))) (w_of (x_bin y_shl n_shl (w_of x_int) (w_of (x_var (pv 4) rfl)))))) (by decide))) rfl) (owS_le (by decide)) (by decide))
  (c_cons (o1 := owS []) (s_up (s_set (ps_set (i := 13) T.nd rfl (Or.inl rfl) (x_own1 T (c_law_numbers Y) (by decide) rfl (xa_cons (x_var (pv 5) rfl) (xa_cons (x_var (pv 3) rfl) (xa_cons (x_var (pv 11) rfl) xa_nil))))) rfl) (owS_le (by decide)) (by decide))
  (c_cons (o1 := owS []) (s_up (s_set (ps_set (i := 14) T.nd rfl (Or.inl rfl) (x_own1 T (c_law_numbers Y) (by decide) rfl (xa_cons (x_var (pv 5) rfl) (xa_cons (x_var (pv 4) rfl) (xa_cons (x_var (pv 12) rfl) xa_nil))))) rfl) (owS_le (by decide)) (by decide))
  (c_cons (o1 := owS []) (s_up (s_set (ps_set (i := 15) T.nd rfl (Or.inl rfl) (x_own1 T (c_law_number Y) (by decide) rfl (xa_cons (x_var (pv 9) rfl) (xa_cons (x_var (pv 10) rfl) (xa_cons (x_var (pv 3) rfl) (xa_cons (x_var (pv 11) rfl) xa_nil)))))) rfl) (owS_le (by decide)) (by decide))
  (c_cons (o1 := owS []) (s_up (s_set (ps_set (i := 16) T.nd rfl (Or.inl rfl) (x_own1 T (c_law_number Y) (by decide) rfl (xa_cons (x_var (pv 9) rfl) (xa_cons (x_var (pv 10) rfl) (xa_cons (x_var (pv 4) rfl) (xa_cons (x_var (pv 12) rfl) xa_nil)))))) rfl) (owS_le (by decide)) (by decide))
  (c_cons (o1 := owS []) (c_if (t_not (t_tst (w_of (x_own1 T (c_law_low_too Y) (by decide) rfl (xa_cons (x_bin y_add n_add (w_of (x_var (pv 13) rfl)) (w_of (e_of (f_lst (xa_cons (x_var (pv 15) rfl) xa_nil))))) (xa_cons (x_bin y_add n_add (w_of (x_var (pv 14) rfl)) (w_of (e_of (f_lst (xa_cons (x_var (pv 16) rfl) xa_nil))))) (xa_cons (x_var (pv 4) rfl) xa_nil))))) (by intro _; rfl))) (c_one (s_up (s_ret x_bl) (owS_le (by decide)) (by decide))) (c_cut (o1 := owS []) c_nil (owS_le (by decide)) (by decide)))
  (c_cons (o1 := owS []) (s_up (s_set (ps_set (i := 17) T.nd rfl (Or.inl rfl) (x_new (cls := "Row") T (fun _ _ _ _ _ h => h) (c_Row Y) (by decide) rfl (xa_cons (x_var (pv 2) rfl) (xa_cons (e_of (f_list rfl rfl (Y.free 3) (w_of (x_var (pv 5) rfl)))) (xa_cons (x_var (pv 7) rfl) xa_nil))))) rfl) (owS_le (by decide)) (by decide))
  (c_cons (o1 := owS []) (s_up (s_set (ps_set (i := 18) T.nd rfl (Or.inl rfl) (x_new (cls := "Machine") T (fun _ _ _ _ _ h => h) (c_Machine Y) (by decide) rfl (xa_cons (x_var (pv 2) rfl) (xa_cons (e_of (f_list rfl rfl (Y.free 3) (w_of (x_var (pv 9) rfl)))) (xa_cons (e_of (f_list rfl rfl (Y.free 3) (w_of (x_var (pv 10) rfl)))) xa_nil))))) rfl) (owS_le (by decide)) (by decide))
  (c_cons (o1 := owS []) (s_up (s_for T.po T.calm (i_rng1 rfl (Y.free 0) x_int) (g_nm (pg_name (i := 19) T.nd rfl (Or.inl rfl)) rfl) (c_cons (o1 := owS []) (c_if (t_not (t_tst (w_of (x_own1 T (c_law_integer Y) (by decide) rfl (xa_cons (x_meth (mn := "write") rfl T (c_Row_write Y) (by decide) (fun _ _ _ _ _ h => h) (x_var (pv 17) rfl) (xa_cons (x_var (pv 3) rfl) (xa_cons (e_of (f_list rfl rfl (Y.free 3) (w_of (x_var (pv 11) rfl)))) xa_nil))) (xa_cons (x_idx (w_of (x_var (pv 13) rfl)) (w_of (x_var (pv 7) rfl))) xa_nil)))) (by intro _; rfl))) (c_one (s_up (s_ret x_bl) (owS_le (by decide)) (by decide))) (c_cut (o1 := owS []) c_nil (owS_le (by decide)) (by decide)))
  (c_cons (o1 := owS []) (c_if (t_not (t_tst (w_of (x_own1 T (c_law_integer Y) (by decide) rfl (xa_cons (x_meth (mn := "write") rfl T (c_Machine_write Y) (by decide) (fun _ _ _ _ _ h => h) (x_var (pv 18) rfl) (xa_cons (x_var (pv 3) rfl) (xa_cons (e_of (f_list rfl rfl (Y.free 3) (w_of (x_var (pv 11) rfl)))) xa_nil))) (xa_cons (x_var (pv 15) rfl) xa_nil)))) (by intro _; rfl))) (c_one (s_up (s_ret x_bl) (owS_le (by decide)) (by decide))) (c_cut (o1 := owS []) c_nil (owS_le (by decide)) (by decide)))
  (c_cons (o1 := owS []) (c_if (t_not (t_tst (w_of (x_own1 T (c_law_integer Y) (by decide) rfl (xa_cons (x_meth (mn := "write") rfl T (c_Row_write Y) (by decide) (fun _ _ _ _ _ h => h) (x_var (pv 17) rfl) (xa_cons (x_var (pv 4) rfl) (xa_cons (e_of (f_list rfl rfl (Y.free 3) (w_of (x_var (pv 12) rfl)))) xa_nil))) (xa_cons (x_idx (w_of (x_var (pv 14) rfl)) (w_of (x_var (pv 7) rfl))) xa_nil)))) (by intro _; rfl))) (c_one (s_up (s_ret x_bl) (owS_le (by decide)) (by decide))) (c_cut (o1 := owS []) c_nil (owS_le (by decide)) (by decide)))
  (c_cons (o1 := owS []) (c_if (t_not (t_tst (w_of (x_own1 T (c_law_integer Y) (by decide) rfl (xa_cons (x_meth (mn := "write") rfl T (c_Machine_write Y) (by decide) (fun _ _ _ _ _ h => h) (x_var (pv 18) rfl) (xa_cons (x_var (pv 4) rfl) (xa_cons (e_of (f_list rfl rfl (Y.free 3) (w_of (x_var (pv 12) rfl)))) xa_nil))) (xa_cons (x_var (pv 16) rfl) xa_nil)))) (by intro _; rfl))) (c_one (s_up (s_ret x_bl) (owS_le (by decide)) (by decide))) (c_cut (o1 := owS []) c_nil (owS_le (by decide)) (by decide)))
  (c_cons (o1 := owS []) (c_if (t_not (t_tst (w_of (x_own1 T (c_law_same Y) (by decide) rfl (xa_cons (x_meth (mn := "all_words") rfl T (c_Row_all_words Y) (by decide) (fun _ _ _ _ _ h => h) (x_var (pv 17) rfl) (xa_cons (x_var (pv 4) rfl) (xa_cons (x_t1 v_tuple n_tuple rfl (Y.free 4) hv_tuple (w_of (x_var (pv 12) rfl))) xa_nil))) (xa_cons (x_var (pv 14) rfl) xa_nil)))) (by intro _; rfl))) (c_one (s_up (s_ret x_bl) (owS_le (by decide)) (by decide))) (c_cut (o1 := owS []) c_nil (owS_le (by decide)) (by decide)))
  (c_cons (o1 := owS []) (c_if (t_not (t_tst (w_of (x_own1 T (c_law_same Y) (by decide) rfl (xa_cons (x_meth (mn := "all_words") rfl T (c_Row_all_words Y) (by decide) (fun _ _ _ _ _ h => h) (x_var (pv 17) rfl) (xa_cons (x_var (pv 3) rfl) (xa_cons (x_t1 v_tuple n_tuple rfl (Y.free 4) hv_tuple (w_of (x_var (pv 11) rfl))) xa_nil))) (xa_cons (x_var (pv 13) rfl) xa_nil)))) (by intro _; rfl))) (c_one (s_up (s_ret x_bl) (owS_le (by decide)) (by decide))) (c_cut (o1 := owS []) c_nil (owS_le (by decide)) (by decide)))
  (c_cons (o1 := owS []) (c_if (PW.pt (t_or (t_not (t_tst (w_of (x_own1 T (c_law_integer Y) (by decide) rfl (xa_cons (x_meth (mn := "write") rfl T (c_Row_write Y) (by decide) (fun _ _ _ _ _ h => h) (x_var (pv 17) rfl) (xa_cons (x_var (pv 4) rfl) (xa_cons (x_t1 v_tuple n_tuple rfl (Y.free 4) hv_tuple (w_of (x_var (pv 12) rfl))) xa_nil))) (xa_cons (x_idx (w_of (x_var (pv 14) rfl)) (w_of (x_var (pv 7) rfl))) xa_nil)))) (by intro _; rfl))) (t_or1 (t_not (t_tst (w_of (x_own1 T (c_law_integer Y) (by decide) rfl (xa_cons (x_meth (mn := "write") rfl T (c_Row_write Y) (by decide) (fun _ _ _ _ _ h => h) (x_var (pv 17) rfl) (xa_cons (x_var (pv 3) rfl) (xa_cons (x_t1 v_tuple n_tuple rfl (Y.free 4) hv_tuple (w_of (x_var (pv 11) rfl))) xa_nil))) (xa_cons (x_idx (w_of (x_var (pv 13) rfl)) (w_of (x_var (pv 7) rfl))) xa_nil)))) (by intro _; rfl)))))) (c_one (s_up (s_ret x_bl) (owS_le (by decide)) (by decide))) (c_cut (o1 := owS []) c_nil (owS_le (by decide)) (by decide)))
  (c_cons (o1 := owS []) (c_if (PW.pt (t_or (t_not (t_tst (w_of (x_own1 T (c_law_integer Y) (by decide) rfl (xa_cons (x_meth (mn := "write") rfl T (c_Machine_write Y) (by decide) (fun _ _ _ _ _ h => h) (x_var (pv 18) rfl) (xa_cons (x_var (pv 3) rfl) (xa_cons (x_t1 v_tuple n_tuple rfl (Y.free 4) hv_tuple (w_of (x_var (pv 11) rfl))) xa_nil))) (xa_cons (x_var (pv 15) rfl) xa_nil)))) (by intro _; rfl))) (t_or1 (t_not (t_tst (w_of (x_own1 T (c_law_integer Y) (by decide) rfl (xa_cons (x_meth (mn := "write") rfl T (c_Machine_write Y) (by decide) (fun _ _ _ _ _ h => h) (x_var (pv 18) rfl) (xa_cons (x_var (pv 4) rfl) (xa_cons (x_t1 v_tuple n_tuple rfl (Y.free 4) hv_tuple (w_of (x_var (pv 12) rfl))) xa_nil))) (xa_cons (x_var (pv 16) rfl) xa_nil)))) (by intro _; rfl)))))) (c_one (s_up (s_ret x_bl) (owS_le (by decide)) (by decide))) (c_cut (o1 := owS []) c_nil (owS_le (by decide)) (by decide)))
  (c_cons (o1 := owS []) (s_up (s_set (ps_set (i := 20) T.nd rfl (Or.inl rfl) (e_of (f_list rfl rfl (Y.free 3) (w_of (x_var (pv 11) rfl))))) rfl) (owS_le (by decide)) (by decide))
  (c_cons (o1 := owS []) (c_if (PW.pt (t_or (t_not (t_tst (w_of (x_own1 T (c_law_same Y) (by decide) rfl (xa_cons (x_meth (mn := "all_words") rfl T (c_Row_all_words Y) (by decide) (fun _ _ _ _ _ h => h) (x_var (pv 17) rfl) (xa_cons (x_var (pv 3) rfl) (xa_cons (x_var (pv 20) rfl) xa_nil))) (xa_cons (x_var (pv 13) rfl) xa_nil)))) (by intro _; rfl))) (t_or1 (t_cmp T.ne n_ne b_ne (w_of (x_var (pv 20) rfl)) (w_of (x_var (pv 11) rfl)) rfl)))) (c_one (s_up (s_ret x_bl) (owS_le (by decide)) (by decide))) (c_cut (o1 := owS []) c_nil (owS_le (by decide)) (by decide)))
  (c_cons (o1 := owS []) (c_if (PW.pt (t_or (t_not (t_tst (w_of (x_own1 T (c_law_integer Y) (by decide) rfl (xa_cons (x_meth (mn := "write") rfl T (c_Row_write Y) (by decide) (fun _ _ _ _ _ h => h) (x_var (pv 17) rfl) (xa_cons (x_var (pv 3) rfl) (xa_cons (x_var (pv 20) rfl) xa_nil))) (xa_cons (x_idx (w_of (x_var (pv 13) rfl)) (w_of (x_var (pv 7) rfl))) xa_nil)))) (by intro _; rfl))) (t_or1 (t_cmp T.ne n_ne b_ne (w_of (x_var (pv 20) rfl)) (w_of (x_var (pv 11) rfl)) rfl)))) (c_one (s_up (s_ret x_bl) (owS_le (by decide)) (by decide))) (c_cut (o1 := owS []) c_nil (owS_le (by decide)) (by decide)))
  (c_one (c_if (PW.pt (t_or (t_not (t_tst (w_of (x_own1 T (c_law_integer Y) (by decide) rfl (xa_cons (x_meth (mn := "write") rfl T (c_Machine_write Y) (by decide) (fun _ _ _ _ _ h => h) (x_var (pv 18) rfl) (xa_cons (x_var (pv 3) rfl) (xa_cons (x_var (pv 20) rfl) xa_nil))) (xa_cons (x_var (pv 15) rfl) xa_nil)))) (by intro _; rfl))) (t_or1 (t_cmp T.ne n_ne b_ne (w_of (x_var (pv 20) rfl)) (w_of (x_var (pv 11) rfl)) rfl)))) (c_one (s_up (s_ret x_bl) (owS_le (by decide)) (by decide))) (c_cut (o1 := owS []) c_nil (owS_le (by decide)) (by decide)))))))))))))))) (owS_le (by decide)) (by decide))
  (c_one (s_up (s_ret x_bl) (owS_le (by decide)) (by decide)))))))))))))))))) (owS_le (by decide)) (by decide))))))))))
theorem S_law : FnScope N_law ["script"] sc_law := ⟨rfl, rfl, rfl, by decide +kernel, rfl, by decide +kernel, by decide +kernel⟩
theorem law_is (Y : Fs w K mg) : ∃ fd : FuncData, (∀ (s : Shared) (u : Value), BindsTo s fd ⟨[u], []⟩ [("script", u)]) ∧ ∀ base : Heap, FnOk P w K mg base (L2.CX P w) 9 (He.ga K "law") fd ["script"] (spM K 1 m_law) :=
  law_ok (qual := "law") (params := defArgs st_law) (body := defBody st_law) (scope := sc_law) (f := He.ga K "law") (N := N_law) (m := b_law) (ow := ow_law) (Y.def_ 37) S_law rfl rfl (fun _ _ _ _ _ _ us hl => match us, hl with | [_], _ => rfl) (fun base cdv A outer s H E T => (ss_one (s_thru T fun T1 => (ss_one (s_ret (x_own1 T1 (c_law_holds Y) (by decide) rfl (xa_cons (x_var (pv 0) rfl) xa_nil)))))))
end
abbrev lo0 : List Str := ["_wall", "is_integer", "is_number", "is_inputs", "as_tuple", "is_below", "is_word", "are_words", "CarryError", "InvalidNumber", "InvalidWords", "InvalidReading", "InvalidMachine", "InvalidRow", "SIZES", "are_values", "is_count_deed", "is_deed", "counted_word", "deed_word", "Row", "is_reading", "letters_of", "is_line", "right_nexts", "right_outs", "Machine", "_law_cell", "_law_mixed", "_law_draws"]
abbrev lo1 : List Str := ["_law_word", "_law_table", "_law_deed", "_law_count", "_law_value", "_law_numbers", "_law_number", "_law_integer", "_law_same", "_law_low_too", "_law_holds"]
abbrev lo : List Str := lo0 ++ lo1
abbrev R : PySem.W.OpenRow := PySem.W.OpenLaw.row PySem.Challenge.rw_onlycarries_k12_whole_low_bits
abbrev hk : PySem.W.Hook := hookX 5 (fun K => noL K && mss.all fun m => m K) fa fns tbs
def ob (s : PySem.W.SharedT) : AlX := obsXG 5 (fun K => noL K && mss.all fun m => m K) fa fns tbs (HandSHeadRun.getT s)
theorem ob_eq (s : PySem.W.SharedT) : ob s = hk.obs s.abs := obsXG_eq (HandSHeadRun.getT_eq s)
end Py

namespace Py
open PySem PySem.Spec PyProof.Rows L2
theorem run0 (w : World) : HandSHeadRun.RunEq R (PySem.W.view R.prog [47]) hk ob 8000 lo (w.withFollow "special-get-raises" false) := by
  intro os
  kernel_rfl
theorem run1 (w : World) : HandSHeadRun.RunEq R (PySem.W.view R.prog [47]) hk ob 8000 lo (w.withFollow "special-get-raises" true) := by
  intro os
  kernel_rfl
theorem run (w : World) : HandSHeadRun.RunEq R (PySem.W.view R.prog [47]) hk ob 8000 lo w := PySem.W.byRow2 "special-get-raises" run0 run1 w
end Py
open PySem PySem.W PySem.Calls PyProof.Rows
theorem PySem.Challenge.cw_onlycarries_k12_whole_low_bits_holds : PySem.Challenge.rw_onlycarries_k12_whole_low_bits.Holds := by
  w_on; o_law
  refine HandSHeadRun.head_any (r := OpenLaw.row PySem.Challenge.rw_onlycarries_k12_whole_low_bits) (q := view (OpenLaw.row PySem.Challenge.rw_onlycarries_k12_whole_low_bits).prog [47]) (H := Py.hk) (ob := Py.ob) (M := 8000) (loose := Py.lo) (d := HandSHeadRun.topDef (OpenLaw.row PySem.Challenge.rw_onlycarries_k12_whole_low_bits).prog 47) (kwd := []) Py.ob_eq
    (by kernel_rfl) (fun s => by kernel_rfl) Py.run (by kernel_rfl) (by kernel_rfl) (by kernel_rfl) (by rfl) (by first | assumption | decide +kernel) (by decide +kernel) ⟨rfl, rfl, rfl, rfl, rfl, by decide +kernel⟩ ?hw ?hc
  case hw => w_witness2
  case hc =>
    refine Py.walk_ofW (l := PySem.Challenge.rw_onlycarries_k12_whole_low_bits) (n := 63) (k := 9) (x := "script") (CX := fun w => L2.CX PySem.Challenge.pw_onlycarries_k12_whole_low_bits w) rfl (by decide) (by kernel_rfl) ⟨rfl, by decide, by decide⟩ ?F (fun _ _ _ _ _ z => Py.cx_none z)
    intro w mg fa h Y G hmg0
    obtain ⟨K, KX, c, m⟩ := Y
    have hmg : mg ("law" : PySem.Str) = some (.ref fa) := by
      have e : (HandSHeadRun.topDef (OpenLaw.row PySem.Challenge.rw_onlycarries_k12_whole_low_bits).prog 47).name = ("law" : PySem.Str) := by kernel_rfl
      rw [← e]
      exact hmg0
    have YY : Py.Fs w K mg := ⟨c, m, h, KX, G⟩
    have e2 := hmg.symm.trans (YY.glo 54)
    cases e2
    obtain ⟨fd, hb, hF⟩ := Py.law_is (P := (PySem.Challenge.rw_onlycarries_k12_whole_low_bits).prog) YY
    exact ⟨K, fd, _, KX, hb, fun H a ns hl _ hS => Py.sp_law YY.noL (Py.U.law_true ns hl) hS, fun base _ _ => hF base⟩
